/- A part of the proofs of the statements of package linchpinlaw33: AbsX, LData, LBase, LSpec1, LSpec2, LSpec3, AbsY. -/
import Derived.IntWalk
import Derived.Lib.TrimUEq
import Derived.Test.YtbpdiikonpbgeaaGreatDoorP04
set_option linter.all false
section
namespace Go.Abs
section
variable {Γ : Ctx} {draw : Bool} {r : List GI} {env rs : List Ent} {nx : Nat} {m : List (Nat × Blk)} {K : List Ent → St → Prop} {g : Option (Nat × Bool)} {f : Bool}
/-- byte i of a text, as a number -/
def at8 (s : List UInt8) (i : Nat) : Int := ((s.getD i 0).toNat : Int)
theorem at8_lt (s : List UInt8) (i : Nat) : 0 ≤ at8 s i ∧ at8 s i < 256 := by
  have := (s.getD i 0).toNat_lt
  unfold at8; omega
def D.isStrD : D → Bool
  | .str _ => true
  | _ => false
theorem wrap_i64 {a : Int} (h1 : -9223372036854775808 ≤ a) (h2 : a ≤ 9223372036854775807) : IntKind.i64.wrap a = a := IntWalk.i64_in _ (by omega)
theorem beq_dec (a b : List UInt8) : (a == b) = decide (a = b) := by
  by_cases h : a = b
  · subst h; simp
  · simp [h]
theorem getD_map {α : Type} [Inhabited α] {q : α → D} {xs : List α} {i : Nat} (h : i < xs.length) : (xs.map q).getD i .any = q xs[i]! := by
  simp [List.getD, h]
theorem u8_str (b : UInt8) : (D.int .u8 b.toNat).u8 = b := by simp [D.u8]
theorem b2s_str (s : List UInt8) : D.str ((s.map fun b => D.int .u8 b.toNat).map D.u8) = .str s := by
  congr 1
  rw [List.map_map]
  conv => rhs; rw [← List.map_id s]
  apply List.map_congr_left
  intro b _
  exact u8_str b
def GF (rs : List Ent) : Option (Nat × Bool) → Bool → Prop
  | none, f => f = true
  | some (j, w), f => ∃ ok b, evR [] rs (.l j) = ⟨ok, .bool b⟩ ∧ (ok && (b == w)) = f
theorem GF.flag (h : GF rs g f) : flag rs.reverse g = f ∧ gokF rs.reverse g := by
  cases g with
  | none => exact ⟨h.symm, trivial⟩
  | some jw =>
    obtain ⟨j, w⟩ := jw
    obtain ⟨ok, b, h1, h2⟩ := h
    have h3 : rs.reverse.getD j .un = ⟨ok, .bool b⟩ := by rw [← h1, ← evR_rev]; rfl
    simp only [Abs.flag, gokF, h3, h2, D.isBool]
    exact ⟨trivial, fun _ => trivial⟩
theorem r_base {i : Ins} (hM : i.isCallM = false) (hF : i.forks draw g = false) (hC : g.isSome = true → i.calm = true) (hg : GF rs g f) (d : D) (ho : f = true → i.obl Γ (evR env rs) m)
    (hv : f = true → i.val Γ (evR env rs) m (nx + rs.length) = d) (m' : List (Nat × Blk)) (hm : i.eff Γ (evR env rs) m (nx + rs.length) = m')
    (h : (f = true → i.asm draw (evR env rs)) → regR Γ draw r env (⟨f, d⟩ :: rs) nx m' K) : regR Γ draw (⟨i, g⟩ :: r) env rs nx m K := by
  obtain ⟨hf, hb⟩ := hg.flag
  unfold regR
  rw [regW_cons hM hF, evR_rev, hf]
  refine ⟨?_, ho, fun ha => ⟨d, by simpa using hv, ?_⟩⟩
  · cases g with
    | none => trivial
    | some jw => exact ⟨hC rfl, hb⟩
  · have := h ha
    unfold regR at this
    simp only [List.reverse_cons] at this
    simpa only [List.length_reverse, hm] using this
theorem r_calm {i : Ins} (hC : i.calm = true) (hg : GF rs g f) (d : D) (ho : f = true → i.obl Γ (evR env rs) m)
    (hv : f = true → i.val Γ (evR env rs) m (nx + rs.length) = d) (m' : List (Nat × Blk)) (hm : i.eff Γ (evR env rs) m (nx + rs.length) = m')
    (h : (f = true → i.asm draw (evR env rs)) → regR Γ draw r env (⟨f, d⟩ :: rs) nx m' K) : regR Γ draw (⟨i, g⟩ :: r) env rs nx m K :=
  r_base (by cases i <;> first | rfl | cases hC) (by simp [Ins.forks, hC]) (fun _ => hC) hg d ho hv m' hm h
theorem r_pure {i : Ins} (hC : i.pure = true) (hg : GF rs g f) (d : D) (ho : f = true → i.obl Γ (evR env rs) m)
    (hv : f = true → i.val Γ (evR env rs) m (nx + rs.length) = d) 
    (h : (f = true → i.asm draw (evR env rs)) → regR Γ draw r env (⟨f, d⟩ :: rs) nx m K) : regR Γ draw (⟨i, g⟩ :: r) env rs nx m K :=
  r_calm (pure_calm hC) hg d ho hv m (pure_eff hC) h
theorem r_none {i : Ins} (hM : i.isCallM = false) (d : D) (ho : i.obl Γ (evR env rs) m)
    (hv : i.val Γ (evR env rs) m (nx + rs.length) = d) (m' : List (Nat × Blk)) (hm : i.eff Γ (evR env rs) m (nx + rs.length) = m')
    (h : i.asm draw (evR env rs) → regR Γ draw r env (⟨true, d⟩ :: rs) nx m' K) : regR Γ draw (⟨i, none⟩ :: r) env rs nx m K :=
  r_base hM (by simp [Ins.forks]) (fun h => by cases h) rfl d (fun _ => ho) (fun _ => hv) m' hm (fun ha => h (ha rfl))
/-- what writes, under a guard -/
theorem r_fork {i : Ins} {j : Nat} {w : Bool} (hM : i.isCallM = false) (hC : i.calm = false) (hg : GF rs (some (j, w)) f) (h1 : f = true → ∃ d, i.obl Γ (evR env rs) m ∧ i.val Γ (evR env rs) m (nx + rs.length) = d ∧ ∃ m', i.eff Γ (evR env rs) m (nx + rs.length) = m' ∧ regR Γ false r env (⟨true, d⟩ :: rs) nx m' K)
    (h2 : f = false → regR Γ false r env (⟨false, .any⟩ :: rs) nx m K) : regR Γ false (⟨i, some (j, w)⟩ :: r) env rs nx m K := by
  obtain ⟨hf, hb⟩ := hg.flag
  unfold regR
  rw [regW_fork hM (by simp [Ins.forks, hC]), evR_rev, hf]
  refine ⟨hb, fun e => ?_, fun e => ?_⟩
  · obtain ⟨d, o1, o2, m', o3, o4⟩ := h1 e
    refine ⟨o1, ?_⟩
    unfold regR at o4
    simp only [List.reverse_cons] at o4
    simpa only [List.length_reverse, o2, o3] using o4
  · have := h2 e
    unfold regR at this
    simpa only [List.reverse_cons] using this
theorem r_mv {x : Src} {fx : Bool} {d : D} (h : regR Γ draw r env (⟨f, d⟩ :: rs) nx m K) (hg : GF rs g f := by first | exact rfl | exact ⟨_, _, rfl, rfl⟩) (hx : evR env rs x = ⟨fx, d⟩ := by exact rfl) (kx : f = true → fx = true := by first | exact fun _ => rfl | exact fun h => h | (intro h; simp_all)) : regR Γ draw (⟨.mv x, g⟩ :: r) env rs nx m K :=
  r_pure rfl hg _ (fun hf => by simp [Ins.obl, hx, kx hf]) (fun hf => by simp [Ins.val, hx]) (fun ha => h)
theorem r_not {x : Src} {fx : Bool} {b : Bool} (h : regR Γ draw r env (⟨f, .bool (!b)⟩ :: rs) nx m K) (hg : GF rs g f := by first | exact rfl | exact ⟨_, _, rfl, rfl⟩) (hx : evR env rs x = ⟨fx, .bool b⟩ := by exact rfl) (kx : f = true → fx = true := by first | exact fun _ => rfl | exact fun h => h | (intro h; simp_all)) : regR Γ draw (⟨.un .not x, g⟩ :: r) env rs nx m K :=
  r_pure rfl hg _ (fun hf => by simp [Ins.obl, hx, kx hf]) (fun hf => by simp [Ins.val, hx]) (fun ha => h)
theorem r_or {c b : Src} {fc fb t y : Bool} (h : regR Γ draw r env (⟨f, .bool (t || y)⟩ :: rs) nx m K) (hg : GF rs g f := by first | exact rfl | exact ⟨_, _, rfl, rfl⟩) (hc : evR env rs c = ⟨fc, .bool t⟩ := by exact rfl) (hb : evR env rs b = ⟨fb, .bool y⟩ := by exact rfl) (kc : f = true → fc = true := by first | exact fun _ => rfl | exact fun h => h | (intro h; simp_all)) (kb : f = true → t = false → fb = true := by intro h1 h2; first | (rw [h2]; exact rfl) | (rw [h2, h1]; rfl) | (rw [h1, h2]; rfl) | simp_all) : regR Γ draw (⟨.pick c (.c (.bool true)) b, g⟩ :: r) env rs nx m K :=
  r_pure rfl hg _ (fun hf => by simp only [Ins.obl, hc, hb]; exact ⟨kc hf, fun _ => rfl, fun e => kb hf e⟩) (fun hf => by simp only [Ins.val, hc, hb]; cases t <;> rfl) (fun _ => h)
theorem r_and {c a : Src} {fc fa t y : Bool} (h : regR Γ draw r env (⟨f, .bool (t && y)⟩ :: rs) nx m K) (hg : GF rs g f := by first | exact rfl | exact ⟨_, _, rfl, rfl⟩) (hc : evR env rs c = ⟨fc, .bool t⟩ := by exact rfl) (ha : evR env rs a = ⟨fa, .bool y⟩ := by exact rfl) (kc : f = true → fc = true := by first | exact fun _ => rfl | exact fun h => h | (intro h; simp_all)) (ka : f = true → t = true → fa = true := by intro h1 h2; first | (rw [h2]; exact rfl) | (rw [h2, h1]; rfl) | (rw [h1, h2]; rfl) | simp_all) : regR Γ draw (⟨.pick c a (.c (.bool false)), g⟩ :: r) env rs nx m K :=
  r_pure rfl hg _ (fun hf => by simp only [Ins.obl, hc, ha]; exact ⟨kc hf, fun e => ka hf e, fun _ => rfl⟩) (fun hf => by simp only [Ins.val, hc, ha]; cases t <;> rfl) (fun _ => h)
theorem r_add64 {x y : Src} {fx fy : Bool} {a b : Int} (h : regR Γ draw r env (⟨f, .int .i64 (a + b)⟩ :: rs) nx m K) (hg : GF rs g f := by first | exact rfl | exact ⟨_, _, rfl, rfl⟩) (hx : evR env rs x = ⟨fx, .int .i64 a⟩ := by exact rfl) (hy : evR env rs y = ⟨fy, .int .i64 b⟩ := by exact rfl) (kx : f = true → fx = true := by first | exact fun _ => rfl | exact fun h => h | (intro h; simp_all)) (ky : f = true → fy = true := by first | exact fun _ => rfl | exact fun h => h | (intro h; simp_all)) (hb : f = true → -9223372036854775808 ≤ a + b ∧ a + b ≤ 9223372036854775807 := by intro h; first | (constructor <;> omega) | (simp at h; constructor <;> omega)) : regR Γ draw (⟨.bin .add x y, g⟩ :: r) env rs nx m K :=
  r_pure rfl hg _ (fun hf => by simp [Ins.obl, hx, hy, kx hf, ky hf, binO]) (fun hf => by simp only [Ins.val, hx, hy, binV]; rw [wrap_i64 (hb hf).1 (hb hf).2]) (fun ha => h)
theorem r_addK {x y : Src} {fx fy : Bool} {k : IntKind} {a b : Int} (v : Int) (h : regR Γ draw r env (⟨f, .int k v⟩ :: rs) nx m K) (hg : GF rs g f := by first | exact rfl | exact ⟨_, _, rfl, rfl⟩) (hx : evR env rs x = ⟨fx, .int k a⟩ := by exact rfl) (hy : evR env rs y = ⟨fy, .int k b⟩ := by exact rfl) (kx : f = true → fx = true := by first | exact fun _ => rfl | exact fun h => h | (intro h; simp_all)) (ky : f = true → fy = true := by first | exact fun _ => rfl | exact fun h => h | (intro h; simp_all)) (hb : f = true → k.wrap (a + b) = v) : regR Γ draw (⟨.bin .add x y, g⟩ :: r) env rs nx m K :=
  r_pure rfl hg _ (fun hf => by simp [Ins.obl, hx, hy, kx hf, ky hf, binO]) (fun hf => by simp only [Ins.val, hx, hy, binV]; rw [hb hf]) (fun ha => h)
theorem r_sub64 {x y : Src} {fx fy : Bool} {a b : Int} (h : regR Γ draw r env (⟨f, .int .i64 (a - b)⟩ :: rs) nx m K) (hg : GF rs g f := by first | exact rfl | exact ⟨_, _, rfl, rfl⟩) (hx : evR env rs x = ⟨fx, .int .i64 a⟩ := by exact rfl) (hy : evR env rs y = ⟨fy, .int .i64 b⟩ := by exact rfl) (kx : f = true → fx = true := by first | exact fun _ => rfl | exact fun h => h | (intro h; simp_all)) (ky : f = true → fy = true := by first | exact fun _ => rfl | exact fun h => h | (intro h; simp_all)) (hb : f = true → -9223372036854775808 ≤ a - b ∧ a - b ≤ 9223372036854775807 := by intro h; first | (constructor <;> omega) | (simp at h; constructor <;> omega)) : regR Γ draw (⟨.bin .sub x y, g⟩ :: r) env rs nx m K :=
  r_pure rfl hg _ (fun hf => by simp [Ins.obl, hx, hy, kx hf, ky hf, binO]) (fun hf => by simp only [Ins.val, hx, hy, binV]; rw [wrap_i64 (hb hf).1 (hb hf).2]) (fun ha => h)
theorem r_subK {x y : Src} {fx fy : Bool} {k : IntKind} {a b : Int} (v : Int) (h : regR Γ draw r env (⟨f, .int k v⟩ :: rs) nx m K) (hg : GF rs g f := by first | exact rfl | exact ⟨_, _, rfl, rfl⟩) (hx : evR env rs x = ⟨fx, .int k a⟩ := by exact rfl) (hy : evR env rs y = ⟨fy, .int k b⟩ := by exact rfl) (kx : f = true → fx = true := by first | exact fun _ => rfl | exact fun h => h | (intro h; simp_all)) (ky : f = true → fy = true := by first | exact fun _ => rfl | exact fun h => h | (intro h; simp_all)) (hb : f = true → k.wrap (a - b) = v) : regR Γ draw (⟨.bin .sub x y, g⟩ :: r) env rs nx m K :=
  r_pure rfl hg _ (fun hf => by simp [Ins.obl, hx, hy, kx hf, ky hf, binO]) (fun hf => by simp only [Ins.val, hx, hy, binV]; rw [hb hf]) (fun ha => h)
theorem r_mul64 {x y : Src} {fx fy : Bool} {a b : Int} (h : regR Γ draw r env (⟨f, .int .i64 (a * b)⟩ :: rs) nx m K) (hg : GF rs g f := by first | exact rfl | exact ⟨_, _, rfl, rfl⟩) (hx : evR env rs x = ⟨fx, .int .i64 a⟩ := by exact rfl) (hy : evR env rs y = ⟨fy, .int .i64 b⟩ := by exact rfl) (kx : f = true → fx = true := by first | exact fun _ => rfl | exact fun h => h | (intro h; simp_all)) (ky : f = true → fy = true := by first | exact fun _ => rfl | exact fun h => h | (intro h; simp_all)) (hb : f = true → -9223372036854775808 ≤ a * b ∧ a * b ≤ 9223372036854775807 := by intro h; first | (constructor <;> omega) | (simp at h; constructor <;> omega)) : regR Γ draw (⟨.bin .mul x y, g⟩ :: r) env rs nx m K :=
  r_pure rfl hg _ (fun hf => by simp [Ins.obl, hx, hy, kx hf, ky hf, binO]) (fun hf => by simp only [Ins.val, hx, hy, binV]; rw [wrap_i64 (hb hf).1 (hb hf).2]) (fun ha => h)
theorem r_mulK {x y : Src} {fx fy : Bool} {k : IntKind} {a b : Int} (v : Int) (h : regR Γ draw r env (⟨f, .int k v⟩ :: rs) nx m K) (hg : GF rs g f := by first | exact rfl | exact ⟨_, _, rfl, rfl⟩) (hx : evR env rs x = ⟨fx, .int k a⟩ := by exact rfl) (hy : evR env rs y = ⟨fy, .int k b⟩ := by exact rfl) (kx : f = true → fx = true := by first | exact fun _ => rfl | exact fun h => h | (intro h; simp_all)) (ky : f = true → fy = true := by first | exact fun _ => rfl | exact fun h => h | (intro h; simp_all)) (hb : f = true → k.wrap (a * b) = v) : regR Γ draw (⟨.bin .mul x y, g⟩ :: r) env rs nx m K :=
  r_pure rfl hg _ (fun hf => by simp [Ins.obl, hx, hy, kx hf, ky hf, binO]) (fun hf => by simp only [Ins.val, hx, hy, binV]; rw [hb hf]) (fun ha => h)
theorem r_quo {x y : Src} {fx fy : Bool} {k : IntKind} {a b : Int} (v : Int) (h : regR Γ draw r env (⟨f, .int k v⟩ :: rs) nx m K) (hg : GF rs g f := by first | exact rfl | exact ⟨_, _, rfl, rfl⟩) (hx : evR env rs x = ⟨fx, .int k a⟩ := by exact rfl) (hy : evR env rs y = ⟨fy, .int k b⟩ := by exact rfl) (kx : f = true → fx = true := by first | exact fun _ => rfl | exact fun h => h | (intro h; simp_all)) (ky : f = true → fy = true := by first | exact fun _ => rfl | exact fun h => h | (intro h; simp_all)) (hn : f = true → b ≠ 0) (hb : f = true → k.wrap (a.tdiv b) = v) : regR Γ draw (⟨.bin .quo x y, g⟩ :: r) env rs nx m K :=
  r_pure rfl hg _ (fun hf => by simp [Ins.obl, hx, hy, kx hf, ky hf, binO, hn hf]) (fun hf => by simp only [Ins.val, hx, hy, binV]; rw [hb hf]) (fun ha => h)
theorem r_rem {x y : Src} {fx fy : Bool} {k : IntKind} {a b : Int} (v : Int) (h : regR Γ draw r env (⟨f, .int k v⟩ :: rs) nx m K) (hg : GF rs g f := by first | exact rfl | exact ⟨_, _, rfl, rfl⟩) (hx : evR env rs x = ⟨fx, .int k a⟩ := by exact rfl) (hy : evR env rs y = ⟨fy, .int k b⟩ := by exact rfl) (kx : f = true → fx = true := by first | exact fun _ => rfl | exact fun h => h | (intro h; simp_all)) (ky : f = true → fy = true := by first | exact fun _ => rfl | exact fun h => h | (intro h; simp_all)) (hn : f = true → b ≠ 0) (hb : f = true → a.tmod b = v) : regR Γ draw (⟨.bin .rem x y, g⟩ :: r) env rs nx m K :=
  r_pure rfl hg _ (fun hf => by simp [Ins.obl, hx, hy, kx hf, ky hf, binO, hn hf]) (fun hf => by simp only [Ins.val, hx, hy, binV]; rw [hb hf]) (fun ha => h)
theorem r_shl {x y : Src} {fx fy : Bool} {k k2 : IntKind} {a b : Int} (v : Int) (h : regR Γ draw r env (⟨f, .int k v⟩ :: rs) nx m K) (hg : GF rs g f := by first | exact rfl | exact ⟨_, _, rfl, rfl⟩) (hx : evR env rs x = ⟨fx, .int k a⟩ := by exact rfl) (hy : evR env rs y = ⟨fy, .int k2 b⟩ := by exact rfl) (kx : f = true → fx = true := by first | exact fun _ => rfl | exact fun h => h | (intro h; simp_all)) (ky : f = true → fy = true := by first | exact fun _ => rfl | exact fun h => h | (intro h; simp_all)) (hn : f = true → 0 ≤ b := by intro h; first | omega | (simp at h; omega)) (hb : f = true → k.wrap (a * 2 ^ (min b.toNat k.bits)) = v) : regR Γ draw (⟨.bin .shl x y, g⟩ :: r) env rs nx m K :=
  r_pure rfl hg _ (fun hf => by simp [Ins.obl, hx, hy, kx hf, ky hf, binO, hn hf]) (fun hf => by simp only [Ins.val, hx, hy, binV]; rw [hb hf]) (fun ha => h)
theorem r_shr {x y : Src} {fx fy : Bool} {k k2 : IntKind} {a b : Int} (v : Int) (h : regR Γ draw r env (⟨f, .int k v⟩ :: rs) nx m K) (hg : GF rs g f := by first | exact rfl | exact ⟨_, _, rfl, rfl⟩) (hx : evR env rs x = ⟨fx, .int k a⟩ := by exact rfl) (hy : evR env rs y = ⟨fy, .int k2 b⟩ := by exact rfl) (kx : f = true → fx = true := by first | exact fun _ => rfl | exact fun h => h | (intro h; simp_all)) (ky : f = true → fy = true := by first | exact fun _ => rfl | exact fun h => h | (intro h; simp_all)) (hn : f = true → 0 ≤ b := by intro h; first | omega | (simp at h; omega)) (hb : f = true → a.fdiv (2 ^ (min b.toNat k.bits)) = v) : regR Γ draw (⟨.bin .shr x y, g⟩ :: r) env rs nx m K :=
  r_pure rfl hg _ (fun hf => by simp [Ins.obl, hx, hy, kx hf, ky hf, binO, hn hf]) (fun hf => by simp only [Ins.val, hx, hy, binV]; rw [hb hf]) (fun ha => h)
theorem r_band {x y : Src} {fx fy : Bool} {k : IntKind} {a b : Int} (v : Int) (h : regR Γ draw r env (⟨f, .int k v⟩ :: rs) nx m K) (hg : GF rs g f := by first | exact rfl | exact ⟨_, _, rfl, rfl⟩) (hx : evR env rs x = ⟨fx, .int k a⟩ := by exact rfl) (hy : evR env rs y = ⟨fy, .int k b⟩ := by exact rfl) (kx : f = true → fx = true := by first | exact fun _ => rfl | exact fun h => h | (intro h; simp_all)) (ky : f = true → fy = true := by first | exact fun _ => rfl | exact fun h => h | (intro h; simp_all)) (hb : f = true → k.wrap (((BitVec.ofInt k.bits a) &&& (BitVec.ofInt k.bits b)).toNat) = v) : regR Γ draw (⟨.bin .and x y, g⟩ :: r) env rs nx m K :=
  r_pure rfl hg _ (fun hf => by simp [Ins.obl, hx, hy, kx hf, ky hf, binO]) (fun hf => by simp only [Ins.val, hx, hy, binV]; rw [hb hf]) (fun ha => h)
theorem r_bor {x y : Src} {fx fy : Bool} {k : IntKind} {a b : Int} (v : Int) (h : regR Γ draw r env (⟨f, .int k v⟩ :: rs) nx m K) (hg : GF rs g f := by first | exact rfl | exact ⟨_, _, rfl, rfl⟩) (hx : evR env rs x = ⟨fx, .int k a⟩ := by exact rfl) (hy : evR env rs y = ⟨fy, .int k b⟩ := by exact rfl) (kx : f = true → fx = true := by first | exact fun _ => rfl | exact fun h => h | (intro h; simp_all)) (ky : f = true → fy = true := by first | exact fun _ => rfl | exact fun h => h | (intro h; simp_all)) (hb : f = true → k.wrap (((BitVec.ofInt k.bits a) ||| (BitVec.ofInt k.bits b)).toNat) = v) : regR Γ draw (⟨.bin .or x y, g⟩ :: r) env rs nx m K :=
  r_pure rfl hg _ (fun hf => by simp [Ins.obl, hx, hy, kx hf, ky hf, binO]) (fun hf => by simp only [Ins.val, hx, hy, binV]; rw [hb hf]) (fun ha => h)
theorem r_bxor {x y : Src} {fx fy : Bool} {k : IntKind} {a b : Int} (v : Int) (h : regR Γ draw r env (⟨f, .int k v⟩ :: rs) nx m K) (hg : GF rs g f := by first | exact rfl | exact ⟨_, _, rfl, rfl⟩) (hx : evR env rs x = ⟨fx, .int k a⟩ := by exact rfl) (hy : evR env rs y = ⟨fy, .int k b⟩ := by exact rfl) (kx : f = true → fx = true := by first | exact fun _ => rfl | exact fun h => h | (intro h; simp_all)) (ky : f = true → fy = true := by first | exact fun _ => rfl | exact fun h => h | (intro h; simp_all)) (hb : f = true → k.wrap (((BitVec.ofInt k.bits a) ^^^ (BitVec.ofInt k.bits b)).toNat) = v) : regR Γ draw (⟨.bin .xor x y, g⟩ :: r) env rs nx m K :=
  r_pure rfl hg _ (fun hf => by simp [Ins.obl, hx, hy, kx hf, ky hf, binO]) (fun hf => by simp only [Ins.val, hx, hy, binV]; rw [hb hf]) (fun ha => h)
theorem r_lssI {x y : Src} {fx fy : Bool} {k : IntKind} {a b : Int} (h : regR Γ draw r env (⟨f, .bool (decide (a < b))⟩ :: rs) nx m K) (hg : GF rs g f := by first | exact rfl | exact ⟨_, _, rfl, rfl⟩) (hx : evR env rs x = ⟨fx, .int k a⟩ := by exact rfl) (hy : evR env rs y = ⟨fy, .int k b⟩ := by exact rfl) (kx : f = true → fx = true := by first | exact fun _ => rfl | exact fun h => h | (intro h; simp_all)) (ky : f = true → fy = true := by first | exact fun _ => rfl | exact fun h => h | (intro h; simp_all)) : regR Γ draw (⟨.bin .lss x y, g⟩ :: r) env rs nx m K :=
  r_pure rfl hg _ (fun hf => by simp [Ins.obl, hx, hy, kx hf, ky hf, binO]) (fun hf => by simp only [Ins.val, hx, hy, binV] <;> rfl) (fun ha => h)
theorem r_leqI {x y : Src} {fx fy : Bool} {k : IntKind} {a b : Int} (h : regR Γ draw r env (⟨f, .bool (decide (a ≤ b))⟩ :: rs) nx m K) (hg : GF rs g f := by first | exact rfl | exact ⟨_, _, rfl, rfl⟩) (hx : evR env rs x = ⟨fx, .int k a⟩ := by exact rfl) (hy : evR env rs y = ⟨fy, .int k b⟩ := by exact rfl) (kx : f = true → fx = true := by first | exact fun _ => rfl | exact fun h => h | (intro h; simp_all)) (ky : f = true → fy = true := by first | exact fun _ => rfl | exact fun h => h | (intro h; simp_all)) : regR Γ draw (⟨.bin .leq x y, g⟩ :: r) env rs nx m K :=
  r_pure rfl hg _ (fun hf => by simp [Ins.obl, hx, hy, kx hf, ky hf, binO]) (fun hf => by simp only [Ins.val, hx, hy, binV] <;> rfl) (fun ha => h)
theorem r_gtrI {x y : Src} {fx fy : Bool} {k : IntKind} {a b : Int} (h : regR Γ draw r env (⟨f, .bool (decide (b < a))⟩ :: rs) nx m K) (hg : GF rs g f := by first | exact rfl | exact ⟨_, _, rfl, rfl⟩) (hx : evR env rs x = ⟨fx, .int k a⟩ := by exact rfl) (hy : evR env rs y = ⟨fy, .int k b⟩ := by exact rfl) (kx : f = true → fx = true := by first | exact fun _ => rfl | exact fun h => h | (intro h; simp_all)) (ky : f = true → fy = true := by first | exact fun _ => rfl | exact fun h => h | (intro h; simp_all)) : regR Γ draw (⟨.bin .gtr x y, g⟩ :: r) env rs nx m K :=
  r_pure rfl hg _ (fun hf => by simp [Ins.obl, hx, hy, kx hf, ky hf, binO]) (fun hf => by simp only [Ins.val, hx, hy, binV] <;> rfl) (fun ha => h)
theorem r_geqI {x y : Src} {fx fy : Bool} {k : IntKind} {a b : Int} (h : regR Γ draw r env (⟨f, .bool (decide (b ≤ a))⟩ :: rs) nx m K) (hg : GF rs g f := by first | exact rfl | exact ⟨_, _, rfl, rfl⟩) (hx : evR env rs x = ⟨fx, .int k a⟩ := by exact rfl) (hy : evR env rs y = ⟨fy, .int k b⟩ := by exact rfl) (kx : f = true → fx = true := by first | exact fun _ => rfl | exact fun h => h | (intro h; simp_all)) (ky : f = true → fy = true := by first | exact fun _ => rfl | exact fun h => h | (intro h; simp_all)) : regR Γ draw (⟨.bin .geq x y, g⟩ :: r) env rs nx m K :=
  r_pure rfl hg _ (fun hf => by simp [Ins.obl, hx, hy, kx hf, ky hf, binO]) (fun hf => by simp only [Ins.val, hx, hy, binV] <;> rfl) (fun ha => h)
theorem r_eqlI {x y : Src} {fx fy : Bool} {k : IntKind} {a b : Int} (h : regR Γ draw r env (⟨f, .bool (decide (a = b))⟩ :: rs) nx m K) (hg : GF rs g f := by first | exact rfl | exact ⟨_, _, rfl, rfl⟩) (hx : evR env rs x = ⟨fx, .int k a⟩ := by exact rfl) (hy : evR env rs y = ⟨fy, .int k b⟩ := by exact rfl) (kx : f = true → fx = true := by first | exact fun _ => rfl | exact fun h => h | (intro h; simp_all)) (ky : f = true → fy = true := by first | exact fun _ => rfl | exact fun h => h | (intro h; simp_all)) : regR Γ draw (⟨.bin .eql x y, g⟩ :: r) env rs nx m K :=
  r_pure rfl hg _ (fun hf => by simp [Ins.obl, hx, hy, kx hf, ky hf, binO]) (fun hf => by simp only [Ins.val, hx, hy, binV] <;> rfl) (fun ha => h)
theorem r_neqI {x y : Src} {fx fy : Bool} {k : IntKind} {a b : Int} (h : regR Γ draw r env (⟨f, .bool (!decide (a = b))⟩ :: rs) nx m K) (hg : GF rs g f := by first | exact rfl | exact ⟨_, _, rfl, rfl⟩) (hx : evR env rs x = ⟨fx, .int k a⟩ := by exact rfl) (hy : evR env rs y = ⟨fy, .int k b⟩ := by exact rfl) (kx : f = true → fx = true := by first | exact fun _ => rfl | exact fun h => h | (intro h; simp_all)) (ky : f = true → fy = true := by first | exact fun _ => rfl | exact fun h => h | (intro h; simp_all)) : regR Γ draw (⟨.bin .neq x y, g⟩ :: r) env rs nx m K :=
  r_pure rfl hg _ (fun hf => by simp [Ins.obl, hx, hy, kx hf, ky hf, binO]) (fun hf => by simp only [Ins.val, hx, hy, binV] <;> rfl) (fun ha => h)
theorem r_lssS {x y : Src} {fx fy : Bool} {a b : List UInt8} (h : regR Γ draw r env (⟨f, .bool (Op.bytesLess a b)⟩ :: rs) nx m K) (hg : GF rs g f := by first | exact rfl | exact ⟨_, _, rfl, rfl⟩) (hx : evR env rs x = ⟨fx, .str a⟩ := by exact rfl) (hy : evR env rs y = ⟨fy, .str b⟩ := by exact rfl) (kx : f = true → fx = true := by first | exact fun _ => rfl | exact fun h => h | (intro h; simp_all)) (ky : f = true → fy = true := by first | exact fun _ => rfl | exact fun h => h | (intro h; simp_all)) : regR Γ draw (⟨.bin .lss x y, g⟩ :: r) env rs nx m K :=
  r_pure rfl hg _ (fun hf => by simp [Ins.obl, hx, hy, kx hf, ky hf, binO]) (fun hf => by simp only [Ins.val, hx, hy, binV, beq_dec]) (fun ha => h)
theorem r_geqS {x y : Src} {fx fy : Bool} {a b : List UInt8} (h : regR Γ draw r env (⟨f, .bool (!Op.bytesLess a b)⟩ :: rs) nx m K) (hg : GF rs g f := by first | exact rfl | exact ⟨_, _, rfl, rfl⟩) (hx : evR env rs x = ⟨fx, .str a⟩ := by exact rfl) (hy : evR env rs y = ⟨fy, .str b⟩ := by exact rfl) (kx : f = true → fx = true := by first | exact fun _ => rfl | exact fun h => h | (intro h; simp_all)) (ky : f = true → fy = true := by first | exact fun _ => rfl | exact fun h => h | (intro h; simp_all)) : regR Γ draw (⟨.bin .geq x y, g⟩ :: r) env rs nx m K :=
  r_pure rfl hg _ (fun hf => by simp [Ins.obl, hx, hy, kx hf, ky hf, binO]) (fun hf => by simp only [Ins.val, hx, hy, binV, beq_dec]) (fun ha => h)
theorem r_eqlS {x y : Src} {fx fy : Bool} {a b : List UInt8} (h : regR Γ draw r env (⟨f, .bool (decide (a = b))⟩ :: rs) nx m K) (hg : GF rs g f := by first | exact rfl | exact ⟨_, _, rfl, rfl⟩) (hx : evR env rs x = ⟨fx, .str a⟩ := by exact rfl) (hy : evR env rs y = ⟨fy, .str b⟩ := by exact rfl) (kx : f = true → fx = true := by first | exact fun _ => rfl | exact fun h => h | (intro h; simp_all)) (ky : f = true → fy = true := by first | exact fun _ => rfl | exact fun h => h | (intro h; simp_all)) : regR Γ draw (⟨.bin .eql x y, g⟩ :: r) env rs nx m K :=
  r_pure rfl hg _ (fun hf => by simp [Ins.obl, hx, hy, kx hf, ky hf, binO]) (fun hf => by simp only [Ins.val, hx, hy, binV, beq_dec]) (fun ha => h)
theorem r_neqS {x y : Src} {fx fy : Bool} {a b : List UInt8} (h : regR Γ draw r env (⟨f, .bool (!decide (a = b))⟩ :: rs) nx m K) (hg : GF rs g f := by first | exact rfl | exact ⟨_, _, rfl, rfl⟩) (hx : evR env rs x = ⟨fx, .str a⟩ := by exact rfl) (hy : evR env rs y = ⟨fy, .str b⟩ := by exact rfl) (kx : f = true → fx = true := by first | exact fun _ => rfl | exact fun h => h | (intro h; simp_all)) (ky : f = true → fy = true := by first | exact fun _ => rfl | exact fun h => h | (intro h; simp_all)) : regR Γ draw (⟨.bin .neq x y, g⟩ :: r) env rs nx m K :=
  r_pure rfl hg _ (fun hf => by simp [Ins.obl, hx, hy, kx hf, ky hf, binO]) (fun hf => by simp only [Ins.val, hx, hy, binV, beq_dec]) (fun ha => h)
theorem r_addS {x y : Src} {fx fy : Bool} {a b : List UInt8} (h : regR Γ draw r env (⟨f, .str (a ++ b)⟩ :: rs) nx m K) (hg : GF rs g f := by first | exact rfl | exact ⟨_, _, rfl, rfl⟩) (hx : evR env rs x = ⟨fx, .str a⟩ := by exact rfl) (hy : evR env rs y = ⟨fy, .str b⟩ := by exact rfl) (kx : f = true → fx = true := by first | exact fun _ => rfl | exact fun h => h | (intro h; simp_all)) (ky : f = true → fy = true := by first | exact fun _ => rfl | exact fun h => h | (intro h; simp_all)) (hb : f = true → a.length + b.length ≤ 9223372036854775807) : regR Γ draw (⟨.bin .add x y, g⟩ :: r) env rs nx m K :=
  r_pure rfl hg _ (fun hf => by simp [Ins.obl, hx, hy, kx hf, ky hf, binO, hb hf]) (fun hf => by simp only [Ins.val, hx, hy, binV]) (fun ha => h)
theorem r_eqP {x y : Src} {fx fy : Bool} {ag : Bool} {ks : List CK} {a b : D} {v : Bool} (h : regR Γ draw r env (⟨f, .bool (v)⟩ :: rs) nx m K) (hb : eqDs a.cells b.cells = v) (hg : GF rs g f := by first | exact rfl | exact ⟨_, _, rfl, rfl⟩) (hx : evR env rs x = ⟨fx, a⟩ := by exact rfl) (hy : evR env rs y = ⟨fy, b⟩ := by exact rfl) (kx : f = true → fx = true := by first | exact fun _ => rfl | exact fun h => h | (intro h; simp_all)) (ky : f = true → fy = true := by first | exact fun _ => rfl | exact fun h => h | (intro h; simp_all)) (h1 : f = true → a.isAgg = ag ∧ b.isAgg = ag ∧ fitsK ks a.cells ∧ fitsK ks b.cells := by intro h; repeat' first | exact trivial | exact rfl | exact h | refine And.intro ?_ ?_ | decide) : regR Γ draw (⟨.eqA false ag ks x y, g⟩ :: r) env rs nx m K :=
  r_pure rfl hg _ (fun hf => by simp only [Ins.obl, hx, hy]; exact ⟨kx hf, ky hf, h1 hf⟩) (fun hf => by simp only [Ins.val, hx, hy]; rw [hb]; rfl) (fun ha => h)
theorem r_eqN {x y : Src} {fx fy : Bool} {ag : Bool} {ks : List CK} {a b : D} {v : Bool} (h : regR Γ draw r env (⟨f, .bool (!v)⟩ :: rs) nx m K) (hb : eqDs a.cells b.cells = v) (hg : GF rs g f := by first | exact rfl | exact ⟨_, _, rfl, rfl⟩) (hx : evR env rs x = ⟨fx, a⟩ := by exact rfl) (hy : evR env rs y = ⟨fy, b⟩ := by exact rfl) (kx : f = true → fx = true := by first | exact fun _ => rfl | exact fun h => h | (intro h; simp_all)) (ky : f = true → fy = true := by first | exact fun _ => rfl | exact fun h => h | (intro h; simp_all)) (h1 : f = true → a.isAgg = ag ∧ b.isAgg = ag ∧ fitsK ks a.cells ∧ fitsK ks b.cells := by intro h; repeat' first | exact trivial | exact rfl | exact h | refine And.intro ?_ ?_ | decide) : regR Γ draw (⟨.eqA true ag ks x y, g⟩ :: r) env rs nx m K :=
  r_pure rfl hg _ (fun hf => by simp only [Ins.obl, hx, hy]; exact ⟨kx hf, ky hf, h1 hf⟩) (fun hf => by simp only [Ins.val, hx, hy]; rw [hb]; rfl) (fun ha => h)
theorem r_cvi {x : Src} {fx : Bool} {k k2 : IntKind} {a : Int} (v : Int) (h : regR Γ draw r env (⟨f, .int k v⟩ :: rs) nx m K) (hg : GF rs g f := by first | exact rfl | exact ⟨_, _, rfl, rfl⟩) (hx : evR env rs x = ⟨fx, .int k2 a⟩ := by exact rfl) (kx : f = true → fx = true := by first | exact fun _ => rfl | exact fun h => h | (intro h; simp_all)) (hb : f = true → k.wrap a = v) : regR Γ draw (⟨.cvi k x, g⟩ :: r) env rs nx m K :=
  r_pure rfl hg _ (fun hf => by simp [Ins.obl, hx, kx hf]) (fun hf => by simp only [Ins.val, hx]; rw [hb hf]) (fun ha => h)
theorem r_lenS {x : Src} {fx : Bool} {s : List UInt8} (h : (f = true → draw = false → s.length ≤ 9223372036854775807) → regR Γ draw r env (⟨f, .int .i64 s.length⟩ :: rs) nx m K) (hg : GF rs g f := by first | exact rfl | exact ⟨_, _, rfl, rfl⟩) (hx : evR env rs x = ⟨fx, .str s⟩ := by exact rfl) (kx : f = true → fx = true := by first | exact fun _ => rfl | exact fun h => h | (intro h; simp_all)) : regR Γ draw (⟨.lenS x, g⟩ :: r) env rs nx m K :=
  r_pure rfl hg _ (fun hf => by simp [Ins.obl, hx, kx hf]) (fun hf => by simp [Ins.val, hx]) (fun ha => h (fun hf hd => by have := ha hf; subst hd; simpa [Ins.asm, hx, kx hf] using this))
theorem r_lenM {x : Src} {fx : Bool} {α : Type} {k : Nat} {q : α → D} {xs : List α} (h : (f = true → draw = false → xs.length ≤ 9223372036854775807) → regR Γ draw r env (⟨f, .int .i64 xs.length⟩ :: rs) nx m K) (hg : GF rs g f := by first | exact rfl | exact ⟨_, _, rfl, rfl⟩) (hx : evR env rs x = ⟨fx, .sl k (xs.map q)⟩ := by exact rfl) (kx : f = true → fx = true := by first | exact fun _ => rfl | exact fun h => h | (intro h; simp_all)) : regR Γ draw (⟨.len x, g⟩ :: r) env rs nx m K :=
  r_pure rfl hg _ (fun hf => by simp [Ins.obl, hx, kx hf]) (fun hf => by simp [Ins.val, hx]) (fun ha => h (fun hf hd => by have := ha hf; subst hd; simpa [Ins.asm, hx, kx hf] using this))
theorem r_lenO {x : Src} {fx : Bool} {l k i n : Nat} (h : (f = true → draw = false → n ≤ 9223372036854775807) → regR Γ draw r env (⟨f, .int .i64 n⟩ :: rs) nx m K) (hg : GF rs g f := by first | exact rfl | exact ⟨_, _, rfl, rfl⟩) (hx : evR env rs x = ⟨fx, .own l k i n⟩ := by exact rfl) (kx : f = true → fx = true := by first | exact fun _ => rfl | exact fun h => h | (intro h; simp_all)) : regR Γ draw (⟨.len x, g⟩ :: r) env rs nx m K :=
  r_pure rfl hg _ (fun hf => by simp [Ins.obl, hx, kx hf]) (fun hf => by simp [Ins.val, hx]) (fun ha => h (fun hf hd => by have := ha hf; subst hd; simpa [Ins.asm, hx, kx hf] using this))
theorem r_nilP {x : Src} {fx : Bool} {l k i o : Nat} (h : regR Γ draw r env (⟨f, .ptr l k i o⟩ :: rs) nx m K) (hg : GF rs g f := by first | exact rfl | exact ⟨_, _, rfl, rfl⟩) (hx : evR env rs x = ⟨fx, .ptr l k i o⟩ := by exact rfl) (kx : f = true → fx = true := by first | exact fun _ => rfl | exact fun h => h | (intro h; simp_all)) : regR Γ draw (⟨.nilck x, g⟩ :: r) env rs nx m K :=
  r_pure rfl hg _ (fun hf => by simp [Ins.obl, hx, kx hf]) (fun hf => by simp [Ins.val, hx]) (fun ha => h)
theorem r_nilR {x : Src} {fx : Bool} {k i o : Nat} {es : List D} (h : regR Γ draw r env (⟨f, .ref k es i o⟩ :: rs) nx m K) (hg : GF rs g f := by first | exact rfl | exact ⟨_, _, rfl, rfl⟩) (hx : evR env rs x = ⟨fx, .ref k es i o⟩ := by exact rfl) (kx : f = true → fx = true := by first | exact fun _ => rfl | exact fun h => h | (intro h; simp_all)) : regR Γ draw (⟨.nilck x, g⟩ :: r) env rs nx m K :=
  r_pure rfl hg _ (fun hf => by simp [Ins.obl, hx, kx hf]) (fun hf => by simp [Ins.val, hx]) (fun ha => h)
theorem r_faP {x : Src} {fx : Bool} {off l k i o : Nat} (h : regR Γ draw r env (⟨f, .ptr l k i (o + off)⟩ :: rs) nx m K) (hg : GF rs g f := by first | exact rfl | exact ⟨_, _, rfl, rfl⟩) (hx : evR env rs x = ⟨fx, .ptr l k i o⟩ := by exact rfl) (kx : f = true → fx = true := by first | exact fun _ => rfl | exact fun h => h | (intro h; simp_all)) : regR Γ draw (⟨.fa off x, g⟩ :: r) env rs nx m K :=
  r_pure rfl hg _ (fun hf => by simp [Ins.obl, hx, kx hf]) (fun hf => by simp [Ins.val, hx]) (fun ha => h)
theorem r_faR {x : Src} {fx : Bool} {off k i o : Nat} {es : List D} (h : regR Γ draw r env (⟨f, .ref k es i (o + off)⟩ :: rs) nx m K) (hg : GF rs g f := by first | exact rfl | exact ⟨_, _, rfl, rfl⟩) (hx : evR env rs x = ⟨fx, .ref k es i o⟩ := by exact rfl) (kx : f = true → fx = true := by first | exact fun _ => rfl | exact fun h => h | (intro h; simp_all)) : regR Γ draw (⟨.fa off x, g⟩ :: r) env rs nx m K :=
  r_pure rfl hg _ (fun hf => by simp [Ins.obl, hx, kx hf]) (fun hf => by simp [Ins.val, hx]) (fun ha => h)
theorem r_iaM {x y : Src} {fx fy : Bool} {α : Type} {k : Nat} {q : α → D} {xs : List α} {i : Int} {kk : IntKind} (j : Nat) (h : regR Γ draw r env (⟨f, .ref k (xs.map q) j 0⟩ :: rs) nx m K) (hg : GF rs g f := by first | exact rfl | exact ⟨_, _, rfl, rfl⟩) (hx : evR env rs x = ⟨fx, .sl k (xs.map q)⟩ := by exact rfl) (hy : evR env rs y = ⟨fy, .int kk i⟩ := by exact rfl) (kx : f = true → fx = true := by first | exact fun _ => rfl | exact fun h => h | (intro h; simp_all)) (ky : f = true → fy = true := by first | exact fun _ => rfl | exact fun h => h | (intro h; simp_all)) (hj : f = true → i = (j : Int) := by first | exact fun _ => rfl | (intro h; omega) | (intro h; simp at h; omega)) (hb : f = true → j < xs.length := by intro h; first | omega | (simp at h; omega)) : regR Γ draw (⟨.ia k x y, g⟩ :: r) env rs nx m K :=
  r_pure rfl hg _ (fun hf => by simp only [Ins.obl, hx, hy, List.length_map]; exact ⟨kx hf, ky hf, trivial, by have := hj hf; omega, by have := hj hf; have := hb hf; omega⟩) (fun hf => by simp only [Ins.val, hx, hy]; rw [hj hf]; rfl) (fun ha => h)
theorem r_iaO {x y : Src} {fx fy : Bool} {l k i0 n : Nat} {i : Int} {kk : IntKind} (j : Nat) (h : regR Γ draw r env (⟨f, .ptr l k (i0 + j) 0⟩ :: rs) nx m K) (hg : GF rs g f := by first | exact rfl | exact ⟨_, _, rfl, rfl⟩) (hx : evR env rs x = ⟨fx, .own l k i0 n⟩ := by exact rfl) (hy : evR env rs y = ⟨fy, .int kk i⟩ := by exact rfl) (kx : f = true → fx = true := by first | exact fun _ => rfl | exact fun h => h | (intro h; simp_all)) (ky : f = true → fy = true := by first | exact fun _ => rfl | exact fun h => h | (intro h; simp_all)) (hj : f = true → i = (j : Int) := by first | exact fun _ => rfl | (intro h; omega) | (intro h; simp at h; omega)) (hb : f = true → j < n := by intro h; first | omega | (simp at h; omega)) : regR Γ draw (⟨.ia k x y, g⟩ :: r) env rs nx m K :=
  r_pure rfl hg _ (fun hf => by simp only [Ins.obl, hx, hy]; exact ⟨kx hf, ky hf, trivial, by have := hj hf; omega, by have := hj hf; have := hb hf; omega⟩) (fun hf => by simp only [Ins.val, hx, hy]; rw [hj hf]; rfl) (fun ha => h)
theorem r_iaPP {x y : Src} {fx fy : Bool} {l k k2 n i0 o : Nat} {i : Int} {kk : IntKind} (j : Nat) (h : regR Γ draw r env (⟨f, .ptr l k2 i0 (o + j * k)⟩ :: rs) nx m K) (hg : GF rs g f := by first | exact rfl | exact ⟨_, _, rfl, rfl⟩) (hx : evR env rs x = ⟨fx, .ptr l k2 i0 o⟩ := by exact rfl) (hy : evR env rs y = ⟨fy, .int kk i⟩ := by exact rfl) (kx : f = true → fx = true := by first | exact fun _ => rfl | exact fun h => h | (intro h; simp_all)) (ky : f = true → fy = true := by first | exact fun _ => rfl | exact fun h => h | (intro h; simp_all)) (hj : f = true → i = (j : Int) := by first | exact fun _ => rfl | (intro h; omega) | (intro h; simp at h; omega)) (hb : f = true → j < n := by intro h; first | omega | (simp at h; omega)) : regR Γ draw (⟨.iaP n k x y, g⟩ :: r) env rs nx m K :=
  r_pure rfl hg _ (fun hf => by simp only [Ins.obl, hx, hy]; exact ⟨kx hf, ky hf, by have := hj hf; omega, by have := hj hf; have := hb hf; omega⟩) (fun hf => by simp only [Ins.val, hx, hy]; rw [hj hf]; rfl) (fun ha => h)
theorem r_iaPR {x y : Src} {fx fy : Bool} {k k2 n i0 o : Nat} {es : List D} {i : Int} {kk : IntKind} (j : Nat) (h : regR Γ draw r env (⟨f, .ref k2 es i0 (o + j * k)⟩ :: rs) nx m K) (hg : GF rs g f := by first | exact rfl | exact ⟨_, _, rfl, rfl⟩) (hx : evR env rs x = ⟨fx, .ref k2 es i0 o⟩ := by exact rfl) (hy : evR env rs y = ⟨fy, .int kk i⟩ := by exact rfl) (kx : f = true → fx = true := by first | exact fun _ => rfl | exact fun h => h | (intro h; simp_all)) (ky : f = true → fy = true := by first | exact fun _ => rfl | exact fun h => h | (intro h; simp_all)) (hj : f = true → i = (j : Int) := by first | exact fun _ => rfl | (intro _; omega)) (hb : f = true → j < n := by intro _; omega) : regR Γ draw (⟨.iaP n k x y, g⟩ :: r) env rs nx m K :=
  r_pure rfl hg _ (fun hf => by simp only [Ins.obl, hx, hy]; exact ⟨kx hf, ky hf, by have := hj hf; omega, by have := hj hf; have := hb hf; omega⟩) (fun hf => by simp only [Ins.val, hx, hy]; rw [hj hf]; rfl) (fun ha => h)
theorem r_ixS {x y : Src} {fx fy : Bool} {s : List UInt8} {i : Int} {kk : IntKind} (j : Nat) (h : regR Γ draw r env (⟨f, .int .u8 (at8 s j)⟩ :: rs) nx m K) (hg : GF rs g f := by first | exact rfl | exact ⟨_, _, rfl, rfl⟩) (hx : evR env rs x = ⟨fx, .str s⟩ := by exact rfl) (hy : evR env rs y = ⟨fy, .int kk i⟩ := by exact rfl) (kx : f = true → fx = true := by first | exact fun _ => rfl | exact fun h => h | (intro h; simp_all)) (ky : f = true → fy = true := by first | exact fun _ => rfl | exact fun h => h | (intro h; simp_all)) (hj : f = true → i = (j : Int) := by first | exact fun _ => rfl | (intro h; omega) | (intro h; simp at h; omega)) (hb : f = true → j < s.length := by intro h; first | omega | (simp at h; omega)) : regR Γ draw (⟨.ixS x y, g⟩ :: r) env rs nx m K :=
  r_pure rfl hg _ (fun hf => by simp only [Ins.obl, hx, hy]; exact ⟨kx hf, ky hf, by have := hj hf; omega, by have := hj hf; have := hb hf; omega⟩) (fun hf => by simp only [Ins.val, hx, hy]; rw [hj hf]; rfl) (fun ha => h)
theorem r_ixA {x y : Src} {fx fy : Bool} {n k : Nat} {ag : Bool} {cs : List D} {i : Int} {kk : IntKind} (j : Nat) (v : D) (h : regR Γ draw r env (⟨f, v⟩ :: rs) nx m K) (hg : GF rs g f := by first | exact rfl | exact ⟨_, _, rfl, rfl⟩) (hx : evR env rs x = ⟨fx, .agg cs⟩ := by exact rfl) (hy : evR env rs y = ⟨fy, .int kk i⟩ := by exact rfl) (kx : f = true → fx = true := by first | exact fun _ => rfl | exact fun h => h | (intro h; simp_all)) (ky : f = true → fy = true := by first | exact fun _ => rfl | exact fun h => h | (intro h; simp_all)) (hj : f = true → i = (j : Int) := by first | exact fun _ => rfl | (intro h; omega) | (intro h; simp at h; omega)) (hb : f = true → j < n := by intro h; first | omega | (simp at h; omega)) (hl : cs.length = n * k := by exact rfl) (h1 : ag = false → k = 1 := by intro h; first | exact rfl | cases h) (hv : f = true → cut cs (j * k) k ag = v) : regR Γ draw (⟨.ixA n k ag x y, g⟩ :: r) env rs nx m K :=
  r_pure rfl hg _ (fun hf => by simp only [Ins.obl, hx, hy]; exact ⟨kx hf, ky hf, h1, by have := hj hf; omega, by have := hj hf; have := hb hf; omega, hl⟩) (fun hf => by simp only [Ins.val, hx, hy]; rw [← hv hf, hj hf]; rfl) (fun ha => h)
theorem r_iaMT {x y : Src} {fx fy : Bool} {α : Type} {k : Nat} {q : α → D} {xs : List α} {i : Int} {kk : IntKind} (h : regR Γ draw r env (⟨f, .ref k (xs.map q) i.toNat 0⟩ :: rs) nx m K) (hg : GF rs g f := by first | exact rfl | exact ⟨_, _, rfl, rfl⟩) (hx : evR env rs x = ⟨fx, .sl k (xs.map q)⟩ := by exact rfl) (hy : evR env rs y = ⟨fy, .int kk i⟩ := by exact rfl) (kx : f = true → fx = true := by first | exact fun _ => rfl | exact fun h => h | (intro h; simp_all)) (ky : f = true → fy = true := by first | exact fun _ => rfl | exact fun h => h | (intro h; simp_all)) (hb : f = true → 0 ≤ i ∧ i < (xs.length : Nat) := by intro h; first | (constructor <;> omega) | (simp at h; constructor <;> omega)) : regR Γ draw (⟨.ia k x y, g⟩ :: r) env rs nx m K :=
  r_pure rfl hg _ (fun hf => by simp only [Ins.obl, hx, hy, List.length_map]; exact ⟨kx hf, ky hf, trivial, (hb hf).1, (hb hf).2⟩) (fun hf => by simp only [Ins.val, hx, hy] <;> rfl) (fun ha => h)
theorem r_ixST {x y : Src} {fx fy : Bool} {s : List UInt8} {i : Int} {kk : IntKind} (h : regR Γ draw r env (⟨f, .int .u8 (at8 s i.toNat)⟩ :: rs) nx m K) (hg : GF rs g f := by first | exact rfl | exact ⟨_, _, rfl, rfl⟩) (hx : evR env rs x = ⟨fx, .str s⟩ := by exact rfl) (hy : evR env rs y = ⟨fy, .int kk i⟩ := by exact rfl) (kx : f = true → fx = true := by first | exact fun _ => rfl | exact fun h => h | (intro h; simp_all)) (ky : f = true → fy = true := by first | exact fun _ => rfl | exact fun h => h | (intro h; simp_all)) (hb : f = true → 0 ≤ i ∧ i < (s.length : Nat) := by intro h; first | (constructor <;> omega) | (simp at h; constructor <;> omega)) : regR Γ draw (⟨.ixS x y, g⟩ :: r) env rs nx m K :=
  r_pure rfl hg _ (fun hf => by simp only [Ins.obl, hx, hy, List.length_map]; exact ⟨kx hf, ky hf, (hb hf).1, (hb hf).2⟩) (fun hf => by simp only [Ins.val, hx, hy] <;> rfl) (fun ha => h)
theorem r_slS_lo {x y : Src} {fx fy : Bool} {s : List UInt8} {k2 : IntKind} {a : Int} (i : Nat) (h : regR Γ draw r env (⟨f, .str (s.drop i)⟩ :: rs) nx m K) (hg : GF rs g f := by first | exact rfl | exact ⟨_, _, rfl, rfl⟩) (hx : evR env rs x = ⟨fx, .str s⟩ := by exact rfl) (hy : evR env rs y = ⟨fy, .int k2 a⟩ := by exact rfl) (kx : f = true → fx = true := by first | exact fun _ => rfl | exact fun h => h | (intro h; simp_all)) (ky : f = true → fy = true := by first | exact fun _ => rfl | exact fun h => h | (intro h; simp_all)) (hi : f = true → a = (i : Int) := by first | exact fun _ => rfl | (intro h; omega) | (intro h; simp at h; omega)) (hb : f = true → i ≤ s.length := by intro h; first | omega | (simp at h; omega)) : regR Γ draw (⟨.slS x (some y) none, g⟩ :: r) env rs nx m K :=
  r_pure rfl hg _ (fun hf => by simp only [Ins.obl, okO, dO, hx, hy]; have := hb hf; have := hi hf; refine ⟨kx hf, ky hf, trivial, ?_⟩; simp only [bndO, bnd, true_and, and_true, Int.ofNat_eq_natCast]; omega) (fun hf => by simp only [Ins.val, dO, bnd, hx, hy]; rw [hi hf]; simp) (fun ha => h)
theorem r_slM_lo {x y : Src} {fx fy : Bool} {α : Type} {k : Nat} {q : α → D} {s : List α} {k2 : IntKind} {a : Int} (i : Nat) (h : regR Γ draw r env (⟨f, .sl k ((s.drop i).map q)⟩ :: rs) nx m K) (hg : GF rs g f := by first | exact rfl | exact ⟨_, _, rfl, rfl⟩) (hx : evR env rs x = ⟨fx, .sl k (s.map q)⟩ := by exact rfl) (hy : evR env rs y = ⟨fy, .int k2 a⟩ := by exact rfl) (kx : f = true → fx = true := by first | exact fun _ => rfl | exact fun h => h | (intro h; simp_all)) (ky : f = true → fy = true := by first | exact fun _ => rfl | exact fun h => h | (intro h; simp_all)) (hi : f = true → a = (i : Int) := by first | exact fun _ => rfl | (intro h; omega) | (intro h; simp at h; omega)) (hb : f = true → i ≤ s.length := by intro h; first | omega | (simp at h; omega)) : regR Γ draw (⟨.slA k x (some y) none, g⟩ :: r) env rs nx m K :=
  r_pure rfl hg _ (fun hf => by simp only [Ins.obl, okO, dO, hx, hy, List.length_map]; have := hb hf; have := hi hf; refine ⟨kx hf, ky hf, trivial, trivial, ?_⟩; simp only [bndO, bnd, true_and, and_true, Int.ofNat_eq_natCast]; omega) (fun hf => by simp only [Ins.val, dO, bnd, hx, hy]; rw [hi hf]; first | (simp only [List.take_length, Int.toNat_natCast, List.map_drop]; done) | simp [List.map_drop, List.map_take]) (fun ha => h)
theorem r_slO_lo {x y : Src} {fx fy : Bool} {l k i0 n : Nat} {k2 : IntKind} {a : Int} (i : Nat) (h : regR Γ draw r env (⟨f, .own l k (i0 + i) (n - i)⟩ :: rs) nx m K) (hg : GF rs g f := by first | exact rfl | exact ⟨_, _, rfl, rfl⟩) (hx : evR env rs x = ⟨fx, .own l k i0 n⟩ := by exact rfl) (hy : evR env rs y = ⟨fy, .int k2 a⟩ := by exact rfl) (kx : f = true → fx = true := by first | exact fun _ => rfl | exact fun h => h | (intro h; simp_all)) (ky : f = true → fy = true := by first | exact fun _ => rfl | exact fun h => h | (intro h; simp_all)) (hi : f = true → a = (i : Int) := by first | exact fun _ => rfl | (intro h; omega) | (intro h; simp at h; omega)) (hb : f = true → i ≤ n := by intro h; first | omega | (simp at h; omega)) : regR Γ draw (⟨.slA k x (some y) none, g⟩ :: r) env rs nx m K :=
  r_pure rfl hg _ (fun hf => by simp only [Ins.obl, okO, dO, hx, hy]; have := hb hf; have := hi hf; refine ⟨kx hf, ky hf, trivial, trivial, ?_⟩; simp only [bndO, bnd, true_and, and_true, Int.ofNat_eq_natCast]; omega) (fun hf => by simp only [Ins.val, dO, bnd, hx, hy]; rw [hi hf]; simp) (fun ha => h)
theorem r_slS_hi {x z : Src} {fx fz : Bool} {s : List UInt8} {k3 : IntKind} {c : Int} (j : Nat) (h : regR Γ draw r env (⟨f, .str (s.take j)⟩ :: rs) nx m K) (hg : GF rs g f := by first | exact rfl | exact ⟨_, _, rfl, rfl⟩) (hx : evR env rs x = ⟨fx, .str s⟩ := by exact rfl) (hz : evR env rs z = ⟨fz, .int k3 c⟩ := by exact rfl) (kx : f = true → fx = true := by first | exact fun _ => rfl | exact fun h => h | (intro h; simp_all)) (kz : f = true → fz = true := by first | exact fun _ => rfl | exact fun h => h | (intro h; simp_all)) (hj : f = true → c = (j : Int) := by first | exact fun _ => rfl | (intro h; omega) | (intro h; simp at h; omega)) (hb : f = true → j ≤ s.length := by intro h; first | omega | (simp at h; omega)) : regR Γ draw (⟨.slS x none (some z), g⟩ :: r) env rs nx m K :=
  r_pure rfl hg _ (fun hf => by simp only [Ins.obl, okO, dO, hx, hz]; have := hb hf; have := hj hf; refine ⟨kx hf, trivial, kz hf, ?_⟩; simp only [bndO, bnd, true_and, and_true, Int.ofNat_eq_natCast]; omega) (fun hf => by simp only [Ins.val, dO, bnd, hx, hz]; rw [hj hf]; simp) (fun ha => h)
theorem r_slO_hi {x z : Src} {fx fz : Bool} {l k i0 n : Nat} {k3 : IntKind} {c : Int} (j : Nat) (h : regR Γ draw r env (⟨f, .own l k i0 j⟩ :: rs) nx m K) (hg : GF rs g f := by first | exact rfl | exact ⟨_, _, rfl, rfl⟩) (hx : evR env rs x = ⟨fx, .own l k i0 n⟩ := by exact rfl) (hz : evR env rs z = ⟨fz, .int k3 c⟩ := by exact rfl) (kx : f = true → fx = true := by first | exact fun _ => rfl | exact fun h => h | (intro h; simp_all)) (kz : f = true → fz = true := by first | exact fun _ => rfl | exact fun h => h | (intro h; simp_all)) (hj : f = true → c = (j : Int) := by first | exact fun _ => rfl | (intro h; omega) | (intro h; simp at h; omega)) (hb : f = true → j ≤ n := by intro h; first | omega | (simp at h; omega)) : regR Γ draw (⟨.slA k x none (some z), g⟩ :: r) env rs nx m K :=
  r_pure rfl hg _ (fun hf => by simp only [Ins.obl, okO, dO, hx, hz]; have := hb hf; have := hj hf; refine ⟨kx hf, trivial, kz hf, trivial, ?_⟩; simp only [bndO, bnd, true_and, and_true, Int.ofNat_eq_natCast]; omega) (fun hf => by simp only [Ins.val, dO, bnd, hx, hz]; rw [hj hf]; simp) (fun ha => h)
theorem r_slS_lh {x y z : Src} {fx fy fz : Bool} {s : List UInt8} {k2 : IntKind} {a : Int} (i : Nat) {k3 : IntKind} {c : Int} (j : Nat) (h : regR Γ draw r env (⟨f, .str ((s.take j).drop i)⟩ :: rs) nx m K) (hg : GF rs g f := by first | exact rfl | exact ⟨_, _, rfl, rfl⟩) (hx : evR env rs x = ⟨fx, .str s⟩ := by exact rfl) (hy : evR env rs y = ⟨fy, .int k2 a⟩ := by exact rfl) (hz : evR env rs z = ⟨fz, .int k3 c⟩ := by exact rfl) (kx : f = true → fx = true := by first | exact fun _ => rfl | exact fun h => h | (intro h; simp_all)) (ky : f = true → fy = true := by first | exact fun _ => rfl | exact fun h => h | (intro h; simp_all)) (kz : f = true → fz = true := by first | exact fun _ => rfl | exact fun h => h | (intro h; simp_all)) (hi : f = true → a = (i : Int) := by first | exact fun _ => rfl | (intro h; omega) | (intro h; simp at h; omega)) (hj : f = true → c = (j : Int) := by first | exact fun _ => rfl | (intro h; omega) | (intro h; simp at h; omega)) (hb : f = true → i ≤ j ∧ j ≤ s.length := by intro h; first | (constructor <;> omega) | (simp at h; constructor <;> omega)) : regR Γ draw (⟨.slS x (some y) (some z), g⟩ :: r) env rs nx m K :=
  r_pure rfl hg _ (fun hf => by simp only [Ins.obl, okO, dO, hx, hy, hz]; have := hb hf; have := hi hf; have := hj hf; refine ⟨kx hf, ky hf, kz hf, ?_⟩; simp only [bndO, bnd, true_and, and_true, Int.ofNat_eq_natCast]; omega) (fun hf => by simp only [Ins.val, dO, bnd, hx, hy, hz]; rw [hi hf, hj hf]; simp) (fun ha => h)
theorem r_ext {x : Src} {fx : Bool} {i : Nat} {ds : List D} (v : D) (h : regR Γ draw r env (⟨f, v⟩ :: rs) nx m K) (hg : GF rs g f := by first | exact rfl | exact ⟨_, _, rfl, rfl⟩) (hx : evR env rs x = ⟨fx, .tup ds⟩ := by exact rfl) (kx : f = true → fx = true := by first | exact fun _ => rfl | exact fun h => h | (intro h; simp_all)) (hv : f = true → ds.getD i .any = v := by exact fun _ => rfl) (hb : f = true → i < ds.length := by intro _; simp only [List.length_cons, List.length_nil]; omega) : regR Γ draw (⟨.ext x i, g⟩ :: r) env rs nx m K :=
  r_pure rfl hg _ (fun hf => by simp only [Ins.obl, hx]; exact ⟨kx hf, hb hf⟩) (fun hf => by simp only [Ins.val, hx]; exact hv hf) (fun ha => h)
theorem r_build {z : List D} {ps : List (Nat × Nat × Src)} (v : List D) (h : regR Γ draw r env (⟨f, .agg v⟩ :: rs) nx m K) (hg : GF rs g f := by first | exact rfl | exact ⟨_, _, rfl, rfl⟩) (hv : f = true → fillP (evR env rs) z ps = v := by exact fun _ => rfl) (ho : f = true → fillO (evR env rs) z.length ps := by intro h; repeat' first | exact trivial | exact rfl | exact h | refine And.intro ?_ ?_ | decide) : regR Γ draw (⟨.build z ps, g⟩ :: r) env rs nx m K :=
  r_pure rfl hg _ (fun hf => ho hf) (fun hf => by simp only [Ins.val]; rw [hv hf]) (fun _ => h)
theorem r_buildD {z : List D} {ps : List (Nat × Nat × Src)} (d : D) (h : regR Γ draw r env (⟨f, d⟩ :: rs) nx m K) (hg : GF rs g f := by first | exact rfl | exact ⟨_, _, rfl, rfl⟩) (hv : f = true → D.agg (fillP (evR env rs) z ps) = d := by exact fun _ => rfl) (ho : f = true → fillO (evR env rs) z.length ps := by intro h; repeat' first | exact trivial | exact rfl | exact h | refine And.intro ?_ ?_ | decide) : regR Γ draw (⟨.build z ps, g⟩ :: r) env rs nx m K :=
  r_pure rfl hg _ (fun hf => ho hf) (fun hf => by simp only [Ins.val]; exact hv hf) (fun _ => h)
theorem ldEl_w {e : D} {n o : Nat} {ag : Bool} (h : e.isAgg = ag) : ldEl e n n o ag = e := by simp [ldEl, h]
theorem r_ldB {x : Src} {fx : Bool} {n l : Nat} {ag : Bool} {d : D} (h : regR Γ draw r env (⟨f, d⟩ :: rs) nx m K) (hg : GF rs g f := by first | exact rfl | exact ⟨_, _, rfl, rfl⟩) (hx : evR env rs x = ⟨fx, .ptr l n 0 0⟩ := by exact rfl) (kx : f = true → fx = true := by first | exact fun _ => rfl | exact fun h => h | (intro h; simp_all)) (hl : f = true → look m l = some (.buf n [d]) := by exact fun _ => rfl) (ha : f = true → d.isAgg = ag := by exact fun _ => rfl) : regR Γ draw (⟨.ld n ag x, g⟩ :: r) env rs nx m K :=
  r_calm rfl hg _ (fun hf => by simp only [Ins.obl, hx, ldO, bufOK, hl hf]; exact ⟨kx hf, ⟨trivial, by simp⟩, by omega⟩) (fun hf => by simp only [Ins.val, hx, ldV, bufEls, hl hf, List.getD_cons_zero]; exact ldEl_w (ha hf)) m rfl (fun ha => h)
theorem r_ldF {x : Src} {fx : Bool} {n l k o : Nat} {ag : Bool} {d : D} (v : D) (h : regR Γ draw r env (⟨f, v⟩ :: rs) nx m K) (hg : GF rs g f := by first | exact rfl | exact ⟨_, _, rfl, rfl⟩) (hx : evR env rs x = ⟨fx, .ptr l k 0 o⟩ := by exact rfl) (kx : f = true → fx = true := by first | exact fun _ => rfl | exact fun h => h | (intro h; simp_all)) (hl : f = true → look m l = some (.buf k [d]) := by exact fun _ => rfl) (hv : f = true → ldEl d k n o ag = v := by exact fun _ => rfl) (ho : o + n ≤ k := by omega) : regR Γ draw (⟨.ld n ag x, g⟩ :: r) env rs nx m K :=
  r_calm rfl hg _ (fun hf => by simp only [Ins.obl, hx, ldO, bufOK, hl hf]; exact ⟨kx hf, ⟨trivial, by simp⟩, ho⟩) (fun hf => by simp only [Ins.val, hx, ldV, bufEls, hl hf, List.getD_cons_zero]; exact hv hf) m rfl (fun ha => h)
theorem r_ldM {x : Src} {fx : Bool} {α : Type} [Inhabited α] {n l k i o : Nat} {ag : Bool} {q : α → D} {xs : List α} (v : D) (h : regR Γ draw r env (⟨f, v⟩ :: rs) nx m K) (hg : GF rs g f := by first | exact rfl | exact ⟨_, _, rfl, rfl⟩) (hx : evR env rs x = ⟨fx, .ptr l k i o⟩ := by exact rfl) (kx : f = true → fx = true := by first | exact fun _ => rfl | exact fun h => h | (intro h; simp_all)) (hl : f = true → look m l = some (.buf k (xs.map q)) := by exact fun _ => rfl) (hi : f = true → i < xs.length := by intro h; first | omega | (simp at h; omega)) (hv : f = true → ldEl (q xs[i]!) k n o ag = v := by exact fun _ => rfl) (ho : o + n ≤ k := by omega) : regR Γ draw (⟨.ld n ag x, g⟩ :: r) env rs nx m K :=
  r_calm rfl hg _ (fun hf => by simp only [Ins.obl, hx, ldO, bufOK, hl hf, List.length_map]; exact ⟨kx hf, ⟨trivial, by have := hi hf; omega⟩, ho⟩) (fun hf => by simp only [Ins.val, hx, ldV, bufEls, hl hf]; rw [getD_map (hi hf)]; exact hv hf) m rfl (fun ha => h)
theorem r_ldR {x : Src} {fx : Bool} {α : Type} [Inhabited α] {n k i o : Nat} {ag : Bool} {q : α → D} {xs : List α} (v : D) (h : regR Γ draw r env (⟨f, v⟩ :: rs) nx m K) (hg : GF rs g f := by first | exact rfl | exact ⟨_, _, rfl, rfl⟩) (hx : evR env rs x = ⟨fx, .ref k (xs.map q) i o⟩ := by exact rfl) (kx : f = true → fx = true := by first | exact fun _ => rfl | exact fun h => h | (intro h; simp_all)) (hi : f = true → i < xs.length := by intro h; first | omega | (simp at h; omega)) (hv : f = true → ldEl (q xs[i]!) k n o ag = v := by exact fun _ => rfl) (ho : o + n ≤ k := by omega) : regR Γ draw (⟨.ld n ag x, g⟩ :: r) env rs nx m K :=
  r_calm rfl hg _ (fun hf => by simp only [Ins.obl, hx, ldO, List.length_map]; exact ⟨kx hf, hi hf, ho⟩) (fun hf => by simp only [Ins.val, hx, ldV]; rw [getD_map (hi hf)]; exact hv hf) m rfl (fun ha => h)
theorem r_ldQ {x : Src} {fx : Bool} {n k i o : Nat} {ag : Bool} {es : List D} (v : D) (h : regR Γ draw r env (⟨f, v⟩ :: rs) nx m K) (hg : GF rs g f := by first | exact rfl | exact ⟨_, _, rfl, rfl⟩) (hx : evR env rs x = ⟨fx, .ref k es i o⟩ := by exact rfl) (kx : f = true → fx = true := by first | exact fun _ => rfl | exact fun h => h | (intro h; simp_all)) (hi : f = true → i < es.length := by intro _; simp only [List.length_cons, List.length_nil]; omega) (hv : f = true → ldEl (es.getD i .any) k n o ag = v := by exact fun _ => rfl) (ho : o + n ≤ k := by omega) : regR Γ draw (⟨.ld n ag x, g⟩ :: r) env rs nx m K :=
  r_calm rfl hg _ (fun hf => by simp only [Ins.obl, hx, ldO]; exact ⟨kx hf, hi hf, ho⟩) (fun hf => by simp only [Ins.val, hx, ldV]; exact hv hf) m rfl (fun ha => h)
theorem r_ldIR {x : Src} {fx : Bool} {α : Type} [Inhabited α] {n k i o : Nat} {ag : Bool} {q : α → D} {xs : List α} (v : D) (h : regR Γ draw r env (⟨f, v⟩ :: rs) nx m K) (hg : GF rs g f := by first | exact rfl | exact ⟨_, _, rfl, rfl⟩) (hx : evR env rs x = ⟨fx, .ref k (xs.map q) i o⟩ := by exact rfl) (kx : f = true → fx = true := by first | exact fun _ => rfl | exact fun h => h | (intro h; simp_all)) (hi : f = true → i < xs.length := by intro h; first | omega | (simp at h; omega)) (hv : f = true → ldEl (q xs[i]!) k n o ag = v := by exact fun _ => rfl) (ho : o + n ≤ k := by omega) : regR Γ draw (⟨.ldI n ag x, g⟩ :: r) env rs nx m K :=
  r_pure rfl hg _ (fun hf => by simp only [Ins.obl, hx, ldO, List.length_map]; exact ⟨kx hf, hi hf, ho⟩) (fun hf => by simp only [Ins.val, hx, ldV]; rw [getD_map (hi hf)]; exact hv hf) (fun ha => h)
theorem r_ldIQ {x : Src} {fx : Bool} {n k i o : Nat} {ag : Bool} {es : List D} (v : D) (h : regR Γ draw r env (⟨f, v⟩ :: rs) nx m K) (hg : GF rs g f := by first | exact rfl | exact ⟨_, _, rfl, rfl⟩) (hx : evR env rs x = ⟨fx, .ref k es i o⟩ := by exact rfl) (kx : f = true → fx = true := by first | exact fun _ => rfl | exact fun h => h | (intro h; simp_all)) (hi : f = true → i < es.length := by intro _; simp only [List.length_cons, List.length_nil]; omega) (hv : f = true → ldEl (es.getD i .any) k n o ag = v := by exact fun _ => rfl) (ho : o + n ≤ k := by omega) : regR Γ draw (⟨.ldI n ag x, g⟩ :: r) env rs nx m K :=
  r_pure rfl hg _ (fun hf => by simp only [Ins.obl, hx, ldO]; exact ⟨kx hf, hi hf, ho⟩) (fun hf => by simp only [Ins.val, hx, ldV]; exact hv hf) (fun ha => h)
theorem r_box {x : Src} {fx : Bool} {k : Nat} {d : D} {L : Nat} {m2 : List (Nat × Blk)} (h : regR Γ draw r env (⟨f, .ptr L k 0 0⟩ :: rs) nx m2 K) (hg : GF rs g f := by first | exact rfl | exact ⟨_, _, rfl, rfl⟩) (hx : evR env rs x = ⟨fx, d⟩ := by exact rfl) (kx : f = true → fx = true := by first | exact fun _ => rfl | exact fun h => h | (intro h; simp_all)) (hc : d.cells.length = k := by exact rfl) (hL : nx + rs.length = L := by simp only [List.length_cons, List.length_nil, Nat.reduceAdd]; exact rfl) (hm : setL m L (.buf k [d]) = m2 := by simp only [setL, delL, Nat.reduceEqDiff, if_true, if_false, Nat.reduceAdd, reduceCtorEq]; exact rfl) : regR Γ draw (⟨.box k x, g⟩ :: r) env rs nx m K :=
  r_calm rfl hg _ (fun hf => by simp only [Ins.obl, hx]; exact ⟨kx hf, hc⟩) (fun hf => by simp only [Ins.val, hx, hL]) _ (by simp only [Ins.eff, hx, hL]; exact hm) (fun _ => h)
theorem r_s2b {x : Src} {fx : Bool} {s : List UInt8} {L : Nat} {m2 : List (Nat × Blk)} (h : regR Γ draw r env (⟨f, .own L 1 0 s.length⟩ :: rs) nx m2 K) (hg : GF rs g f := by first | exact rfl | exact ⟨_, _, rfl, rfl⟩) (hx : evR env rs x = ⟨fx, .str s⟩ := by exact rfl) (kx : f = true → fx = true := by first | exact fun _ => rfl | exact fun h => h | (intro h; simp_all)) (hL : nx + rs.length = L := by simp only [List.length_cons, List.length_nil, Nat.reduceAdd]; exact rfl) (hm : setL m L (.buf 1 (s.map fun b => .int .u8 b.toNat)) = m2 := by simp only [setL, delL, Nat.reduceEqDiff, if_true, if_false, Nat.reduceAdd, reduceCtorEq]; exact rfl) : regR Γ draw (⟨.s2b x, g⟩ :: r) env rs nx m K :=
  r_calm rfl hg _ (fun hf => by simp only [Ins.obl, hx]; exact ⟨kx hf, trivial⟩) (fun hf => by simp only [Ins.val, hx, hL]) _ (by simp only [Ins.eff, hx, hL]; exact hm) (fun _ => h)
theorem r_rng {x : Src} {fx : Bool} {s : List UInt8} {L : Nat} {m2 : List (Nat × Blk)} (h : regR Γ draw r env (⟨f, .it L⟩ :: rs) nx m2 K) (hg : GF rs g f := by first | exact rfl | exact ⟨_, _, rfl, rfl⟩) (hx : evR env rs x = ⟨fx, .str s⟩ := by exact rfl) (kx : f = true → fx = true := by first | exact fun _ => rfl | exact fun h => h | (intro h; simp_all)) (hL : nx + rs.length = L := by simp only [List.length_cons, List.length_nil, Nat.reduceAdd]; exact rfl) (hm : setL m L (.iter s 0) = m2 := by simp only [setL, delL, Nat.reduceEqDiff, if_true, if_false, Nat.reduceAdd, reduceCtorEq]; exact rfl) : regR Γ draw (⟨.rng x, g⟩ :: r) env rs nx m K :=
  r_calm rfl hg _ (fun hf => by simp only [Ins.obl, hx]; exact ⟨kx hf, trivial⟩) (fun hf => by simp only [Ins.val, hx, hL]) _ (by simp only [Ins.eff, hx, hL]; exact hm) (fun _ => h)
theorem r_bsl {k n : Nat} {z : D} {ps : List (Nat × Src)} {L : Nat} {m2 : List (Nat × Blk)} (es : List D) (h : regR Γ draw r env (⟨f, .own L k 0 n⟩ :: rs) nx m2 K) (hg : GF rs g f := by first | exact rfl | exact ⟨_, _, rfl, rfl⟩) (he : fillI (evR env rs) (List.replicate n z) ps = es := by exact rfl) (ho : f = true → fillIO (evR env rs) k n ps := by intro h; repeat' first | exact trivial | exact rfl | exact h | refine And.intro ?_ ?_ | decide) (hz : z.cells.length = k := by exact rfl) (hL : nx + rs.length = L := by simp only [List.length_cons, List.length_nil, Nat.reduceAdd]; exact rfl) (hm : setL m L (.buf k es) = m2 := by simp only [setL, delL, Nat.reduceEqDiff, if_true, if_false, Nat.reduceAdd, reduceCtorEq]; exact rfl) : regR Γ draw (⟨.bsl k z n ps, g⟩ :: r) env rs nx m K :=
  r_calm rfl hg _ (fun hf => ⟨hz, ho hf⟩) (fun hf => by simp only [Ins.val, hL]) _ (by simp only [Ins.eff, he, hL]; exact hm) (fun _ => h)
theorem r_mks {k : Nat} {z : D} {x y : Src} {k1 k2 : IntKind} {a c : Int} {L : Nat} {m2 : List (Nat × Blk)} (n : Nat) (h : regR Γ draw r env (⟨true, .own L k 0 n⟩ :: rs) nx m2 K) (hx : evR env rs x = ⟨true, .int k1 a⟩ := by exact rfl) (hy : evR env rs y = ⟨true, .int k2 c⟩ := by exact rfl) (hn : a = (n : Int) := by first | exact rfl | omega) (hc : a ≤ c ∧ c ≤ 1073741824 := by constructor <;> omega) (hz : z.cells.length = k := by exact rfl) (hL : nx + rs.length = L := by simp only [List.length_cons, List.length_nil, Nat.reduceAdd]; exact rfl) (hm : setL m L (.buf k (List.replicate n z)) = m2 := by simp only [setL, delL, Nat.reduceEqDiff, if_true, if_false, Nat.reduceAdd, reduceCtorEq]; exact rfl) : regR Γ draw (⟨.mks k z x y, none⟩ :: r) env rs nx m K :=
  r_none rfl _ (by simp only [Ins.obl, hx, hy]; exact ⟨trivial, trivial, hz, by omega, hc.1, hc.2⟩) (by simp only [Ins.val, hx, hL, D.nat, hn]; rfl) _ (by simp only [Ins.eff, hx, hL, D.nat, hn]; exact hm) (fun _ => h)
theorem r_stF {n l k o : Nat} {x y : Src} {d v : D} {m2 : List (Nat × Blk)} (e : D) (h : regR Γ draw r env (⟨true, .any⟩ :: rs) nx m2 K) (hx : evR env rs x = ⟨true, .ptr l k 0 o⟩ := by exact rfl) (hy : evR env rs y = ⟨true, v⟩ := by exact rfl) (hl : look m l = some (.buf k [d]) := by exact rfl) (hc : v.cells.length = n := by exact rfl) (he : stEl d k n o v = e := by exact rfl) (ho : o + n ≤ k := by omega) (hm : setL m l (.buf k [e]) = m2 := by simp only [setL, delL, Nat.reduceEqDiff, if_true, if_false, Nat.reduceAdd, reduceCtorEq]; exact rfl) : regR Γ draw (⟨.st n x y, none⟩ :: r) env rs nx m K :=
  r_none rfl _ (by simp only [Ins.obl, hx, hy, bufOK, hl]; exact ⟨trivial, trivial, hc, ⟨trivial, by simp⟩, ho⟩) rfl _ (by simp only [Ins.eff, hx, hy, bufEls, hl, List.getD_cons_zero, List.set_cons_zero, he]; exact hm) (fun _ => h)
theorem r_stE {n l k i o : Nat} {x y : Src} {v : D} {es : List D} {m2 : List (Nat × Blk)} (es2 : List D) (h : regR Γ draw r env (⟨true, .any⟩ :: rs) nx m2 K) (hx : evR env rs x = ⟨true, .ptr l k i o⟩ := by exact rfl) (hy : evR env rs y = ⟨true, v⟩ := by exact rfl) (hl : look m l = some (.buf k es) := by exact rfl) (hi : i < es.length) (hc : v.cells.length = n := by exact rfl) (he : es.set i (stEl (es.getD i .any) k n o v) = es2) (ho : o + n ≤ k := by omega) (hm : setL m l (.buf k es2) = m2 := by simp only [setL, delL, Nat.reduceEqDiff, if_true, if_false, Nat.reduceAdd, reduceCtorEq]; exact rfl) : regR Γ draw (⟨.st n x y, none⟩ :: r) env rs nx m K :=
  r_none rfl _ (by simp only [Ins.obl, hx, hy, bufOK, hl]; exact ⟨trivial, trivial, hc, ⟨trivial, by omega⟩, ho⟩) rfl _ (by simp only [Ins.eff, hx, hy, bufEls, hl, he]; exact hm) (fun _ => h)
/-- the elements of what is appended -/
def Els (m : List (Nat × Blk)) (k : Nat) (d : D) (ys : List D) : Prop := elsO m k d ∧ els m d = ys
theorem Els.sl {k : Nat} {es : List D} : Els m k (.sl k es) es := ⟨rfl, rfl⟩
theorem Els.nils {k : Nat} : Els m k .nils [] := ⟨trivial, rfl⟩
theorem Els.own {l k i n : Nat} {es : List D} (hl : look m l = some (.buf k es)) (hb : i + n ≤ es.length) : Els m k (.own l k i n) ((es.drop i).take n) := ⟨⟨rfl, by simp only [bufOK, hl]; exact ⟨trivial, hb⟩⟩, by simp only [els, bufEls, hl]⟩
theorem Els.all {l k n : Nat} {es : List D} (hl : look m l = some (.buf k es)) (hb : n = es.length) : Els m k (.own l k 0 n) es := by
  have := Els.own (i := 0) (n := n) hl (by omega)
  simpa [hb] using this
theorem Els.str {s : List UInt8} : Els m 1 (.str s) (s.map fun b => .int .u8 b.toNat) := ⟨rfl, rfl⟩
theorem r_app0 {k n : Nat} {x y : Src} {d : D} {ys : List D} {L : Nat} {m2 : List (Nat × Blk)} (h : regR Γ draw r env (⟨true, .own L k 0 n⟩ :: rs) nx m2 K) (hx : evR env rs x = ⟨true, .nils⟩ := by exact rfl) (hy : evR env rs y = ⟨true, d⟩ := by exact rfl) (he : Els m k d ys) (hn : ys.length = n) (hb : n ≤ 1073741824 := by omega) (hL : nx + rs.length = L := by simp only [List.length_cons, List.length_nil, Nat.reduceAdd]; exact rfl) (hm : setL m L (.buf k ys) = m2 := by simp only [setL, delL, Nat.reduceEqDiff, if_true, if_false, Nat.reduceAdd, reduceCtorEq]; exact rfl) : regR Γ draw (⟨.app k x y, none⟩ :: r) env rs nx m K :=
  r_none rfl _ (by simp only [Ins.obl, hx, hy, he.2, hn]; exact ⟨trivial, trivial, he.1, hb⟩) (by simp only [Ins.val, hx, hy, he.2, hn, hL]) _ (by simp only [Ins.eff, hx, hy, he.2, hL]; exact hm) (fun _ => h)
theorem r_appN0 {k n : Nat} {y : Src} {fy : Bool} {d : D} {ys : List D} {L : Nat} {m2 : List (Nat × Blk)} (h : regR Γ draw r env (⟨f, .own L k 0 n⟩ :: rs) nx m2 K) (hg : GF rs g f := by first | exact rfl | exact ⟨_, _, rfl, rfl⟩) (hy : evR env rs y = ⟨fy, d⟩ := by exact rfl) (ky : f = true → fy = true := by first | exact fun _ => rfl | exact fun h => h | (intro h; simp_all)) (he : Els m k d ys) (hn : ys.length = n) (hb : n ≤ 1073741824 := by omega) (hL : nx + rs.length = L := by simp only [List.length_cons, List.length_nil, Nat.reduceAdd]; exact rfl) (hm : setL m L (.buf k ys) = m2 := by simp only [setL, delL, Nat.reduceEqDiff, if_true, if_false, Nat.reduceAdd, reduceCtorEq]; exact rfl) : regR Γ draw (⟨.appN k y, g⟩ :: r) env rs nx m K :=
  r_calm rfl hg _ (fun hf => by simp only [Ins.obl, hy, he.2, hn]; exact ⟨ky hf, he.1, hb⟩) (fun hf => by simp only [Ins.val, hy, he.2, hn, hL]) _ (by simp only [Ins.eff, hy, he.2, hL]; exact hm) (fun _ => h)
theorem r_app {k l i a n : Nat} {x y : Src} {d : D} {xs ys : List D} {L : Nat} {m2 : List (Nat × Blk)} (zs : List D) (h : regR Γ draw r env (⟨true, .own L k 0 n⟩ :: rs) nx m2 K) (hx : evR env rs x = ⟨true, .own l k i a⟩ := by exact rfl) (hy : evR env rs y = ⟨true, d⟩ := by exact rfl) (hl : look m l = some (.buf k xs) := by exact rfl) (ha : i + a ≤ xs.length) (he : Els m k d ys) (hz : (xs.drop i).take a ++ ys = zs) (hn : a + ys.length = n) (hb : n ≤ 1073741824 := by omega) (hL : nx + rs.length = L := by simp only [List.length_cons, List.length_nil, Nat.reduceAdd]; exact rfl) (hm : setL (delL m l) L (.buf k zs) = m2 := by simp only [setL, delL, Nat.reduceEqDiff, if_true, if_false, Nat.reduceAdd, reduceCtorEq]; exact rfl) : regR Γ draw (⟨.app k x y, none⟩ :: r) env rs nx m K :=
  r_none rfl _ (by simp only [Ins.obl, hx, hy, he.2, bufOK, hl, hn]; exact ⟨trivial, trivial, he.1, trivial, ⟨trivial, ha⟩, hb⟩) (by simp only [Ins.val, hx, hy, he.2, hn, hL]) _ (by simp only [Ins.eff, hx, hy, he.2, bufEls, hl, hz, hL]; exact hm) (fun _ => h)
theorem r_app1 {α : Type} {q : α → D} {xs : List α} {e : α} {k l ly : Nat} {x y : Src} {L : Nat} {m2 : List (Nat × Blk)} (h : regR Γ draw r env (⟨true, .own L k 0 (xs ++ [e]).length⟩ :: rs) nx m2 K) (hx : evR env rs x = ⟨true, .own l k 0 xs.length⟩ := by exact rfl) (hy : evR env rs y = ⟨true, .own ly k 0 1⟩ := by exact rfl) (hl : look m l = some (.buf k (xs.map q)) := by exact rfl) (he : look m ly = some (.buf k [q e]) := by exact rfl) (hb : xs.length + 1 ≤ 1073741824 := by omega) (hL : nx + rs.length = L := by simp only [List.length_cons, List.length_nil, Nat.reduceAdd]; exact rfl) (hm : setL (delL m l) L (.buf k ((xs ++ [e]).map q)) = m2 := by simp only [setL, delL, Nat.reduceEqDiff, if_true, if_false, Nat.reduceAdd, reduceCtorEq]; exact rfl) : regR Γ draw (⟨.app k x y, none⟩ :: r) env rs nx m K :=
  r_app (zs := (xs ++ [e]).map q) (hx := hx) (hy := hy) (hl := hl) (ha := by simp) (he := Els.all (es := [q e]) he rfl) (hz := by rw [List.drop_zero, List.take_of_length_le (by simp)]; simp) (hn := by simp) (hb := by simp; omega) (hL := hL) (hm := hm) (h := h)
theorem r_appN {α : Type} {q : α → D} {xs ys : List α} {k l : Nat} {x y : Src} {d : D} {L : Nat} {m2 : List (Nat × Blk)} (h : regR Γ draw r env (⟨true, .own L k 0 (xs ++ ys).length⟩ :: rs) nx m2 K) (hx : evR env rs x = ⟨true, .own l k 0 xs.length⟩ := by exact rfl) (hy : evR env rs y = ⟨true, d⟩ := by exact rfl) (hl : look m l = some (.buf k (xs.map q)) := by exact rfl) (he : Els m k d (ys.map q)) (hb : xs.length + ys.length ≤ 1073741824 := by omega) (hL : nx + rs.length = L := by simp only [List.length_cons, List.length_nil, Nat.reduceAdd]; exact rfl) (hm : setL (delL m l) L (.buf k ((xs ++ ys).map q)) = m2 := by simp only [setL, delL, Nat.reduceEqDiff, if_true, if_false, Nat.reduceAdd, reduceCtorEq]; exact rfl) : regR Γ draw (⟨.app k x y, none⟩ :: r) env rs nx m K :=
  r_app (zs := (xs ++ ys).map q) (hx := hx) (hy := hy) (hl := hl) (ha := by simp) (he := he) (hz := by rw [List.drop_zero, List.take_of_length_le (by simp)]; simp) (hn := by simp) (hb := by simp; omega) (hL := hL) (hm := hm) (h := h)
theorem r_b2s {x : Src} {fx : Bool} {d : D} {ys : List D} (s : List UInt8) (h : regR Γ draw r env (⟨f, .str s⟩ :: rs) nx m K) (hg : GF rs g f := by first | exact rfl | exact ⟨_, _, rfl, rfl⟩) (hx : evR env rs x = ⟨fx, d⟩ := by exact rfl) (kx : f = true → fx = true := by first | exact fun _ => rfl | exact fun h => h | (intro h; simp_all)) (he : f = true → Els m 1 d ys) (hs : f = true → ys = s.map fun b => .int .u8 b.toNat) (hd : d.isStrD = false := by exact rfl) : regR Γ draw (⟨.b2s x, g⟩ :: r) env rs nx m K :=
  r_calm rfl hg _ (fun hf => by
    simp only [Ins.obl, hx, (he hf).2, hs hf]
    refine ⟨kx hf, (by cases d <;> first | trivial | (cases hd)), (he hf).1, fun e hm => ?_⟩
    obtain ⟨b, _, rfl⟩ := List.mem_map.1 hm
    have := b.toNat_lt
    exact ⟨rfl, by omega, by omega⟩) (fun hf => by simp only [Ins.val, hx, (he hf).2, hs hf]; rw [b2s_str]) m rfl (fun _ => h)
theorem r_nxt1 {x : Src} {l pos : Nat} {s : List UInt8} {m2 : List (Nat × Blk)} (c w : Nat) (h : regR Γ draw r env (⟨true, .tup [.bool true, .int .i64 pos, .int .i32 c]⟩ :: rs) nx m2 K) (hx : evR env rs x = ⟨true, .it l⟩ := by exact rfl) (hl : look m l = some (.iter s pos) := by exact rfl) (hp : pos < s.length) (hc : decL s pos = (c, w)) (hm : setL m l (.iter s (pos + w)) = m2 := by simp only [setL, delL, Nat.reduceEqDiff, if_true, if_false, Nat.reduceAdd, reduceCtorEq]; exact rfl) : regR Γ draw (⟨.nxt x, none⟩ :: r) env rs nx m K :=
  r_none rfl _ (by simp only [Ins.obl, hx, hl]; exact ⟨trivial, trivial⟩) (by simp only [Ins.val, hx, hl, hc, hp, decide_true, cond_true]) _ (by simp only [Ins.eff, hx, hl, hc, hp, decide_true, cond_true]; exact hm) (fun _ => h)
theorem r_nxt0 {x : Src} {l pos : Nat} {s : List UInt8} (h : regR Γ draw r env (⟨true, .tup [.bool false]⟩ :: rs) nx m K) (hx : evR env rs x = ⟨true, .it l⟩ := by exact rfl) (hl : look m l = some (.iter s pos) := by exact rfl) (hp : ¬ pos < s.length) : regR Γ draw (⟨.nxt x, none⟩ :: r) env rs nx m K :=
  r_none rfl _ (by simp only [Ins.obl, hx, hl]; exact ⟨trivial, trivial⟩) (by simp only [Ins.val, hx, hl, hp, decide_false, cond_false]) _ (by simp only [Ins.eff, hx, hl, hp, decide_false, cond_false]) (fun _ => h)
/-- calls -/
theorem r_call {n : Nat} {args : List Src} {sh : List (List Sh)} {as : List D} {v : D} (h : regR Γ draw r env (⟨f, v⟩ :: rs) nx m K) (hg : GF rs g f := by first | exact rfl | exact ⟨_, _, rfl, rfl⟩) (hc : Γ.pre n as ∧ Γ.val n as = v) (ha : f = true → rdArgs m sh (dds (evR env rs) args) = as := by exact fun _ => rfl) (ho : f = true → oks (evR env rs) args := by intro h; repeat' first | exact trivial | exact rfl | exact h | refine And.intro ?_ ?_ | decide) (hp : f = true → rdArgsO m sh (dds (evR env rs) args) := by intro h; repeat' first | exact trivial | exact rfl | exact h | refine And.intro ?_ ?_ | decide) (hk : f = true → callOK (dds (evR env rs) args) v = true := by exact fun _ => rfl) : regR Γ draw (⟨.call n args sh, g⟩ :: r) env rs nx m K :=
  r_calm rfl hg _ (fun hf => by simp only [Ins.obl, (rdArgs_eq _ _ _).1, ha hf, hc.2]; exact ⟨ho hf, (rdArgs_eq _ _ _).2.2 (hp hf), hc.1, hk hf⟩) (fun hf => by simp only [Ins.val, (rdArgs_eq _ _ _).1, ha hf, hc.2]) m rfl (fun _ => h)
theorem r_callG {n : Nat} {args : List Src} {sh : List (List Sh)} {as : List D} {v : D} (h : regR Γ draw r env (⟨f, v⟩ :: rs) nx m K) (hg : GF rs g f := by first | exact rfl | exact ⟨_, _, rfl, rfl⟩) (hc : f = true → Γ.pre n as ∧ Γ.val n as = v) (ha : f = true → rdArgs m sh (dds (evR env rs) args) = as := by exact fun _ => rfl) (ho : f = true → oks (evR env rs) args := by intro h; repeat' first | exact trivial | exact rfl | exact h | refine And.intro ?_ ?_ | decide) (hp : f = true → rdArgsO m sh (dds (evR env rs) args) := by intro h; repeat' first | exact trivial | exact rfl | exact h | refine And.intro ?_ ?_ | decide) (hk : f = true → callOK (dds (evR env rs) args) v = true := by exact fun _ => rfl) : regR Γ draw (⟨.call n args sh, g⟩ :: r) env rs nx m K :=
  r_calm rfl hg _ (fun hf => by simp only [Ins.obl, (rdArgs_eq _ _ _).1, ha hf, (hc hf).2]; exact ⟨ho hf, (rdArgs_eq _ _ _).2.2 (hp hf), (hc hf).1, hk hf⟩) (fun hf => by simp only [Ins.val, (rdArgs_eq _ _ _).1, ha hf, (hc hf).2]) m rfl (fun _ => h)
theorem r_callv {n : Nat} {x : Src} {fx : Bool} {caps : List D} {args : List Src} {sh : List (List Sh)} {as : List D} {v : D} (h : regR Γ draw r env (⟨f, v⟩ :: rs) nx m K) (hg : GF rs g f := by first | exact rfl | exact ⟨_, _, rfl, rfl⟩) (hx : evR env rs x = ⟨fx, .fn n caps⟩ := by exact rfl) (kx : f = true → fx = true := by first | exact fun _ => rfl | exact fun h => h | (intro h; simp_all)) (hc : f = true → Γ.pre n as ∧ Γ.val n as = v) (ha : f = true → rdArgs m sh (dds (evR env rs) args ++ caps) = as := by exact fun _ => rfl) (ho : f = true → oks (evR env rs) args := by intro h; repeat' first | exact trivial | exact rfl | exact h | refine And.intro ?_ ?_ | decide) (hp : f = true → rdArgsO m sh (dds (evR env rs) args ++ caps) := by intro h; repeat' first | exact trivial | exact rfl | exact h | refine And.intro ?_ ?_ | decide) (hk : f = true → callOK (dds (evR env rs) args ++ caps) v = true := by exact fun _ => rfl) : regR Γ draw (⟨.callv x args sh, g⟩ :: r) env rs nx m K :=
  r_calm rfl hg _ (fun hf => by simp only [Ins.obl, hx, (rdArgs_eq _ _ _).1, ha hf, (hc hf).2]; exact ⟨kx hf, ho hf, (rdArgs_eq _ _ _).2.2 (hp hf), (hc hf).1, hk hf⟩) (fun hf => by simp only [Ins.val, hx, (rdArgs_eq _ _ _).1, ha hf, (hc hf).2]) m rfl (fun _ => h)
theorem r_mkf {n : Nat} {caps : List Src} (cs : List D) (h : regR Γ draw r env (⟨f, .fn n cs⟩ :: rs) nx m K) (hg : GF rs g f := by first | exact rfl | exact ⟨_, _, rfl, rfl⟩) (hc : f = true → dds (evR env rs) caps = cs := by exact fun _ => rfl) (ho : f = true → oks (evR env rs) caps := by intro h; repeat' first | exact trivial | exact rfl | exact h | refine And.intro ?_ ?_ | decide) : regR Γ draw (⟨.mkf n caps, g⟩ :: r) env rs nx m K :=
  r_pure rfl hg _ (fun hf => ho hf) (fun hf => by simp only [Ins.val, hc hf]) (fun _ => h)
theorem r_callF {n l k : Nat} {x : Src} {args : List Src} {sh : List (List Sh)} {d v e : D} {as : List D} {m2 : List (Nat × Blk)} (h : regR Γ draw r env (⟨true, v⟩ :: rs) nx m2 K) (hx : evR env rs x = ⟨true, .ptr l k 0 0⟩ := by exact rfl) (hl : look m l = some (.buf k [d]) := by exact rfl) (hd : d.noLoc = true := by exact rfl) (hc : Γ.fp n d as ∧ Γ.fv n d as = v ∧ Γ.fs n d as = e) (ha : rdArgs [] sh (dds (evR env rs) args) = as := by exact rfl) (ho : oks (evR env rs) args := by repeat' first | exact trivial | exact rfl | refine And.intro ?_ ?_ | decide) (hn : noLocs (dds (evR env rs) args) = true := by exact rfl) (hm : setL m l (.buf k [e]) = m2 := by simp only [setL, delL, Nat.reduceEqDiff, if_true, if_false, Nat.reduceAdd, reduceCtorEq]; exact rfl) : regR Γ draw (⟨.callF n x args sh, none⟩ :: r) env rs nx m K :=
  r_none rfl _ (by simp only [Ins.obl, hx, bufOK, bufEls, hl, List.getD_cons_zero, (rdArgs_eq _ _ _).1, ha]; exact ⟨trivial, ho, hn, trivial, trivial, ⟨trivial, by simp⟩, by simp, hd, hc.1⟩) (by simp only [Ins.val, hx, bufEls, hl, List.getD_cons_zero, (rdArgs_eq _ _ _).1, ha, hc.2.1]) _ (by simp only [Ins.eff, hx, bufEls, hl, List.getD_cons_zero, (rdArgs_eq _ _ _).1, ha, hc.2.2]; exact hm) (fun _ => h)
end
end Go.Abs
end
section
namespace Go.Abs
abbrev Str := List UInt8
structure Ver where
  major : Int
  minor : Int
  patch : Int
  pre : Str
  build : Str
  deriving Inhabited, DecidableEq
def Ver.D (v : Ver) : D := .agg [.int .i64 v.major, .int .i64 v.minor, .int .i64 v.patch, .str v.pre, .str v.build]
structure Lkd where
  name : Str
  v : Ver
  shelf : Str
  sum : Int
  feats : List Str
  deriving Inhabited, DecidableEq
def Lkd.D (x : Lkd) : D := .agg [.str x.name, .int .i64 x.v.major, .int .i64 x.v.minor, .int .i64 x.v.patch, .str x.v.pre, .str x.v.build, .str x.shelf, .int .u64 x.sum, .sl 1 (x.feats.map D.str)]
structure Env where
  e0 : Str
  e1 : Str
  e2 : Str
  deriving Inhabited, DecidableEq
def Env.D (e : Env) : D := .agg [.str e.e0, .str e.e1, .str e.e2]
structure Lck where
  env : Env
  lines : List Lkd
  deriving Inhabited, DecidableEq
def Lck.D (l : Lck) : D := .agg [.str l.env.e0, .str l.env.e1, .str l.env.e2, .sl 9 (l.lines.map Lkd.D)]
end Go.Abs
namespace Go.Abs
theorem eqD_str (a b : List UInt8) : eqD (.str a) (.str b) = decide (a = b) := beq_dec a b
theorem eqD_int (k k2 : IntKind) (a b : Int) : eqD (.int k a) (.int k2 b) = decide (a = b) := rfl
theorem Ver.eq (a b : Ver) : eqDs (Ver.D a).cells (Ver.D b).cells = decide (a = b) := by
  obtain ⟨a1, a2, a3, a4, a5⟩ := a
  obtain ⟨b1, b2, b3, b4, b5⟩ := b
  simp only [Ver.D, D.cells, eqDs, eqD_str, eqD_int, Ver.mk.injEq, Bool.and_true]
  simp only [Bool.decide_and]
theorem Env.eq (a b : Env) : eqDs (Env.D a).cells (Env.D b).cells = decide (a = b) := by
  obtain ⟨a1, a2, a3⟩ := a
  obtain ⟨b1, b2, b3⟩ := b
  simp only [Env.D, D.cells, eqDs, eqD_str, eqD_int, Env.mk.injEq, Bool.and_true]
  simp only [Bool.decide_and]
theorem Ver.inj {a b : Ver} (h : Ver.D a = Ver.D b) : a = b := by
  obtain ⟨a1, a2, a3, a4, a5⟩ := a
  obtain ⟨b1, b2, b3, b4, b5⟩ := b
  simp only [Ver.D, D.agg.injEq, List.cons.injEq, D.int.injEq, D.str.injEq, true_and, and_true] at h
  simp [h]
theorem Env.inj {a b : Env} (h : Env.D a = Env.D b) : a = b := by
  obtain ⟨a1, a2, a3⟩ := a
  obtain ⟨b1, b2, b3⟩ := b
  simp only [Env.D, D.agg.injEq, List.cons.injEq, D.int.injEq, D.str.injEq, true_and, and_true] at h
  simp [h]
theorem map_inj {α : Type} {q : α → D} (hq : ∀ a b, q a = q b → a = b) : ∀ {xs ys : List α}, xs.map q = ys.map q → xs = ys
  | [], [], _ => rfl
  | [], _ :: _, h => by simp at h
  | _ :: _, [], h => by simp at h
  | a :: r, b :: s, h => by
    simp only [List.map_cons, List.cons.injEq] at h
    rw [hq a b h.1, map_inj hq h.2]
theorem str_inj (a b : List UInt8) (h : D.str a = D.str b) : a = b := by simpa using h
theorem Lkd.inj {a b : Lkd} (h : Lkd.D a = Lkd.D b) : a = b := by
  obtain ⟨a1, ⟨v1, v2, v3, v4, v5⟩, a2, a3, a4⟩ := a
  obtain ⟨b1, ⟨w1, w2, w3, w4, w5⟩, b2, b3, b4⟩ := b
  simp only [Lkd.D, D.agg.injEq, List.cons.injEq, D.int.injEq, D.str.injEq, D.sl.injEq, true_and, and_true] at h
  have := map_inj str_inj h.2.2.2.2.2.2.2.2
  simp [h, this]
theorem Lck.inj {a b : Lck} (h : Lck.D a = Lck.D b) : a = b := by
  obtain ⟨⟨a1, a2, a3⟩, a4⟩ := a
  obtain ⟨⟨b1, b2, b3⟩, b4⟩ := b
  simp only [Lck.D, D.agg.injEq, List.cons.injEq, D.str.injEq, D.sl.injEq, true_and, and_true] at h
  have := map_inj (fun _ _ => Lkd.inj) h.2.2.2
  simp [h, this]
end Go.Abs
end
section
namespace Go.Abs
/-- p at i, i + 1, .. below n -/
def allI (p : Nat → Bool) : Nat → Nat → Bool
  | _, 0 => true
  | i, k + 1 => p i && allI p (i + 1) k
def allF (p : Nat → Bool) (i n : Nat) : Bool := allI p i (n - i)
theorem allF_lt {p : Nat → Bool} {i n : Nat} (h : i < n) : allF p i n = (p i && allF p (i + 1) n) := by
  unfold allF
  rw [show n - i = (n - (i + 1)) + 1 by omega]
  rfl
theorem allF_ge {p : Nat → Bool} {i n : Nat} (h : n ≤ i) : allF p i n = true := by
  unfold allF
  rw [show n - i = 0 by omega]
  rfl
theorem allI_iff {p : Nat → Bool} : ∀ {k i : Nat}, allI p i k = true ↔ ∀ j, i ≤ j → j < i + k → p j = true
  | 0, i => by simp [allI]; intro j h1 h2; omega
  | k + 1, i => by
    simp only [allI, Bool.and_eq_true, allI_iff (k := k)]
    constructor
    · rintro ⟨h1, h2⟩ j hj1 hj2
      rcases Nat.eq_or_lt_of_le hj1 with h | h
      · exact h ▸ h1
      · exact h2 j h (by omega)
    · intro h
      exact ⟨h i (Nat.le_refl _) (by omega), fun j h1 h2 => h j (by omega) (by omega)⟩
theorem allF_iff {p : Nat → Bool} {i n : Nat} : allF p i n = true ↔ ∀ j, i ≤ j → j < n → p j = true := by
  unfold allF
  rw [allI_iff]
  constructor
  · intro h j h1 h2; exact h j h1 (by omega)
  · intro h j h1 h2; exact h j h1 (by omega)
end Go.Abs
namespace Go.Abs
theorem tup_eq2 {a a' b b' : D} (h1 : a = a') (h2 : b = b') : D.tup [a, b] = D.tup [a', b'] := by rw [h1, h2]
theorem tup_eq3 {a a' b b' c c' : D} (h1 : a = a') (h2 : b = b') (h3 : c = c') : D.tup [a, b, c] = D.tup [a', b', c'] := by rw [h1, h2, h3]
end Go.Abs
namespace Go.Abs
theorem ld8 (s : Str) (i : Nat) : ldEl (D.int .u8 (s[i]!).toNat) 1 1 0 false = .int .u8 (at8 s i) := by
  simp only [ldEl, D.isAgg, at8]
  simp
  rfl
end Go.Abs
namespace Go.Abs
theorem dec_spec (s : Str) (pos : Nat) (h : pos < s.length) : ∃ c w, decL s pos = (c, w) ∧ 1 ≤ w ∧ ((w = 1 ∧ (c : Int) = at8 s pos ∧ c < 128) ∨ (128 ≤ c ∧ 128 ≤ at8 s pos)) := by
  refine ⟨(decL s pos).1, (decL s pos).2, rfl, ?_⟩
  have e : decL s pos = Lib.decodeN (s.length - pos) (s.getD pos 0).toNat (s.getD (pos + 1) 0).toNat (s.getD (pos + 2) 0).toNat (s.getD (pos + 3) 0).toNat := Lib.decode_N ⟨⟨s⟩⟩ pos
  rw [e]
  unfold at8
  generalize (s.getD pos 0).toNat = b0
  generalize (s.getD (pos + 1) 0).toNat = b1
  generalize (s.getD (pos + 2) 0).toNat = b2
  generalize (s.getD (pos + 3) 0).toNat = b3
  generalize s.length - pos = n
  by_cases hb : b0 < 128
  · unfold Lib.decodeN
    rw [if_pos hb]
    exact ⟨Nat.le_refl _, .inl ⟨rfl, rfl, hb⟩⟩
  · unfold Lib.decodeN
    rw [if_neg hb]
    have h2 : (128 : Int) ≤ (b0 : Int) := by omega
    repeat' split
    all_goals exact ⟨by omega, .inr ⟨by simp only; omega, h2⟩⟩
end Go.Abs
namespace Go.Abs
theorem xV_own1 {α : Type} {q : α → D} {xs : List α} {m : List (Nat × Blk)} {l : Nat} (hq : ∀ x, xV m [.a] (q x) = q x) (hl : look m l = some (.buf 1 (xs.map q))) : xV m [.sl 1 [.a]] (.own l 1 0 xs.length) = .sl 1 (xs.map q) := by
  show D.sl 1 _ = _
  simp only [bufEls, hl, List.drop_zero, take_map_len, List.map_map]
  congr 1
  apply List.map_congr_left
  intro x _
  have := hq x
  simp only [Function.comp]
  generalize q x = d at this
  cases d <;> exact this
theorem xVO_own1 {α : Type} {q : α → D} {xs : List α} {m : List (Nat × Blk)} {l : Nat} (hq : ∀ x, xVO m [.a] (q x)) (hl : look m l = some (.buf 1 (xs.map q))) : xVO m [.sl 1 [.a]] (.own l 1 0 xs.length) := by
  simp only [xVO, xHO, xCO]
  refine ⟨by simp [bufOK, hl], ?_⟩
  simp only [bufEls, hl, List.drop_zero, take_map_len]
  intro e he
  obtain ⟨x, _, rfl⟩ := List.mem_map.1 he
  have := hq x
  generalize q x = d at this
  cases d <;> exact this
end Go.Abs
end
section
namespace Go.Abs
def lowB (c : Int) : Bool := decide (97 ≤ c) && decide (c ≤ 122)
def digitB (c : Int) : Bool := decide (48 ≤ c) && decide (c ≤ 57)
def wch (c : Int) : Bool := lowB c || digitB c || decide (c = 95)
def wordB (s : Str) : Bool := decide (1 ≤ s.length) && decide (s.length ≤ 12) && allF (fun i => wch (at8 s i)) 0 s.length
def nch (s : Str) (i : Nat) : Bool := (lowB (at8 s i) || digitB (at8 s i) || decide (at8 s i = 45)) && !(decide (at8 s i = 45) && decide (at8 s (i - 1) = 45))
def nameB (s : Str) : Bool := decide (1 ≤ s.length) && decide (s.length ≤ 16) && lowB (at8 s 0) && !decide (at8 s (s.length - 1) = 45) && allF (nch s) 1 s.length
def nch2 (s : Str) (i : Nat) : Bool := lowB (at8 s i) || (digitB (at8 s i) && !decide (i = 0)) || (decide (at8 s i = 45) && !decide (i = 0) && !decide (i = s.length - 1) && !decide (at8 s (i - 1) = 45))
theorem nameB_2 (s : Str) (h1 : 1 ≤ s.length) (h2 : s.length ≤ 16) : nameB s = allF (nch2 s) 0 s.length := by
  rw [Bool.eq_iff_iff]
  simp only [nameB, decide_eq_true h1, decide_eq_true h2, Bool.true_and, Bool.and_eq_true, Bool.not_eq_true', decide_eq_false_iff_not, allF_iff]
  constructor
  · rintro ⟨⟨h3, h4⟩, h5⟩ j _ hj
    rcases Nat.eq_zero_or_pos j with rfl | hp
    · simp [nch2, h3]
    · have := h5 j hp hj
      simp only [nch, Bool.and_eq_true, Bool.or_eq_true, Bool.not_eq_true', Bool.and_eq_false_iff, decide_eq_true_eq, decide_eq_false_iff_not] at this
      simp only [nch2, Bool.and_eq_true, Bool.or_eq_true, Bool.not_eq_true', decide_eq_true_eq, decide_eq_false_iff_not]
      rcases this with ⟨(h6 | h6) | h6, h7⟩
      · exact Or.inl (Or.inl h6)
      · exact Or.inl (Or.inr ⟨h6, by omega⟩)
      · refine Or.inr ⟨⟨⟨h6, by omega⟩, ?_⟩, ?_⟩
        · rintro rfl; exact h4 h6
        · rcases h7 with h7 | h7
          · exact absurd h6 h7
          · exact h7
  · intro h
    have h0 := h 0 (by omega) (by omega)
    have hlow : lowB (at8 s 0) = true := by simpa [nch2] using h0
    refine ⟨⟨hlow, ?_⟩, fun j hj1 hj2 => ?_⟩
    · intro he
      have hl := h (s.length - 1) (by omega) (by omega)
      rcases Nat.eq_or_lt_of_le h1 with e | e
      · rw [← e] at he; simp only [Nat.sub_self] at he
        simp only [lowB, Bool.and_eq_true, decide_eq_true_eq] at hlow
        omega
      · simp only [nch2, he, lowB, digitB] at hl
        simp at hl
    · have := h j (by omega) hj2
      simp only [nch2, Bool.and_eq_true, Bool.or_eq_true, Bool.not_eq_true', decide_eq_true_eq, decide_eq_false_iff_not] at this
      simp only [nch, Bool.and_eq_true, Bool.or_eq_true, Bool.not_eq_true', Bool.and_eq_false_iff, decide_eq_true_eq, decide_eq_false_iff_not]
      rcases this with (h6 | h6) | h6
      · refine ⟨Or.inl (Or.inl h6), Or.inl ?_⟩
        simp only [lowB, Bool.and_eq_true, decide_eq_true_eq] at h6; omega
      · refine ⟨Or.inl (Or.inr h6.1), Or.inl ?_⟩
        have := h6.1
        simp only [digitB, Bool.and_eq_true, decide_eq_true_eq] at this; omega
      · exact ⟨Or.inr h6.1.1.1, Or.inr h6.2⟩
/-- the value of a row of digits -/
def numVal (s : Str) : Nat := s.foldl (fun n b => n * 10 + (b.toNat - 48)) 0
def numB (s : Str) : Bool := decide (1 ≤ s.length) && decide (s.length ≤ 9) && !(decide (1 < s.length) && decide (at8 s 0 = 48)) && allF (fun i => digitB (at8 s i)) 0 s.length && decide (numVal s ≤ 9999)
def numO (s : Str) : Int := if numB s = true then (numVal s : Int) else 0
theorem take_succ_at (s : Str) (i : Nat) (h : i < s.length) : s.take (i + 1) = s.take i ++ [s.getD i 0] := by
  rw [List.take_succ]; simp [h]
theorem numVal_succ (s : Str) (i : Nat) (h : i < s.length) : numVal (s.take (i + 1)) = numVal (s.take i) * 10 + ((at8 s i).toNat - 48) := by
  rw [take_succ_at s i h]; simp [numVal, List.foldl_append, at8]
theorem numVal_le (s : Str) : numVal s + 23 ≤ 23 * 10 ^ s.length := by
  have : ∀ (s : Str) (n k : Nat), n + 23 ≤ 23 * 10 ^ k → s.foldl (fun n b => n * 10 + (b.toNat - 48)) n + 23 ≤ 23 * 10 ^ (k + s.length) := by
    intro s
    induction s with
    | nil => intro n k h; simpa using h
    | cons b r ih =>
      intro n k h
      have hb := b.toNat_lt
      have := ih (n * 10 + (b.toNat - 48)) (k + 1) (by rw [Nat.pow_succ]; omega)
      simp only [List.foldl_cons, List.length_cons]
      rw [show k + (r.length + 1) = k + 1 + r.length by omega]
      exact this
  have := this s 0 0 (by simp)
  simpa [numVal] using this
theorem numVal_small (s : Str) (i : Nat) (h : i ≤ 9) : numVal (s.take i) ≤ 23000000000 := by
  have h1 := numVal_le (s.take i)
  have h2 : (s.take i).length ≤ 9 := by simp; omega
  have h3 : 10 ^ (s.take i).length ≤ 10 ^ 9 := Nat.pow_le_pow_right (by omega) h2
  omega
theorem numVal_fold (s : Str) : ∀ n : Nat, s.foldl (fun n b => n * 10 + (b.toNat - 48)) n = n * 10 ^ s.length + numVal s := by
  unfold numVal
  induction s with
  | nil => intro n; simp
  | cons b r ih =>
    intro n
    simp only [List.foldl_cons, List.length_cons]
    rw [ih, ih (0 * 10 + (b.toNat - 48)), Nat.pow_succ]
    simp only [Nat.zero_mul, Nat.zero_add, Nat.add_mul]
    rw [Nat.mul_assoc n 10, Nat.mul_comm 10]
    omega
theorem numVal_cons (b : UInt8) (r : Str) : numVal (b :: r) = (b.toNat - 48) * 10 ^ r.length + numVal r := by
  have := numVal_fold r (0 * 10 + (b.toNat - 48))
  simp only [numVal, List.foldl_cons] at this ⊢
  rw [this]; simp
theorem digits_tail {b : UInt8} {r : Str} (h : allF (fun i => digitB (at8 (b :: r) i)) 0 (b :: r).length = true) : digitB b.toNat = true ∧ allF (fun i => digitB (at8 r i)) 0 r.length = true := by
  rw [allF_iff] at h
  refine ⟨by simpa [at8] using h 0 (by omega) (by simp), ?_⟩
  rw [allF_iff]
  intro j _ hj
  simpa [at8] using h (j + 1) (by omega) (by simp; omega)
theorem numVal_lt : ∀ (s : Str), allF (fun i => digitB (at8 s i)) 0 s.length = true → numVal s < 10 ^ s.length
  | [], _ => by simp [numVal]
  | b :: r, h => by
    obtain ⟨h1, h2⟩ := digits_tail h
    have := numVal_lt r h2
    rw [numVal_cons, List.length_cons, Nat.pow_succ]
    simp only [digitB, Bool.and_eq_true, decide_eq_true_eq] at h1
    have h3 : b.toNat - 48 ≤ 9 := by omega
    have := Nat.mul_le_mul_right (10 ^ r.length) h3
    omega
theorem numVal_ge {b : UInt8} {r : Str} (h : 49 ≤ b.toNat) : 10 ^ r.length ≤ numVal (b :: r) := by
  rw [numVal_cons]
  have := Nat.mul_le_mul_right (10 ^ r.length) (show 1 ≤ b.toNat - 48 by omega)
  omega
/-- numbers of more than four digits are too great -/
theorem numB_4 (s : Str) : numB s = (decide (1 ≤ s.length) && decide (s.length ≤ 4) && !(decide (1 < s.length) && decide (at8 s 0 = 48)) && allF (fun i => digitB (at8 s i)) 0 s.length) := by
  unfold numB
  cases hd : allF (fun i => digitB (at8 s i)) 0 s.length with
  | false => simp
  | true =>
    have hlt := numVal_lt s hd
    by_cases h4 : s.length ≤ 4
    · have : 10 ^ s.length ≤ 10 ^ 4 := Nat.pow_le_pow_right (by omega) h4
      rw [decide_eq_true h4, decide_eq_true (by omega : s.length ≤ 9), decide_eq_true (by omega : numVal s ≤ 9999)]
      simp
    · rw [decide_eq_false h4]
      match s, hd, h4 with
      | b :: r, hd, h4 =>
        by_cases h0 : at8 (b :: r) 0 = 48
        · rw [decide_eq_true h0, decide_eq_true (by omega : 1 < (b :: r).length)]; simp
        · have h1 := (digits_tail hd).1
          simp only [digitB, Bool.and_eq_true, decide_eq_true_eq] at h1
          have h2 : 49 ≤ b.toNat := by
            simp [at8] at h0
            omega
          have h3 := numVal_ge (r := r) h2
          have : 10 ^ 4 ≤ 10 ^ r.length := Nat.pow_le_pow_right (by omega) (by simp at h4; omega)
          rw [decide_eq_false (by omega : ¬ numVal (b :: r) ≤ 9999)]
          simp
def dg (n : Nat) : UInt8 := UInt8.ofNat (48 + n)
def decF : Nat → Nat → Str
  | 0, n => [dg n]
  | f + 1, n => if n < 10 then [dg n] else decF f (n / 10) ++ [dg (n % 10)]
def decN (n : Nat) : Str := decF n n
theorem decF_eq : ∀ (f g n : Nat), n ≤ f → n ≤ g → decF f n = decF g n
  | 0, 0, n, _, _ => rfl
  | 0, g + 1, n, h, _ => by
    obtain rfl : n = 0 := by omega
    simp [decF]
  | f + 1, 0, n, _, h => by
    obtain rfl : n = 0 := by omega
    simp [decF]
  | f + 1, g + 1, n, h1, h2 => by
    simp only [decF]
    split
    · rfl
    · rw [decF_eq f g (n / 10) (by omega) (by omega)]
theorem decN_lt {n : Nat} (h : n < 10) : decN n = [dg n] := by
  unfold decN; cases n <;> simp [decF, h]
theorem decN_ge {n : Nat} (h : 9 < n) : decN n = decN (n / 10) ++ [dg (n % 10)] := by
  unfold decN
  obtain ⟨k, rfl⟩ : ∃ k, n = k + 1 := ⟨n - 1, by omega⟩
  simp only [decF]
  rw [if_neg (by omega), decF_eq k ((k + 1) / 10) _ (by omega) (by omega)]
theorem decN_len : ∀ (k n : Nat), n < 10 ^ k → 0 < k → (decN n).length ≤ k := by
  intro k
  induction k with
  | zero => intro n _ h; omega
  | succ k ih =>
    intro n h _
    by_cases h10 : n < 10
    · rw [decN_lt h10]; simp
    · rw [decN_ge (by omega)]
      have hk : 0 < k := by
        rcases Nat.eq_zero_or_pos k with rfl | h0
        · simp at h; omega
        · exact h0
      have := ih (n / 10) (by rw [Nat.pow_succ] at h; omega) hk
      simp; omega
theorem dg_at {n : Nat} (h : n < 10) : ((dg n).toNat : Int) = 48 + n := by
  have : (48 + n) % 256 = 48 + n := Nat.mod_eq_of_lt (by omega)
  simp [dg, this]
/-- what stands ahead of, between and behind some bytes -/
def splitX (b : Int) : Str → Str → List Str
  | [], cur => [cur]
  | c :: r, cur => if (c.toNat : Int) = b then cur :: splitX b r [] else splitX b r (cur ++ [c])
def splitL (s : Str) (b : Int) : List Str := splitX b s []
theorem drop_at (s : Str) (i : Nat) (h : i < s.length) : s.drop i = s.getD i 0 :: s.drop (i + 1) := by
  rw [List.drop_eq_getElem_cons h]; simp [h]
theorem splitX_eq {s : Str} {b : Int} {i fr : Nat} (h : i < s.length) (he : at8 s i = b) : splitX b (s.drop i) ((s.take i).drop fr) = ((s.take i).drop fr) :: splitX b (s.drop (i + 1)) ((s.take (i + 1)).drop (i + 1)) := by
  rw [drop_at s i h]
  have h2 : (s.take (i + 1)).drop (i + 1) = [] := by simp
  rw [h2]
  simp only [splitX]
  rw [if_pos (by simpa [at8] using he)]
theorem splitX_ne {s : Str} {b : Int} {i fr : Nat} (h : i < s.length) (hf : fr ≤ i) (he : ¬ at8 s i = b) : splitX b (s.drop i) ((s.take i).drop fr) = splitX b (s.drop (i + 1)) ((s.take (i + 1)).drop fr) := by
  rw [drop_at s i h, take_succ_at s i h, List.drop_append_of_le_length (by simp; omega)]
  simp only [splitX]
  rw [if_neg (by simpa [at8] using he)]
theorem splitX_end {s : Str} {b : Int} {i fr : Nat} (h : s.length ≤ i) : splitX b (s.drop i) ((s.take i).drop fr) = [s.drop fr] := by
  rw [List.drop_eq_nil_of_le h, List.take_of_length_le h]; rfl
theorem splitX_len (b : Int) : ∀ (s cur : Str), (splitX b s cur).length ≤ s.length + 1
  | [], cur => by simp [splitX]
  | c :: r, cur => by
    simp only [splitX]
    split
    · have := splitX_len b r []; simp; omega
    · have := splitX_len b r (cur ++ [c]); simp; omega
theorem splitL_len (s : Str) (b : Int) : (splitL s b).length ≤ s.length + 1 := splitX_len b s []
theorem splitX_pos (b : Int) (s cur : Str) : 1 ≤ (splitX b s cur).length := by
  induction s generalizing cur with
  | nil => simp [splitX]
  | cons c r ih =>
    simp only [splitX]
    split
    · simp
    · exact ih _
/-- what stands behind the first of some bytes, and ahead of it -/
def behindX (s : Str) (b : Int) (i : Nat) : Str × Str := match (s.drop i).findIdx? (fun c => decide ((c.toNat : Int) = b)) with
  | some k => (s.drop (i + k + 1), s.take (i + k))
  | none => ([], s)
def behindL (s : Str) (b : Int) : Str × Str := behindX s b 0
theorem behindX_eq {s : Str} {b : Int} {i : Nat} (h : i < s.length) (he : at8 s i = b) : behindX s b i = (s.drop (i + 1), s.take i) := by
  unfold behindX
  rw [drop_at s i h, List.findIdx?_cons]
  simp only [at8] at he
  rw [if_pos (by simpa using he)]; rfl
theorem behindX_ne {s : Str} {b : Int} {i : Nat} (h : i < s.length) (he : ¬ at8 s i = b) : behindX s b i = behindX s b (i + 1) := by
  unfold behindX
  rw [drop_at s i h, List.findIdx?_cons]
  simp only [at8] at he
  simp only [he, decide_false, Bool.false_eq_true, if_false]
  cases (s.drop (i + 1)).findIdx? (fun c => decide ((c.toNat : Int) = b)) with
  | none => rfl
  | some k => simp only [Option.map_some]; rw [show i + (k + 1) = i + 1 + k by omega]
theorem behindX_end {s : Str} {b : Int} {i : Nat} (h : s.length ≤ i) : behindX s b i = ([], s) := by
  unfold behindX
  rw [List.drop_eq_nil_of_le h]; rfl
def tch (c : Int) : Bool := lowB c || digitB c || decide (c = 45)
def tagB (t : Str) : Bool := decide (1 ≤ t.length) && decide (t.length ≤ 8) && allF (fun i => tch (at8 t i)) 0 t.length
def numericB (t : Str) : Bool := allF (fun i => digitB (at8 t i)) 0 t.length && decide (0 < t.length)
def tagOK (p : Bool) (t : Str) : Bool := tagB t && !(p && numericB t && !numB t)
def tagsP (s : Str) (p : Bool) : Bool := decide ((splitL s 46).length ≤ 4) && allF (fun i => tagOK p (splitL s 46)[i]!) 0 (splitL s 46).length
def tagsB (s : Str) (p : Bool) : Bool := decide (s = []) || tagsP s p
def fitB (n : Int) : Bool := decide (0 ≤ n) && decide (n ≤ 9999)
def verB (v : Ver) : Bool := fitB v.major && fitB v.minor && fitB v.patch && tagsB v.pre true && tagsB v.build false
def verS (v : Ver) : Str := decN v.major.toNat ++ [46] ++ decN v.minor.toNat ++ [46] ++ decN v.patch.toNat ++ (if v.pre = [] then [] else 45 :: v.pre) ++ (if v.build = [] then [] else 43 :: v.build)
def verP (v : Ver) : Str := if verB v = true then verS v else []
def Ver.sm (v : Ver) : Prop := v.pre.length ≤ 1048576 ∧ v.build.length ≤ 1048576
end Go.Abs
end
section
namespace Go.Abs
def or64 (a b : Int) : Int := IntKind.u64.wrap ((BitVec.ofInt 64 a ||| BitVec.ofInt 64 b).toNat)
def xor64 (a b : Int) : Int := IntKind.u64.wrap ((BitVec.ofInt 64 a ^^^ BitVec.ofInt 64 b).toNat)
def shl64 (a : Int) (k : Nat) : Int := IntKind.u64.wrap (a * 2 ^ k)
def shr64 (a : Int) (k : Nat) : Int := a.fdiv (2 ^ k)
def rot (h : Int) (k : Nat) : Int := or64 (shl64 h k) (shr64 h (64 - k))
def sumStep (h : Int) (c : Int) : Int := IntKind.u64.wrap (rot (xor64 h c) 13 * 18397679294719823053)
def sumF (s : Str) : Int := s.foldl (fun h c => sumStep h c.toNat) 11400714819323198485
def sumL (s : Str) : Int := xor64 (sumF s) (shr64 (sumF s) 29)
theorem sumF_succ (s : Str) (i : Nat) (h : i < s.length) : sumF (s.take (i + 1)) = sumStep (sumF (s.take i)) (at8 s i) := by
  rw [take_succ_at s i h]; simp [sumF, List.foldl_append, at8]
/-- four bits of a number -/
def nib (n : Int) (i : Nat) : Nat := (BitVec.ofInt 64 (shr64 n (4 * i)) &&& 15#64).toNat
theorem nib_lt (n : Int) (i : Nat) : nib n i < 16 := by
  unfold nib
  rw [BitVec.toNat_and]
  exact Nat.lt_of_le_of_lt Nat.and_le_right (by decide)
theorem nib_wrap (n : Int) (i : Nat) : IntKind.u64.wrap ((BitVec.ofInt 64 (shr64 n (4 * i)) &&& BitVec.ofInt 64 15).toNat) = (nib n i : Nat) := by
  have h := nib_lt n i
  unfold nib at h ⊢
  have e : BitVec.ofInt 64 15 = 15#64 := by decide
  rw [e, IntKind.wrap_u64]
  omega
def hexD (k : Nat) : UInt8 := ([48, 49, 50, 51, 52, 53, 54, 55, 56, 57, 97, 98, 99, 100, 101, 102] : Str).getD k 0
def textL (n : Int) : Str := (List.range 16).map fun j => hexD (nib n (15 - j))
theorem textL_len (n : Int) : (textL n).length = 16 := by simp [textL]
theorem textL_take (n : Int) (k : Nat) (h : k ≤ 16) : ((textL n).take k).length = k := by simp [textL_len]; omega
theorem textL_succ (n : Int) (k : Nat) (h : k < 16) : (textL n).take (k + 1) = (textL n).take k ++ [([48, 49, 50, 51, 52, 53, 54, 55, 56, 57, 97, 98, 99, 100, 101, 102] : Str).getD (nib n (15 - k)) 0] := by
  rw [take_succ_at _ k (by rw [textL_len]; omega)]
  congr 2
  simp [textL, h, hexD]
theorem hexD_lt (k : Nat) (h : k < 10) : ((hexD k).toNat : Int) = 48 + k := by
  have : ∀ k : Fin 10, ((hexD k.1).toNat : Int) = 48 + k.1 := by decide
  exact this ⟨k, h⟩
theorem hexD_ge (k : Nat) (h : 10 ≤ k) (h2 : k < 16) : ((hexD k).toNat : Int) = 87 + k := by
  have : ∀ k : Fin 16, 10 ≤ k.1 → ((hexD k.1).toNat : Int) = 87 + k.1 := by decide
  exact this ⟨k, h2⟩ h
/-- the digits, written from behind, i of them -/
def textB (n : Int) (i : Nat) : Str := List.replicate (16 - i) 0 ++ (textL n).drop (16 - i)
theorem textB_len (n : Int) (i : Nat) : (textB n i).length = 16 := by simp [textB, textL_len]
theorem textB_all (n : Int) : textB n 16 = textL n := by simp [textB]
theorem textB_set (n : Int) (i : Nat) (h : i < 16) : textB n (i + 1) = (textB n i).set (15 - i) (hexD (nib n i)) := by
  apply List.ext_getElem
  · simp [textB_len]
  · intro j h1 h2
    rw [textB_len] at h1
    simp only [textB, List.getElem_set, List.getElem_append, List.length_replicate, List.getElem_replicate, List.getElem_drop]
    by_cases hj : 15 - i = j
    · subst hj
      rw [if_pos rfl, dif_neg (by omega)]
      simp only [textL, List.getElem_map, List.getElem_range]
      congr 2; omega
    · rw [if_neg hj]
      by_cases h3 : j < 16 - (i + 1)
      · rw [dif_pos h3, dif_pos (by omega)]
      · rw [dif_neg h3, dif_neg (by omega)]
        congr 1; omega
def hexB (c : Int) : Bool := digitB c || (decide (97 ≤ c) && decide (c ≤ 102))
def hexV (c : Int) : Int := if digitB c = true then c - 48 else c - 87
def readStep (n c : Int) : Int := or64 (shl64 n 4) (hexV c)
def readF (s : Str) : Int := s.foldl (fun n c => readStep n c.toNat) 0
theorem readF_succ (s : Str) (i : Nat) (h : i < s.length) : readF (s.take (i + 1)) = readStep (readF (s.take i)) (at8 s i) := by
  rw [take_succ_at s i h]; simp [readF, List.foldl_append, at8]
def readB (s : Str) : Bool := decide (s.length = 16) && allF (fun i => hexB (at8 s i)) 0 s.length
def readO (s : Str) : Int := if readB s = true then readF s else 0
def Env.at (e : Env) : Nat → Str
  | 0 => e.e0
  | 1 => e.e1
  | _ => e.e2
theorem Env.ld (e : Env) {i : Nat} (h : i < 3) : ldEl (Env.D e) 3 1 (0 + i * 1) false = .str (e.at i) := by
  match i, h with
  | 0, _ => rfl
  | 1, _ => rfl
  | 2, _ => rfl
theorem Lck.ld (l : Lck) {i : Nat} (h : i < 3) : ldEl (Lck.D l) 4 1 (0 + i * 1) false = .str (l.env.at i) := by
  match i, h with
  | 0, _ => rfl
  | 1, _ => rfl
  | 2, _ => rfl
theorem Env.cut (e : Env) {i : Nat} (h : i < 3) : Abs.cut [.str e.e0, .str e.e1, .str e.e2] (i * 1) 1 false = .str (e.at i) := by
  match i, h with
  | 0, _ => rfl
  | 1, _ => rfl
  | 2, _ => rfl
def envB (e : Env) : Bool := allF (fun i => decide (e.at i = []) || wordB (e.at i)) 0 3
/-- lines -/
def featB (l : List Str) (i : Nat) : Bool := wordB l[i]! && !(decide (0 < i) && !Op.bytesLess l[i - 1]! l[i]!)
def lkdB (x : Lkd) : Bool := nameB x.name && verB x.v && !(decide (x.shelf ≠ []) && !nameB x.shelf) && !(decide (x.shelf = []) && decide (x.sum ≠ 0)) && decide (x.feats.length ≤ 9) && allF (featB x.feats) 0 x.feats.length
def lineB (l : List Lkd) (i : Nat) : Bool := lkdB l[i]! && !(decide (0 < i) && !Op.bytesLess l[i - 1]!.name l[i]!.name)
def lckB (l : Lck) : Bool := envB l.env && decide (l.lines.length ≤ 48) && allF (lineB l.lines) 0 l.lines.length
def Lkd.sm (x : Lkd) : Prop := x.v.sm ∧ x.name.length ≤ 1048576 ∧ x.shelf.length ≤ 1048576 ∧ x.feats.length ≤ 1048576 ∧ ∀ t ∈ x.feats, t.length ≤ 1048576
def Lck.sm (l : Lck) : Prop := l.lines.length ≤ 1048576 ∧ (∀ x ∈ l.lines, x.sm) ∧ ∀ i, (l.env.at i).length ≤ 1048576
theorem mem_get {α : Type} [Inhabited α] {l : List α} {i : Nat} (h : i < l.length) : l[i]! ∈ l := by
  simp [h]
/-- what was taken from shelves -/
structure Kp where
  name : Str
  v : Ver
  deriving Inhabited, DecidableEq
def Kp.D (x : Kp) : D := .agg [.str x.name, .int .i64 x.v.major, .int .i64 x.v.minor, .int .i64 x.v.patch, .str x.v.pre, .str x.v.build]
def keepsL (l : List Lkd) : List Kp := (l.filter fun x => decide (x.shelf ≠ [])).map fun x => ⟨x.name, x.v⟩
def findI (l : List Lkd) (nm : Str) (i : Nat) : Int := match (l.drop i).findIdx? (fun x => decide (x.name = nm)) with
  | some k => ((i + k : Nat) : Int)
  | none => -1
theorem findI_eq {l : List Lkd} {nm : Str} {i : Nat} (h : i < l.length) (he : l[i]!.name = nm) : findI l nm i = (i : Nat) := by
  unfold findI
  rw [List.drop_eq_getElem_cons h, List.findIdx?_cons]
  have : l[i].name = nm := by simpa [h] using he
  simp [this]
theorem findI_ne {l : List Lkd} {nm : Str} {i : Nat} (h : i < l.length) (he : ¬ l[i]!.name = nm) : findI l nm i = findI l nm (i + 1) := by
  unfold findI
  have : ¬ l[i].name = nm := by simpa [h] using he
  rw [List.drop_eq_getElem_cons h, List.findIdx?_cons]
  simp only [this, decide_false, Bool.false_eq_true, if_false]
  cases (l.drop (i + 1)).findIdx? (fun x => decide (x.name = nm)) with
  | none => rfl
  | some k => simp only [Option.map_some]; congr 1; omega
theorem findI_end {l : List Lkd} {nm : Str} {i : Nat} (h : l.length ≤ i) : findI l nm i = -1 := by
  unfold findI
  rw [List.drop_eq_nil_of_le h]; rfl
theorem same_idx {α : Type} [Inhabited α] [DecidableEq α] {a b : List α} (h : a.length = b.length) : decide (a = b) = allF (fun i => decide (a[i]! = b[i]!)) 0 a.length := by
  rw [Bool.eq_iff_iff, decide_eq_true_eq, allF_iff]
  constructor
  · rintro rfl j _ _; simp
  · intro hj
    apply List.ext_getElem h
    intro i h1 h2
    have := hj i (by omega) h1
    simpa [h1, h2] using this
theorem Lkd.same {a b : Lkd} (e1 : a.name = b.name) (e2 : a.v = b.v) (e3 : a.shelf = b.shelf) (e4 : a.sum = b.sum) (e5 : a.feats.length = b.feats.length) : decide (a = b) = allF (fun i => decide (a.feats[i]! = b.feats[i]!)) 0 a.feats.length := by
  rw [← same_idx e5]
  obtain ⟨a1, a2, a3, a4, a5⟩ := a
  obtain ⟨b1, b2, b3, b4, b5⟩ := b
  simp only at e1 e2 e3 e4
  subst e1; subst e2; subst e3; subst e4
  simp
def dashS (s : Str) : Str := if s = [] then [45] else s
def undashS (s : Str) : Str := if s = [45] then [] else s
def featsS (l : List Str) : Str := (l.map fun t => 32 :: t).flatten
def lkdS (x : Lkd) : Str := x.name ++ [32] ++ verP x.v ++ [32] ++ dashS x.shelf ++ [32] ++ textL x.sum ++ featsS x.feats
def headI (e : Env) : Nat → Str
  | 0 => [108, 105, 110, 99, 104, 112, 105, 110, 32, 108, 111, 99, 107, 10, 112, 108, 97, 116, 102, 111, 114, 109]
  | i + 1 => headI e i ++ [32] ++ dashS (e.at i)
def headS (e : Env) : Str := headI e 3 ++ [10]
def linesS (l : List Lkd) : Str := (l.map fun x => lkdS x ++ [10]).flatten
def bodyS (l : Lck) : Str := headS l.env ++ linesS l.lines
def lckS (l : Lck) : Str := bodyS l ++ [115, 117, 109, 32] ++ textL (sumL (bodyS l)) ++ [10]
/-- the text, and the error -/
def prS (l : Lck) : Str := if lckB l = true ∧ (lckS l).length ≤ 8192 then lckS l else []
def prE (l : Lck) : Int := if lckB l = true then (if (lckS l).length ≤ 8192 then 0 else 32) else 34
/-- texts, one between two of them -/
def joinS (b : Str) : List Str → Str
  | [] => []
  | [t] => t
  | t :: u :: r => t ++ b ++ joinS b (u :: r)
theorem joinS_cons (b t : Str) (r : List Str) (h : r ≠ []) : joinS b (t :: r) = t ++ b ++ joinS b r := by
  cases r with
  | nil => exact absurd rfl h
  | cons u r => rfl
theorem joinS_feats : ∀ (t : Str) (l : List Str), joinS [32] (t :: l) = t ++ featsS l
  | t, [] => by simp [joinS, featsS]
  | t, u :: r => by
    rw [joinS_cons _ _ _ (by simp), joinS_feats u r]
    simp [featsS]
theorem line_join (x : Lkd) : joinS [32] ([x.name, verP x.v, dashS x.shelf, textL x.sum] ++ x.feats) = lkdS x := by
  simp only [List.cons_append, List.nil_append]
  rw [joinS_cons _ _ _ (by simp), joinS_cons _ _ _ (by simp), joinS_cons _ _ _ (by simp), joinS_feats]
  simp [lkdS]
theorem featsS_take (l : List Str) (i : Nat) (h : i < l.length) : featsS (l.take (i + 1)) = featsS (l.take i) ++ [32] ++ l[i]! := by
  rw [List.take_add_one, List.getElem?_eq_getElem h]; unfold featsS; rw [List.map_append, List.flatten_append]; simp [h]
theorem linesS_take (l : List Lkd) (i : Nat) (h : i < l.length) : linesS (l.take (i + 1)) = linesS (l.take i) ++ (lkdS l[i]! ++ [10]) := by
  rw [List.take_add_one, List.getElem?_eq_getElem h]; unfold linesS; rw [List.map_append, List.flatten_append]; simp [h]
theorem flatten_len {α : Type} (q : α → Str) (B : Nat) : ∀ l : List α, (∀ x ∈ l, (q x).length ≤ B) → ((l.map q).flatten).length ≤ l.length * B
  | [], _ => by simp
  | a :: r, h => by
    have h1 := h a (.head _)
    have h2 := flatten_len q B r fun x hx => h x (.tail _ hx)
    simp only [List.map_cons, List.flatten_cons, List.length_append, List.length_cons, Nat.succ_mul]
    omega
theorem dashS_len (s : Str) : (dashS s).length ≤ s.length + 1 := by
  unfold dashS; split <;> simp
theorem verP_len (v : Ver) (h : v.sm) : (verP v).length ≤ 2097200 := by
  unfold verP
  split
  · rename_i hv
    simp only [verB, Bool.and_eq_true] at hv
    obtain ⟨⟨⟨⟨hv1, hv2⟩, hv3⟩, _⟩, _⟩ := hv
    simp only [fitB, Bool.and_eq_true, decide_eq_true_eq] at hv1 hv2 hv3
    have hl1 := decN_len 4 v.major.toNat (by omega) (by omega)
    have hl2 := decN_len 4 v.minor.toNat (by omega) (by omega)
    have hl3 := decN_len 4 v.patch.toNat (by omega) (by omega)
    obtain ⟨h1, h2⟩ := h
    unfold verS
    split <;> split <;> simp <;> omega
  · simp
theorem featsS_len (l : List Str) (h1 : l.length ≤ 1048576) (h2 : ∀ t ∈ l, t.length ≤ 1048576) : (featsS l).length ≤ 1099512676352 := by
  have := flatten_len (fun t => (32 :: t : Str)) 1048577 l (fun t ht => by have := h2 t ht; simp; omega)
  have h3 := Nat.mul_le_mul_right 1048577 h1
  unfold featsS; omega
theorem lkdS_len (x : Lkd) (h : x.sm) : (lkdS x).length ≤ 1099600000000 := by
  obtain ⟨h1, h2, h3, h4, h5⟩ := h
  have a1 := verP_len x.v h1
  have a2 := featsS_len x.feats h4 h5
  have a3 := dashS_len x.shelf
  have a4 := textL_len x.sum
  simp only [lkdS, List.length_append, List.length_cons, List.length_nil]
  omega
theorem linesS_len (l : List Lkd) (h1 : l.length ≤ 1048576) (h2 : ∀ x ∈ l, x.sm) : (linesS l).length ≤ 1153100000000000000 := by
  have := flatten_len (fun x => lkdS x ++ [10]) 1099600000001 l (fun x hx => by have := lkdS_len x (h2 x hx); simp; omega)
  have h3 := Nat.mul_le_mul_right 1099600000001 h1
  unfold linesS; omega
def Env.sm (e : Env) : Prop := ∀ i, (e.at i).length ≤ 1048576
theorem headI_len (e : Env) (h : e.sm) : ∀ i, (headI e i).length ≤ 22 + i * 1048578
  | 0 => by simp [headI]
  | i + 1 => by
    have := headI_len e h i
    have h2 := dashS_len (e.at i)
    have h3 := h i
    simp only [headI, List.length_append, List.length_cons, List.length_nil]
    omega
theorem filter_take (l : List Lkd) (i : Nat) (h : i < l.length) : keepsL (l.take (i + 1)) = keepsL (l.take i) ++ (if l[i]!.shelf = [] then [] else [⟨l[i]!.name, l[i]!.v⟩]) := by
  rw [List.take_add_one]
  simp only [keepsL, List.filter_append, List.map_append, h, getElem?_pos, Option.toList_some]
  by_cases e : l[i].shelf = [] <;> simp [e, h]
theorem keeps_len (l : List Lkd) : (keepsL l).length ≤ l.length := by
  simp only [keepsL, List.length_map]; exact List.length_filter_le _ _
end Go.Abs
end
section
namespace Go.Abs
def placeI (v n : Int) : Int := if n < 1 then 0 else if v.tmod n < 0 then v.tmod n + n else v.tmod n
theorem tmod_range (v n : Int) (h : 1 ≤ n) : -n < v.tmod n ∧ v.tmod n < n := ⟨Int.lt_tmod_of_pos v (by omega), Int.tmod_lt_of_pos v (by omega)⟩
theorem placeI_range (v n : Int) (h : 1 ≤ n) : 0 ≤ placeI v n ∧ placeI v n < n := by
  have := tmod_range v n h
  unfold placeI
  rw [if_neg (by omega)]
  split <;> omega
def atI (l : List Int) (i : Int) : Int := if i < 0 ∨ (l.length : Int) ≤ i then i.tmod 3 else l[i.toNat]!
structure Gs where
  l : List Int
  i : Int
  deriving Inhabited
def Gs.D (g : Gs) : D := .agg [.sl 1 (g.l.map (D.int .i64)), .int .i64 g.i]
def Gs.val (g : Gs) (n : Int) : Int := placeI (atI g.l g.i) n
def Gs.nxt (g : Gs) : Gs := ⟨g.l, g.i + 1⟩
/-- what stands ahead of the first of some bytes, behind it, and whether there is one -/
def cutL (s : Str) (b : UInt8) : Str × Str × Bool := match s.findIdx? (fun c => c == b) with
  | some k => (s.take k, s.drop (k + 1), true)
  | none => (s, [], false)
def cutPre (s p : Str) : Str × Bool := if p.isPrefixOf s = true then (s.drop p.length, true) else (s, false)
theorem cutL_len (s : Str) (b : UInt8) : (cutL s b).1.length ≤ s.length ∧ ((cutL s b).2.2 = true → (cutL s b).1.length + 1 ≤ s.length) := by
  unfold cutL
  split
  · rename_i k h
    have := List.findIdx?_eq_some_iff_findIdx_eq.1 h
    simp only [List.length_take]
    omega
  · simp
structure Rdr where
  s : Str
  at' : Nat
  n : Nat
def Rdr.D (r : Rdr) : D := .agg [.str r.s, .int .i64 (r.at' : Nat), .int .i64 (r.n : Nat)]
def Rdr.ln (r : Rdr) : Str × Str × Bool := cutL (r.s.drop r.at') 10
def Rdr.nxt (r : Rdr) : Rdr := ⟨r.s, if r.ln.2.2 = true then r.at' + (r.ln.1.length + 1) else r.at', r.n + 1⟩
def verZ : Ver := ⟨0, 0, 0, [], []⟩
def verQ (s : Str) : Option Ver :=
  let a := behindL s 43
  let b := behindL a.2 45
  let l := splitL b.2 46
  if l.length = 3 ∧ numB l[0]! = true ∧ numB l[1]! = true ∧ numB l[2]! = true then
    let v : Ver := ⟨numO l[0]!, numO l[1]!, numO l[2]!, b.1, a.1⟩
    if verB v = true ∧ verP v = s then some v else none
  else none
def nArr (l : List Str) (i : Nat) : D := .agg [.int .i64 (if 0 < i then numO l[0]! else 0), .int .i64 (if 1 < i then numO l[1]! else 0), .int .i64 (if 2 < i then numO l[2]! else 0)]
theorem nArr_set (l : List Str) (i : Nat) (h : i < 3) : stEl (nArr l i) 3 1 (0 + i * 1) (.int .i64 (numO l[i]!)) = nArr l (i + 1) := by
  match i, h with
  | 0, _ => rfl
  | 1, _ => rfl
  | 2, _ => rfl
theorem behindL_len (s : Str) (b : Int) : (behindL s b).1.length ≤ s.length ∧ (behindL s b).2.length ≤ s.length := by
  unfold behindL behindX
  split
  · simp; omega
  · simp
theorem splitX_mem (b : Int) : ∀ (s cur : Str), ∀ t ∈ splitX b s cur, t.length ≤ cur.length + s.length
  | [], cur, t, h => by simp only [splitX, List.mem_singleton] at h; subst h; simp
  | c :: r, cur, t, h => by
    simp only [splitX] at h
    split at h
    · rcases List.mem_cons.1 h with rfl | h
      · simp
      · have := splitX_mem b r [] t h
        simp at this ⊢; omega
    · have := splitX_mem b r (cur ++ [c]) t h
      simp at this ⊢; omega
theorem splitL_mem (s : Str) (b : Int) {t : Str} (h : t ∈ splitL s b) : t.length ≤ s.length := by
  have := splitX_mem b s [] t h
  simpa using this
theorem splitL_get (s : Str) (b : Int) {i : Nat} (h : i < (splitL s b).length) : ((splitL s b)[i]!).length ≤ s.length := splitL_mem s b (mem_get h)
/-- a line's words, as a line -/
def lkdX (t : Str) : Lkd := ⟨(splitL t 32)[0]!, (verQ (splitL t 32)[1]!).getD verZ, undashS (splitL t 32)[2]!, readO (splitL t 32)[3]!, (splitL t 32).drop 4⟩
def lkdZ : Lkd := ⟨[], verZ, [], 0, []⟩
def lkdP (t : Str) : Bool := decide (4 ≤ (splitL t 32).length) && !decide ((splitL t 32)[2]! = [])
def lkdR (t : Str) : Lkd := if lkdP t = true then lkdX t else lkdZ
def lkdOK (t : Str) : Bool := lkdP t && (verQ (splitL t 32)[1]!).isSome && readB (splitL t 32)[3]! && lkdB (lkdX t)
def envZ : Env := ⟨[], [], []⟩
def envX (t : Str) : Env := ⟨undashS (splitL t 32)[1]!, undashS (splitL t 32)[2]!, undashS (splitL t 32)[3]!⟩
def envP (t : Str) : Bool := decide ((splitL t 32).length = 4) && decide ((splitL t 32)[0]! = [112, 108, 97, 116, 102, 111, 114, 109]) && allF (fun i => !decide ((splitL t 32)[i + 1]! = [])) 0 3
def envR (t : Str) : Env := if envP t = true then envX t else envZ
def envOK (t : Str) : Bool := envP t && envB (envX t)
end Go.Abs
namespace Go.Abs
/-- a lock's text, read line by line -/
def sumW : Str := [115, 117, 109, 32]
def lckZ : Lck := ⟨envZ, []⟩
def stopB (ls : List Lkd) (t : Str) (ended : Bool) : Bool := !ended || !lkdOK t || decide (48 ≤ ls.length) || (decide (0 < ls.length) && !Op.bytesLess ls[ls.length - 1]!.name (lkdR t).name)
def parseL (e : Env) : Nat → Rdr → List Lkd → Lck × Int × Int
  | 0, _, _ => (lckZ, 0, 0)
  | f + 1, r, ls =>
    if (cutPre r.ln.1 sumW).2 = true ∧ r.ln.2.2 = true ∧ (cutPre r.ln.1 sumW).1.contains 32 = false then
      if readB (cutPre r.ln.1 sumW).1 = false then (lckZ, 2, (r.nxt.n : Nat))
      else if r.nxt.at' < r.s.length then (lckZ, 2, (r.nxt.n : Nat) + 1)
      else if readO (cutPre r.ln.1 sumW).1 ≠ sumL (r.s.take r.at') then (lckZ, 13, 0)
      else (⟨e, ls⟩, 0, 0)
    else if stopB ls r.ln.1 r.ln.2.2 = true then (lckZ, 2, (r.nxt.n : Nat))
    else parseL e f r.nxt (ls ++ [lkdR r.ln.1])
def firstW : Str := [108, 105, 110, 99, 104, 112, 105, 110, 32, 108, 111, 99, 107]
def parseX (s : Str) : Lck × Int × Int :=
  if 8192 < s.length then (lckZ, 32, 0) else
  let r0 : Rdr := ⟨s, 0, 0⟩
  if r0.ln.2.2 = false ∨ r0.ln.1 ≠ firstW then (lckZ, 2, 1) else
  let r1 := r0.nxt
  if r1.ln.2.2 = false ∨ envOK r1.ln.1 = false then (lckZ, 2, 2) else
  parseL (envR r1.ln.1) (s.length + 1) r1.nxt []
theorem Rdr.nxt_le (r : Rdr) (h : r.at' ≤ r.s.length) : r.nxt.at' ≤ r.nxt.s.length ∧ (r.ln.2.2 = true → r.at' < r.nxt.at') := by
  have hc := (cutL_len (r.s.drop r.at') 10).2
  simp only [List.length_drop] at hc
  show (if (cutL (r.s.drop r.at') 10).2.2 = true then r.at' + ((cutL (r.s.drop r.at') 10).1.length + 1) else r.at') ≤ r.s.length ∧ ((cutL (r.s.drop r.at') 10).2.2 = true → r.at' < (if (cutL (r.s.drop r.at') 10).2.2 = true then r.at' + ((cutL (r.s.drop r.at') 10).1.length + 1) else r.at'))
  generalize cutL (r.s.drop r.at') 10 = c at hc
  by_cases hb : c.2.2 = true
  · have := hc hb
    rw [if_pos hb]
    exact ⟨by omega, fun _ => by omega⟩
  · rw [if_neg hb]
    exact ⟨h, fun hb2 => absurd hb2 hb⟩
def verE (s : Str) : Int := if (verQ s).isSome = true then 0 else 5
end Go.Abs
namespace Go.Abs
def eArr (l : List Str) (i : Nat) : D := .agg [.str (if 0 < i then undashS l[1]! else []), .str (if 1 < i then undashS l[2]! else []), .str (if 2 < i then undashS l[3]! else [])]
theorem eArr_set (l : List Str) (i : Nat) (h : i < 3) : stEl (eArr l i) 3 1 (0 + i * 1) (.str (undashS l[i + 1]!)) = eArr l (i + 1) := by
  match i, h with
  | 0, _ => rfl
  | 1, _ => rfl
  | 2, _ => rfl
theorem drop_get (l : List Str) (i : Nat) (h : i + 1 < l.length) : (l.drop 1)[i]! = l[i + 1]! := by
  have h2 : i < (l.drop 1).length := by simp; omega
  simp only [h2, h, getElem!_pos, List.getElem_drop]
  congr 1; omega
end Go.Abs
namespace Go.Abs
theorem verQ_sm {s : Str} (h : s.length ≤ 1048576) : ((verQ s).getD verZ).sm := by
  have h0 : verZ.sm := ⟨by simp [verZ], by simp [verZ]⟩
  cases hq : verQ s with
  | none => exact h0
  | some v =>
    simp only [Option.getD_some]
    simp only [verQ] at hq
    split at hq
    · split at hq
      · obtain rfl := Option.some.inj hq
        have h1 := behindL_len s 43
        have h2 := behindL_len (behindL s 43).2 45
        exact ⟨by simp only; omega, by simp only; omega⟩
      · cases hq
    · cases hq
theorem undashS_len (s : Str) : (undashS s).length ≤ s.length := by
  unfold undashS; split <;> simp
theorem lkdX_sm {t : Str} (h : t.length ≤ 8192) (h4 : 4 ≤ (splitL t 32).length) : (lkdX t).sm := by
  have hl := splitL_len t 32
  refine ⟨verQ_sm (Nat.le_trans (splitL_get t 32 (by omega)) (by omega)), Nat.le_trans (splitL_get t 32 (by omega)) (by omega), Nat.le_trans (undashS_len _) (Nat.le_trans (splitL_get t 32 (by omega)) (by omega)), by simp only [lkdX, List.length_drop]; omega, fun x hx => ?_⟩
  exact Nat.le_trans (splitL_mem t 32 (List.mem_of_mem_drop hx)) (by omega)
theorem verE_dec (s : Str) : decide (verE s = 0) = (verQ s).isSome := by
  unfold verE; cases (verQ s) <;> simp
end Go.Abs
namespace Go.Abs
theorem cutPre_len (s p : Str) : (cutPre s p).1.length ≤ s.length := by
  unfold cutPre; split <;> simp
end Go.Abs
namespace Go.Abs
theorem parseL_if {e : Env} {f : Nat} {r : Rdr} {ls : List Lkd} (h : ((cutPre r.ln.1 sumW).2 && r.ln.2.2 && !(cutPre r.ln.1 sumW).1.contains 32) = true) : (cutPre r.ln.1 sumW).2 = true ∧ r.ln.2.2 = true ∧ (cutPre r.ln.1 sumW).1.contains 32 = false := by
  rw [Bool.and_eq_true, Bool.and_eq_true, Bool.not_eq_true'] at h
  exact ⟨h.1.1, h.1.2, h.2⟩
theorem parseL_nif {r : Rdr} (h : ((cutPre r.ln.1 sumW).2 && r.ln.2.2 && !(cutPre r.ln.1 sumW).1.contains 32) = false) : ¬ ((cutPre r.ln.1 sumW).2 = true ∧ r.ln.2.2 = true ∧ (cutPre r.ln.1 sumW).1.contains 32 = false) := by
  rintro ⟨h1, h2, h3⟩
  rw [h1, h2, h3] at h; cases h
variable {e : Env} {f : Nat} {r : Rdr} {ls : List Lkd}
theorem parseL_sum1 (h : ((cutPre r.ln.1 sumW).2 && r.ln.2.2 && !(cutPre r.ln.1 sumW).1.contains 32) = true) (h2 : readB (cutPre r.ln.1 sumW).1 = false) : parseL e (f + 1) r ls = (lckZ, 2, ((r.nxt.n : Nat) : Int)) := by
  unfold parseL
  rw [if_pos (parseL_if (e := e) (f := f) (ls := ls) h), if_pos h2]
theorem parseL_sum2 (h : ((cutPre r.ln.1 sumW).2 && r.ln.2.2 && !(cutPre r.ln.1 sumW).1.contains 32) = true) (h2 : readB (cutPre r.ln.1 sumW).1 = true) (h3 : r.nxt.at' < r.s.length) : parseL e (f + 1) r ls = (lckZ, 2, ((r.nxt.n : Nat) : Int) + 1) := by
  unfold parseL
  rw [if_pos (parseL_if (e := e) (f := f) (ls := ls) h), if_neg (by rw [h2]; simp), if_pos h3]
theorem parseL_sum3 (h : ((cutPre r.ln.1 sumW).2 && r.ln.2.2 && !(cutPre r.ln.1 sumW).1.contains 32) = true) (h2 : readB (cutPre r.ln.1 sumW).1 = true) (h3 : ¬ r.nxt.at' < r.s.length) (h4 : readO (cutPre r.ln.1 sumW).1 ≠ sumL (r.s.take r.at')) : parseL e (f + 1) r ls = (lckZ, 13, 0) := by
  unfold parseL
  rw [if_pos (parseL_if (e := e) (f := f) (ls := ls) h), if_neg (by rw [h2]; simp), if_neg h3, if_pos h4]
theorem parseL_sum4 (h : ((cutPre r.ln.1 sumW).2 && r.ln.2.2 && !(cutPre r.ln.1 sumW).1.contains 32) = true) (h2 : readB (cutPre r.ln.1 sumW).1 = true) (h3 : ¬ r.nxt.at' < r.s.length) (h4 : readO (cutPre r.ln.1 sumW).1 = sumL (r.s.take r.at')) : parseL e (f + 1) r ls = (⟨e, ls⟩, 0, 0) := by
  unfold parseL
  rw [if_pos (parseL_if (e := e) (f := f) (ls := ls) h), if_neg (by rw [h2]; simp), if_neg h3, if_neg (fun h => h h4)]
theorem parseL_stop (h : ((cutPre r.ln.1 sumW).2 && r.ln.2.2 && !(cutPre r.ln.1 sumW).1.contains 32) = false) (h2 : stopB ls r.ln.1 r.ln.2.2 = true) : parseL e (f + 1) r ls = (lckZ, 2, ((r.nxt.n : Nat) : Int)) := by
  rw [parseL, if_neg (parseL_nif h), if_pos h2]
theorem parseL_next (h : ((cutPre r.ln.1 sumW).2 && r.ln.2.2 && !(cutPre r.ln.1 sumW).1.contains 32) = false) (h2 : stopB ls r.ln.1 r.ln.2.2 = false) : parseL e (f + 1) r ls = parseL e f r.nxt (ls ++ [lkdR r.ln.1]) := by
  rw [parseL, if_neg (parseL_nif h), if_neg (by rw [h2]; simp)]
end Go.Abs
namespace Go.Abs
theorem stopB_eq (ls : List Lkd) (t : Str) (e : Bool) : (!e || !lkdOK t || decide ((48 : Int) ≤ (ls.length : Int)) || (decide ((0 : Int) < (ls.length : Int)) && !Op.bytesLess ls[0 + (ls.length - 1)]!.name (lkdR t).name)) = stopB ls t e := by
  unfold stopB
  rw [Nat.zero_add, show decide ((48 : Int) ≤ (ls.length : Int)) = decide (48 ≤ ls.length) from decide_eq_decide.2 (by omega), show decide ((0 : Int) < (ls.length : Int)) = decide (0 < ls.length) from decide_eq_decide.2 (by omega)]
theorem stopB_false {ls : List Lkd} {t : Str} {e : Bool} (h : stopB ls t e = false) : e = true ∧ ls.length < 48 ∧ lkdOK t = true ∧ (0 < ls.length → Op.bytesLess ls[ls.length - 1]!.name (lkdR t).name = true) := by
  simp only [stopB, Bool.or_eq_false_iff, Bool.not_eq_false', decide_eq_false_iff_not, Bool.and_eq_false_iff] at h
  refine ⟨h.1.1.1, by omega, h.1.1.2, fun h0 => ?_⟩
  rcases h.2 with h2 | h2
  · exact absurd h0 h2
  · exact h2
end Go.Abs
end
section
namespace Go.Abs
section
variable {Γ : Ctx} {draw : Bool} {r : List GI} {env rs : List Ent} {nx : Nat} {m : List (Nat × Blk)} {K : List Ent → St → Prop} {g : Option (Nat × Bool)} {f : Bool}
/-- a change under a guard that holds -/
theorem r_callFT {n l k j : Nat} {w : Bool} {x : Src} {args : List Src} {sh : List (List Sh)} {d v e : D} {as : List D} {m2 : List (Nat × Blk)} (h : regR Γ false r env (⟨true, v⟩ :: rs) nx m2 K) (hg : GF rs (some (j, w)) true := by exact ⟨_, _, rfl, rfl⟩) (hx : evR env rs x = ⟨true, .ptr l k 0 0⟩ := by exact rfl) (hl : look m l = some (.buf k [d]) := by exact rfl) (hd : d.noLoc = true := by exact rfl) (hc : Γ.fp n d as ∧ Γ.fv n d as = v ∧ Γ.fs n d as = e) (ha : rdArgs [] sh (dds (evR env rs) args) = as := by exact rfl) (ho : oks (evR env rs) args := by repeat' first | exact trivial | exact rfl | refine And.intro ?_ ?_ | decide) (hn : noLocs (dds (evR env rs) args) = true := by exact rfl) (hm : setL m l (.buf k [e]) = m2 := by simp only [setL, delL, Nat.reduceEqDiff, if_true, if_false, Nat.reduceAdd, reduceCtorEq]; exact rfl) : regR Γ false (⟨.callF n x args sh, some (j, w)⟩ :: r) env rs nx m K :=
  r_fork rfl rfl hg (fun _ => ⟨v, by simp only [Ins.obl, hx, bufOK, bufEls, hl, List.getD_cons_zero, (rdArgs_eq _ _ _).1, ha]; exact ⟨trivial, ho, hn, trivial, trivial, ⟨trivial, by simp⟩, by simp, hd, hc.1⟩, by simp only [Ins.val, hx, bufEls, hl, List.getD_cons_zero, (rdArgs_eq _ _ _).1, ha, hc.2.1], m2, by simp only [Ins.eff, hx, bufEls, hl, List.getD_cons_zero, (rdArgs_eq _ _ _).1, ha, hc.2.2]; exact hm, h⟩) (fun h => by cases h)
/-- a change under a guard that fails -/
theorem r_dead {i : Ins} {j : Nat} {w : Bool} (h : regR Γ false r env (⟨false, .any⟩ :: rs) nx m K) (hM : i.isCallM = false := by exact rfl) (hC : i.calm = false := by exact rfl) (hg : GF rs (some (j, w)) false := by exact ⟨_, _, rfl, rfl⟩) : regR Γ false (⟨i, some (j, w)⟩ :: r) env rs nx m K :=
  r_fork hM hC hg (fun h => by cases h) (fun _ => h)
/-- what only computes, under a guard that fails -/
theorem r_off {i : Ins} {j : Nat} {w : Bool} (d : D) (h : regR Γ draw r env (⟨false, d⟩ :: rs) nx m K) (hC : i.pure = true := by exact rfl) (hg : GF rs (some (j, w)) false := by exact ⟨_, _, rfl, rfl⟩) : regR Γ draw (⟨i, some (j, w)⟩ :: r) env rs nx m K :=
  r_pure hC hg d (fun h => by cases h) (fun h => by cases h) (fun _ => h)
/-- a row that is made and never written -/
theorem r_bslI {k n : Nat} {z : D} {ps : List (Nat × Src)} (es : List D) (h : regR Γ draw r env (⟨f, .sl k es⟩ :: rs) nx m K) (hg : GF rs g f := by first | exact rfl | exact ⟨_, _, rfl, rfl⟩) (he : fillI (evR env rs) (List.replicate n z) ps = es := by exact rfl) (ho : f = true → fillIO (evR env rs) k n ps := by intro h; repeat' first | exact trivial | exact rfl | exact h | refine And.intro ?_ ?_ | decide) (hz : z.cells.length = k := by exact rfl) (hn : f = true → noLocs es = true := by exact fun _ => rfl) : regR Γ draw (⟨.bslI k z n ps, g⟩ :: r) env rs nx m K :=
  r_pure rfl hg _ (fun hf => by simp only [Ins.obl, he]; exact ⟨hz, ho hf, hn hf⟩) (fun hf => by simp only [Ins.val, he]) (fun _ => h)
end
end Go.Abs
end
