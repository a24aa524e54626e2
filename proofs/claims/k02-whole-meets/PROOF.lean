import PyProof.Rows.All
import Wide.All
import OpenK.AllK
import Wide.FinOn
import HandS.ForMost
import HandS.Wide
import HandS.IsInst
import HandS.NoneIn
import KE.KEqSeq
import KE.KEqDeep
import PySem.Challenge.RW_bymarks_k02_whole_meets
set_option Elab.async false
set_option linter.all false
set_option maxRecDepth 100000
set_option maxHeartbeats 8000000
namespace Bm
/-! classes of marks as pairs (modulus, remainder) -/
abbrev C2 := Int × Int
def Ok (c : C2) : Prop := 0 ≤ c.2 ∧ c.2 < c.1
def Lies (h : Int) (c : C2) : Prop := h % c.1 = c.2
def IsS (S : Int → Prop) : Option C2 → Prop
  | none => ∀ h, ¬ S h
  | some c => Ok c ∧ ∀ h, Lies h c ↔ S h
/-- the greatest common divisor of the moduli -/
def gg (a b : C2) : Int := (Int.gcd a.1 b.1 : Int)
structure MeetR (a b : C2) (o : Option C2) : Prop where
  s : IsS (fun h => Lies h a ∧ Lies h b) o
  n : o = none ↔ (b.2 - a.2) % gg a b ≠ 0
  m : ∀ c, o = some c → c.1 = a.1 / gg a b * b.1
theorem Ok.pos {c : C2} (h : Ok c) : 0 < c.1 := by
  have h1 := h.1
  have h2 := h.2
  omega
theorem lies_self {c : C2} (h : Ok c) : Lies c.2 c := Int.emod_eq_of_lt h.1 h.2
theorem dvd_of_mod_eq {a b m : Int} (h : a % m = b % m) : m ∣ a - b := Int.dvd_of_emod_eq_zero (Int.emod_eq_emod_iff_emod_sub_eq_zero.mp h)
theorem mod_eq_of_dvd {a b m : Int} (h : m ∣ a - b) : a % m = b % m := Int.emod_eq_emod_iff_emod_sub_eq_zero.mpr (Int.emod_eq_zero_of_dvd h)
theorem lies_iff {c : C2} (hc : Ok c) (h : Int) : Lies h c ↔ c.1 ∣ h - c.2 := by
  constructor
  · intro e
    refine dvd_of_mod_eq ?_
    rw [show h % c.1 = c.2 from e, Int.emod_eq_of_lt hc.1 hc.2]
  · intro d
    show h % c.1 = c.2
    rw [mod_eq_of_dvd d, Int.emod_eq_of_lt hc.1 hc.2]
theorem cls_dvd {c d : C2} (hc : Ok c) (hd : Ok d) (h : ∀ x, Lies x c → Lies x d) : d.1 ∣ c.1 := by
  have a := (lies_iff hd _).mp (h c.2 (lies_self hc))
  have b := (lies_iff hd _).mp (h (c.2 + c.1) ((lies_iff hc _).mpr ⟨1, by omega⟩))
  have e := Int.dvd_sub b a
  rw [show c.2 + c.1 - d.2 - (c.2 - d.2) = c.1 by omega] at e
  exact e
theorem cls_eq {c d : C2} (hc : Ok c) (hd : Ok d) (h : ∀ x, Lies x c ↔ Lies x d) : c = d := by
  have p := hc.pos
  have q := hd.pos
  have e1 : c.1 = d.1 := Int.dvd_antisymm (by omega) (by omega) (cls_dvd hd hc fun x => (h x).mpr) (cls_dvd hc hd fun x => (h x).mp)
  have e2 : c.2 = d.2 := by
    have z : c.2 % d.1 = d.2 := (h c.2).mp (lies_self hc)
    rw [← e1, Int.emod_eq_of_lt hc.1 hc.2] at z
    exact z
  exact Prod.ext e1 e2
theorem IsS.uniq {S S' : Int → Prop} {o o' : Option C2} (h : IsS S o) (h' : IsS S' o') (e : ∀ x, S x ↔ S' x) : o = o' := by
  cases o with
  | none =>
    cases o' with
    | none => rfl
    | some c => exact absurd ((e _).mpr ((h'.2 _).mp (lies_self h'.1))) (h _)
  | some c =>
    cases o' with
    | none => exact absurd ((e _).mp ((h.2 _).mp (lies_self h.1))) (h' _)
    | some d => rw [cls_eq h.1 h'.1 fun x => (h.2 x).trans ((e x).trans (h'.2 x).symm)]
theorem MeetR.uniq {a b : C2} {o o' : Option C2} (h : MeetR a b o) (h' : MeetR a b o') : o = o' := h.s.uniq h'.s fun _ => Iff.rfl
theorem MeetR.symm {a b : C2} {o o' : Option C2} (h : MeetR a b o) (h' : MeetR b a o') : o = o' := h.s.uniq h'.s fun _ => And.comm
theorem gg_pos {a b : C2} (ha : Ok a) : 0 < gg a b := by
  have p := ha.pos
  have h : 0 < Int.gcd a.1 b.1 := Int.gcd_pos_of_ne_zero_left _ (by omega)
  unfold gg
  omega
theorem gg_l {a b : C2} : gg a b ∣ a.1 := Int.gcd_dvd_left ..
theorem gg_r {a b : C2} : gg a b ∣ b.1 := Int.gcd_dvd_right ..
theorem gg_symm {a b : C2} : gg a b = gg b a := by
  unfold gg
  rw [Int.gcd_comm]
theorem meet_none {a b : C2} (ha : Ok a) (hb : Ok b) (h : (b.2 - a.2) % gg a b ≠ 0) : MeetR a b none := by
  refine ⟨fun x ⟨h1, h2⟩ => h ?_, ⟨fun _ => h, fun _ => rfl⟩, fun c e => nomatch e⟩
  have d1 := Int.dvd_trans (gg_l (a := a) (b := b)) ((lies_iff ha _).mp h1)
  have d2 := Int.dvd_trans (gg_r (a := a) (b := b)) ((lies_iff hb _).mp h2)
  have e := Int.dvd_sub d1 d2
  rw [show x - a.2 - (x - b.2) = b.2 - a.2 by omega] at e
  exact Int.emod_eq_zero_of_dvd e
/-- the place of the common class -/
def stp (a b : C2) (inv : Int) : Int := ((b.2 - a.2) / gg a b * inv) % (b.1 / gg a b)
theorem part_pos {a b : C2} (ha : Ok a) (hb : Ok b) : 0 < b.1 / gg a b := by
  have p := hb.pos
  obtain ⟨k, e⟩ := gg_r (a := a) (b := b)
  have g := gg_pos (b := b) ha
  rw [e, Int.mul_ediv_cancel_left _ (by omega)]
  rw [e] at p
  exact Int.pos_of_mul_pos_right p (by omega)
theorem meet_some {a b : C2} (ha : Ok a) (hb : Ok b) {inv : Int} (h : (b.2 - a.2) % gg a b = 0) (hi : (a.1 / gg a b * inv) % (b.1 / gg a b) = 1 % (b.1 / gg a b)) :
    MeetR a b (some (a.1 * (b.1 / gg a b), a.2 + a.1 * stp a b inv)) := by
  have g := gg_pos (b := b) ha
  have pp := part_pos ha hb
  have ap := ha.pos
  obtain ⟨u, eu⟩ := gg_l (a := a) (b := b)
  obtain ⟨v, ev⟩ := gg_r (a := a) (b := b)
  obtain ⟨d, ed⟩ := Int.dvd_of_emod_eq_zero h
  have eu' : a.1 / gg a b = u := by rw [eu]; exact Int.mul_ediv_cancel_left _ (by omega)
  have ev' : b.1 / gg a b = v := by rw [ev]; exact Int.mul_ediv_cancel_left _ (by omega)
  have ed' : (b.2 - a.2) / gg a b = d := by rw [ed]; exact Int.mul_ediv_cancel_left _ (by omega)
  have hstp : stp a b inv = (d * inv) % v := by unfold stp; rw [ed', ev']
  rw [eu', ev'] at hi
  rw [ev'] at pp
  rw [ev', hstp]
  obtain ⟨k, ek⟩ := dvd_of_mod_eq hi
  obtain ⟨G, eG⟩ : ∃ G, G = gg a b := ⟨_, rfl⟩
  rw [← eG] at g eu ev ed eu' ev' ed'
  have s0 : 0 ≤ (d * inv) % v := Int.emod_nonneg _ (by omega)
  have s1 : (d * inv) % v < v := Int.emod_lt_of_pos _ pp
  have es := Int.emod_add_mul_ediv (d * inv) v
  generalize (d * inv) % v = S at *
  generalize (d * inv) / v = T at *
  have hOk : Ok (a.1 * v, a.2 + a.1 * S) := by
    refine ⟨?_, ?_⟩
    · show 0 ≤ a.2 + a.1 * S
      have := Int.mul_nonneg (show 0 ≤ a.1 by omega) s0
      have := ha.1
      omega
    · show a.2 + a.1 * S < a.1 * v
      have z : a.1 * (S + 1) ≤ a.1 * v := Int.mul_le_mul_of_nonneg_left (by omega) (by omega)
      rw [Int.mul_add, Int.mul_one] at z
      have := ha.2
      omega
  -- the place lies in the second one
  have inB : b.1 ∣ a.2 + a.1 * S - b.2 := by
    refine ⟨d * k - u * T, ?_⟩
    have e1 : d * inv = S + v * T := es.symm
    have e2 : u * inv = 1 + v * k := by omega
    have e3 : u * (d * inv) = u * (S + v * T) := by rw [e1]
    have e4 : d * (u * inv) = d * (1 + v * k) := by rw [e2]
    have e5 : u * (d * inv) = d * (u * inv) := by
      rw [← Int.mul_assoc, ← Int.mul_assoc, Int.mul_comm u d]
    have e6 : u * S + u * (v * T) = d + d * (v * k) := by
      rw [← Int.mul_add, ← e3, e5, e4, Int.mul_add, Int.mul_one]
    have e7 : u * S - d = v * (d * k - u * T) := by
      rw [Int.mul_sub, Int.mul_left_comm v d k, Int.mul_left_comm v u T]
      omega
    have e8 : a.2 + a.1 * S - b.2 = a.1 * S - (b.2 - a.2) := by omega
    rw [e8, ed, eu, ev, Int.mul_assoc, ← Int.mul_sub, e7, Int.mul_assoc]
  refine ⟨⟨hOk, fun x => ?_⟩, ⟨fun e => (by cases e), fun e => absurd h e⟩, fun c e => ?_⟩
  · show Lies x (a.1 * v, a.2 + a.1 * S) ↔ Lies x a ∧ Lies x b
    rw [lies_iff hOk, lies_iff ha, lies_iff hb]
    show a.1 * v ∣ x - (a.2 + a.1 * S) ↔ _
    constructor
    · intro z
      constructor
      · have z1 := Int.dvd_trans (Int.dvd_mul_right a.1 v) z
        have z2 := Int.dvd_add z1 (Int.dvd_mul_right a.1 S)
        rw [show x - (a.2 + a.1 * S) + a.1 * S = x - a.2 by omega] at z2
        exact z2
      · have z0 : b.1 ∣ a.1 * v := ⟨u, by rw [eu, ev, Int.mul_assoc, Int.mul_assoc, Int.mul_comm u v]⟩
        have z1 := Int.dvd_trans z0 z
        have z2 := Int.dvd_add z1 inB
        rw [show x - (a.2 + a.1 * S) + (a.2 + a.1 * S - b.2) = x - b.2 by omega] at z2
        exact z2
    · rintro ⟨z1, z2⟩
      have w1 : a.1 ∣ x - (a.2 + a.1 * S) := by
        have z := Int.dvd_sub z1 (Int.dvd_mul_right a.1 S)
        rw [show x - a.2 - a.1 * S = x - (a.2 + a.1 * S) by omega] at z
        exact z
      have w2 : b.1 ∣ x - (a.2 + a.1 * S) := by
        have z := Int.dvd_sub z2 inB
        rw [show x - b.2 - (a.2 + a.1 * S - b.2) = x - (a.2 + a.1 * S) by omega] at z
        exact z
      obtain ⟨p, ep⟩ := w1
      obtain ⟨q, eq⟩ := w2
      -- u p = v q, so v divides p
      have e1 : G * (u * p) = G * (v * q) := by
        rw [← Int.mul_assoc, ← Int.mul_assoc, ← eu, ← ev, ← ep, eq]
      have e2 : u * p = v * q := Int.eq_of_mul_eq_mul_left (by omega) e1
      have e3 : p = v * (q * inv - k * p) := by
        have e4 : inv * (u * p) = inv * (v * q) := by rw [e2]
        have e5 : u * inv = 1 + v * k := by omega
        have e6 : inv * (u * p) = p + v * (k * p) := by
          rw [← Int.mul_assoc, Int.mul_comm inv u, e5, Int.add_mul, Int.one_mul, Int.mul_assoc]
        rw [Int.mul_sub]
        have e7 : inv * (v * q) = v * (q * inv) := by
          rw [Int.mul_left_comm, Int.mul_comm inv q]
        omega
      refine ⟨q * inv - k * p, ?_⟩
      rw [ep, Int.mul_assoc, ← e3]
  · have e := Option.some.inj e
    subst e
    show a.1 * v = a.1 / gg a b * b.1
    rw [← eG, eu', eu, ev, Int.mul_comm G u, Int.mul_assoc]
/-! Euclid's steps -/
theorem gcd_step {a b : Int} : Int.gcd b (a % b) = Int.gcd a b := by
  rw [Int.emod_def, Int.gcd_sub_mul_left_right, Int.gcd_comm]
structure EInv (v n f s b a : Int) : Prop where
  f0 : 0 < f
  s0 : 0 ≤ s
  sf : s < f
  fn : f ≤ n
  gc : Int.gcd f s = Int.gcd v n
  mf : n ∣ b * v - f
  ms : n ∣ a * v - s
  bd : ∃ B A : Int, 0 ≤ B ∧ 0 ≤ A ∧ ((b = -B ∧ a = A) ∨ (b = B ∧ a = -A)) ∧ B * s + A * f = n
theorem EInv.start {v n : Int} (hn : 0 < n) : EInv v n n (v % n) 0 1 := by
  have h0 := Int.emod_nonneg v (show n ≠ 0 by omega)
  have h1 := Int.emod_lt_of_pos v hn
  refine ⟨hn, h0, h1, Int.le_refl _, gcd_step, ⟨-1, by omega⟩, ⟨v / n, ?_⟩, ⟨0, 1, by omega, by omega, .inl ⟨by omega, rfl⟩, by omega⟩⟩
  have e := Int.emod_add_mul_ediv v n
  omega
theorem EInv.step {v n f s b a : Int} (h : EInv v n f s b a) (hs : s ≠ 0) : EInv v n s (f - f / s * s) a (b - f / s * a) := by
  have s0 := h.s0
  have f0 := h.f0
  have e := Int.emod_add_mul_ediv f s
  have m0 := Int.emod_nonneg f hs
  have m1 := Int.emod_lt_of_pos f (show 0 < s by omega)
  have q0 : 0 ≤ f / s := Int.ediv_nonneg (by omega) s0
  have er : f - f / s * s = f % s := by
    rw [Int.mul_comm (f / s) s]
    omega
  refine ⟨by omega, ?_, ?_, ?_, ?_, h.ms, ?_, ?_⟩
  · rw [er]; exact m0
  · rw [er]; exact m1
  · have := h.sf; have := h.fn; omega
  · rw [er, gcd_step]; exact h.gc
  · have z := Int.dvd_sub h.mf (Int.dvd_trans h.ms (Int.dvd_mul_left (f / s) (a * v - s)))
    have ez : b * v - f - f / s * (a * v - s) = (b - f / s * a) * v - (f - f / s * s) := by
      rw [Int.mul_sub, Int.sub_mul, Int.mul_assoc]
      omega
    rw [ez] at z
    exact z
  · obtain ⟨B, A, hB, hA, hh, hn⟩ := h.bd
    generalize f / s = q at *
    have hqA := Int.mul_nonneg q0 hA
    refine ⟨A, B + q * A, hA, by omega, ?_, ?_⟩
    · rcases hh with ⟨rfl, rfl⟩ | ⟨rfl, rfl⟩
      · exact .inr ⟨rfl, by omega⟩
      · refine .inl ⟨rfl, ?_⟩
        rw [Int.mul_neg]
        omega
    · rw [Int.mul_sub, Int.add_mul, ← hn, Int.mul_left_comm A q s, Int.mul_assoc]
      omega
theorem EInv.bound {v n f s b a : Int} (h : EInv v n f s b a) : a.natAbs ≤ n.toNat ∧ (s ≠ 0 → b.natAbs ≤ n.toNat) := by
  obtain ⟨B, A, hB, hA, hh, hn⟩ := h.bd
  have f0 := h.f0
  have s0 := h.s0
  have h1 : A * 1 ≤ A * f := Int.mul_le_mul_of_nonneg_left (by omega) hA
  have h2 : 0 ≤ B * s := Int.mul_nonneg hB s0
  have h3 : 0 ≤ A * f := Int.mul_nonneg hA (by omega)
  refine ⟨by rcases hh with ⟨rfl, rfl⟩ | ⟨rfl, rfl⟩ <;> omega, fun hs => ?_⟩
  have h4 : B * 1 ≤ B * s := Int.mul_le_mul_of_nonneg_left (by omega) hB
  rcases hh with ⟨rfl, rfl⟩ | ⟨rfl, rfl⟩ <;> omega
theorem EInv.done {v n f s b a : Int} (h : EInv v n f s b a) (hs : s = 0) (hg : Int.gcd v n = 1) : (v * (b % n)) % n = 1 % n := by
  subst hs
  have g := h.gc
  rw [hg, Int.gcd_zero_right] at g
  have e : f = 1 := by
    have := h.f0
    omega
  have m := h.mf
  rw [e] at m
  rw [Int.mul_emod, Int.emod_emod, ← Int.mul_emod, Int.mul_comm v b]
  exact mod_eq_of_dvd m
/-! what the law asks -/
theorem within_iff {a b c : C2} (ha : Ok a) (hb : Ok b) (h : MeetR a b (some c)) : (a.1 % b.1 = 0 ∧ a.2 % b.1 = b.2) ↔ c = a := by
  have hs := h.s
  constructor
  · rintro ⟨h1, h2⟩
    refine cls_eq hs.1 ha fun x => ⟨fun z => ((hs.2 x).mp z).1, fun z => (hs.2 x).mpr ⟨z, ?_⟩⟩
    refine (lies_iff hb _).mpr ?_
    have z1 := Int.dvd_trans (Int.dvd_of_emod_eq_zero h1) ((lies_iff ha _).mp z)
    have z2 := (lies_iff hb a.2).mp h2
    have z3 := Int.dvd_add z1 z2
    rw [show x - a.2 + (a.2 - b.2) = x - b.2 by omega] at z3
    exact z3
  · rintro rfl
    refine ⟨Int.emod_eq_zero_of_dvd (cls_dvd ha hb fun x z => ((hs.2 x).mp z).2), ((hs.2 c.2).mp (lies_self ha)).2⟩
theorem within_none {a b : C2} (ha : Ok a) (h : MeetR a b none) : ¬ (a.1 % b.1 = 0 ∧ a.2 % b.1 = b.2) := fun ⟨_, h2⟩ => h.s a.2 ⟨lies_self ha, h2⟩
theorem meet_within {a b c : C2} (hb : Ok b) (h : MeetR a b (some c)) : c.1 % b.1 = 0 ∧ c.2 % b.1 = b.2 := by
  have hs := h.s
  exact ⟨Int.emod_eq_zero_of_dvd (cls_dvd hs.1 hb fun x z => ((hs.2 x).mp z).2), ((hs.2 c.2).mp (lies_self hs.1)).2⟩
theorem meet_self {a : C2} {o : Option C2} (ha : Ok a) (h : MeetR a a o) : o = some a := by
  have e : IsS (Lies · a) (some a) := ⟨ha, fun _ => Iff.rfl⟩
  exact h.s.uniq e fun _ => and_self_iff
/-- the modulus of the common class is not greater than the product -/
theorem meet_le {a b c : C2} (ha : Ok a) (hb : Ok b) (h : MeetR a b (some c)) : c.1 ≤ a.1 * b.1 := by
  have e := h.m c rfl
  have g := gg_pos (b := b) ha
  have p := ha.pos
  have q := hb.pos
  rw [e]
  refine Int.mul_le_mul_of_nonneg_right ?_ (by omega)
  exact Int.ediv_le_self _ (by omega)
/-- three classes met, in any order -/
def Meet3 (a b c : C2) (o : Option C2) : Prop := ∃ o1, MeetR a b o1 ∧ (match o1 with
  | none => o = none
  | some d => MeetR d c o)
theorem Meet3.s {a b c : C2} {o : Option C2} (h : Meet3 a b c o) : IsS (fun x => Lies x a ∧ Lies x b ∧ Lies x c) o := by
  obtain ⟨o1, h1, h2⟩ := h
  cases o1 with
  | none =>
    have e : o = none := h2
    subst e
    exact fun x ⟨p, q, _⟩ => h1.s x ⟨p, q⟩
  | some d =>
    have h2 : MeetR d c o := h2
    have hs := h1.s
    have z := h2.s
    cases o with
    | none => exact fun x ⟨p, q, r⟩ => z x ⟨(hs.2 x).mpr ⟨p, q⟩, r⟩
    | some e =>
      refine ⟨z.1, fun x => (z.2 x).trans ⟨fun ⟨p, q⟩ => ?_, fun ⟨p, q, r⟩ => ⟨(hs.2 x).mpr ⟨p, q⟩, r⟩⟩⟩
      have w := (hs.2 x).mp p
      exact ⟨w.1, w.2, q⟩
theorem Meet3.rot {a b c : C2} {o o' : Option C2} (h : Meet3 a b c o) (h' : Meet3 b c a o') : o = o' := h.s.uniq h'.s fun x => ⟨fun ⟨p, q, r⟩ => ⟨q, r, p⟩, fun ⟨p, q, r⟩ => ⟨r, p, q⟩⟩
end Bm
namespace Bm
open PySem PySem.Spec PyProof.Rows L2
/-! ### the text -/
def topS (i : Nat) : Stmt := PySem.Challenge.pw_bymarks_k02_whole_meets.main.body.getD i (.Pass ⟨0, 0, 0, 0⟩)
abbrev sDiv : Stmt := topS 4
abbrev sInv : Stmt := topS 5
abbrev sIsI : Stmt := topS 7
abbrev sIsC : Stmt := topS 8
abbrev sChk : Stmt := topS 9
abbrev sCom : Stmt := topS 10
abbrev sMee : Stmt := topS 11
abbrev sWit : Stmt := topS 12
abbrev sSrc : Stmt := topS 14
abbrev sDrw : Stmt := topS 15
abbrev sLdv : Stmt := topS 16
abbrev sGrt : Stmt := topS 17
abbrev sMod : Stmt := topS 18
abbrev sCls : Stmt := topS 19
abbrev sLie : Stmt := topS 20
abbrev sFit : Stmt := topS 21
abbrev sThr : Stmt := topS 22
abbrev sLaw : Stmt := topS 23
/-! ### short words -/
/-- a def that stands at its name and keeps its promise -/
structure Cl (P : Program) (w : World) (K : PySem.W.Frag) (mg : Str → Option Value) (base : Heap) (k : Nat) (x : Str) (ps : List Str) (sp : Sp) (f : Addr) (fd : FuncData) : Prop where
  ok : FnOk P w K mg base CX0 k f fd ps sp
  g : mg x = some (.ref f)
  kp : PySem.W.keepIn K (.ref f) = true
  b : Binds K fd ps []
section
variable {X : Cx}
theorem cl {k : Nat} {x : Str} {ps : List Str} {sp : Sp} {f : Addr} {fd : FuncData} {p pos : Pos} {e : Expr} {es : List Expr} {t : TA} (C : Cl X.prog X.w X.K X.mg X.base k x ps sp f fd) (hr : Room k X.A) (hg : Gl X x) (ha : PA X (e :: es) t)
    (hdb : (x == ("__debug__" : Str)) = false := by decide) (he : starEach (e :: es) X.env = (false, eval e X.env) :: starEach es X.env := by rfl) (hpl : (backTo pos (starEach es X.env)).any (·.1) = false := by rfl) (hx : Passes CX0 X E0 := by exact pass0) :
    PE X (.Call (.Name x p) (e :: es) [] pos) (tCall sp [] E0 t) := pe_call C.ok hr hg C.g C.kp C.b .nil hx ha hdb he hpl
/-- (10 ** 60) ** 20 and its like -/
def CPowW (i j : Int) : Prop := 0 ≤ j ∧ (Builtin.Int.intBits i : Int) * j ≤ 2 ^ 27
theorem op_powW : OpR X (binaryOp .Pow) (rI CPowW fun i j => .int (i ^ j.toNat)) := opI fun _ _ _ _ _ _ _ hc q => pow_int hc.1 hc.2 q
end
theorem iteYes {c A B : Prop} [Decidable c] (hc : c) (h : A) : if decide c = true then A else B := by
  rw [decide_eq_true hc]
  exact iteT h
theorem iteNo {c A B : Prop} [Decidable c] (hc : ¬ c) (h : B) : if decide c = true then A else B := by
  rw [decide_eq_false hc]
  exact iteF h
theorem iteNNo {c A B : Prop} [Decidable c] (hc : ¬ c) (h : A) : if (!decide c) = true then A else B := by
  rw [decide_eq_false hc]
  exact iteT h
theorem qdec {Q : V → Hp → Prop} {c d : Prop} [Decidable c] [Decidable d] {H : Hp} (h : c ↔ d) (q : Q (.bl (decide c)) H) : Q (.bl (decide d)) H := by
  rw [show decide d = decide c from decide_eq_decide.mpr h.symm]
  exact q
theorem int_iff {i j : Int} : V.int i = V.int j ↔ i = j := ⟨V.int.inj, fun e => congrArg V.int e⟩
theorem ne_int {x y : Int} (h : x ≠ y) : ¬ V.int x = V.int y := fun e => h (V.int.inj e)
theorem ne_int0 {y : Int} (h : y ≠ 0) : ¬ V.int y = V.int 0 := fun e => h (V.int.inj e)
/-- a class's tuple -/
def At (H : Hp) (a : Addr) (c : C2) : Prop := H a = some (.tup [.int c.1, .int c.2])
theorem At.tt {K : PySem.W.Frag} {H : Hp} {a : Addr} {c : C2} (h : At H a c) : SqT K H a [.int c.1, .int c.2] := SqT.of h
theorem At.same {H H' : Hp} {a : Addr} {c : C2} (h : At H a c) (s : Same H H') : At H' a c := s _ _ h
def Rep (H : Hp) (v : V) : Option C2 → Prop
  | none => v = .non
  | some c => ∃ p, v = .ref p ∧ At H p c
theorem Rep.same {H H' : Hp} {v : V} {o : Option C2} (h : Rep H v o) (s : Same H H') : Rep H' v o := by
  cases o with
  | none => exact h
  | some c =>
    obtain ⟨p, e, a⟩ := h
    exact ⟨p, e, a.same s⟩
theorem same_new {H : Hp} {p : Addr} {o : HO} (h : H p = none) : Same H (upd H p o) := fun b x e => by
  rw [upd_ne (ne_of_none e h)]
  exact e
theorem natAbs_lt {x : Int} {n : Nat} (h0 : 0 ≤ x) (h : x < 2 ^ n) : x.natAbs < 2 ^ n := by
  have e : ((x.natAbs : Nat) : Int) = x := by omega
  have e2 : ((2 ^ n : Nat) : Int) = (2 : Int) ^ n := by
    rw [Int.natCast_pow]
    rfl
  omega
theorem natAbs_lt2 {x : Int} {n : Nat} (h0 : -(2 ^ n) < x) (h : x < 2 ^ n) : x.natAbs < 2 ^ (n + 1) := by
  have e2 : ((2 ^ n : Nat) : Int) = (2 : Int) ^ n := by
    rw [Int.natCast_pow]
    rfl
  have e3 : 2 ^ (n + 1) = 2 ^ n * 2 := Nat.pow_succ 2 n
  omega
section
variable {P : Program} {w : World} {K : PySem.W.Frag} {mg : Str → Option Value} {base : Heap}
/-! ### divisor -/
def spDiv : Sp := fun vs H Q _ => ∃ a b : Int, vs = [.int a, .int b] ∧ 0 ≤ a ∧ 0 ≤ b ∧ Q (.int (Int.gcd a b : Int)) H
theorem scDiv : FnScope ["one", "other"] ["one", "other"] (defScope sDiv) := ⟨rfl, rfl, rfl, by decide +kernel, rfl, by decide +kernel, by decide +kernel⟩
def sz1 (σ : L2.St) : Nat := match σ with
  | [_, some (.int y)] => y.toNat
  | _ => 0
theorem ok_div {f : Addr} {fd : FuncData} (F : Fun K "divisor" "divisor" sDiv f fd) : FnOk P w K mg base CX0 1 f fd ["one", "other"] spDiv := by
  refine F.ok scDiv (fun vs H Q E h => ?_) (fun cdv A outer s H vs Q E hr h => ?_)
  · obtain ⟨a, b, rfl, _⟩ := h
    rfl
  · obtain ⟨a, b, rfl, ha, hb, q⟩ := h
    refine ⟨_, pss_cons (ps_while PassesOwn.never (pt_cmpR op_ne (pv 1) pe_int (nomark _))
        (pss_one (ps_par (i := 0) (j := 1) rfl scDiv.nd rfl rfl (by decide) rfl rfl (pa_cons (pv 1) (pa_cons (pe_op op_mod (pv 0) (pv 1)) pa_nil)) (by rfl))))
      (pss_one (ps_ret (pv 0))), ?_⟩
    refine while_by (fun σ H' => ∃ x y : Int, σ = [some (.int x), some (.int y)] ∧ 0 ≤ x ∧ 0 ≤ y ∧ Int.gcd x y = Int.gcd a b ∧ H' = H) (fun σ _ => sz1 σ) ⟨a, b, rfl, ha, hb, rfl, rfl⟩ ?_ ?_
    · rintro σ H' ⟨x, y, rfl, hx, hy, hg, rfl⟩
      refine ⟨_, rfl, rfl, _, rfl, ?_⟩
      by_cases y0 : y = 0
      · subst y0
        refine iteNS rfl ?_
        refine ⟨_, rfl, ?_⟩
        rw [← hg, Int.gcd_zero_right] at q
        rw [show ((x.natAbs : Nat) : Int) = x by omega] at q
        exact q
      · rw [decide_eq_false (ne_int0 y0)]
        refine iteT ?_
        have yp : 0 < y := by omega
        refine ⟨_, rfl, _, rfl, _, rfl, _, _, rfl, rfl, yp, _, _, rfl, ⟨y, x % y, rfl, hy, Int.emod_nonneg _ y0, by rw [gcd_step]; exact hg, rfl⟩, ?_⟩
        have := Int.emod_lt_of_pos x yp
        show (x % y).toNat < y.toNat
        omega
    · exact fun σ H Q Q' hq ⟨v, e, s, k, e2, q⟩ => ⟨v, e, s, k, e2, hq _ _ q⟩
/-! ### inverse -/
def spInv : Sp := fun vs H Q _ => ∃ v n : Int, vs = [.int v, .int n] ∧ 0 < n ∧ n < 2 ^ 400 ∧ Int.gcd v n = 1 ∧ ∀ x : Int, 0 ≤ x → x < n → (v * x) % n = 1 % n → ∀ H', Same H H' → Q (.int x) H'
theorem scInv : FnScope ["value", "modulus", "first", "second", "before", "after", "times"] ["value", "modulus"] (defScope sInv) := ⟨rfl, rfl, rfl, by decide +kernel, rfl, by decide +kernel, by decide +kernel⟩
def sz3 (σ : L2.St) : Nat := match σ with
  | [_, _, _, some (.int y), _, _, _] => y.toNat
  | _ => 0
theorem ok_inv {f : Addr} {fd : FuncData} (F : Fun K "inverse" "inverse" sInv f fd) : FnOk P w K mg base CX0 1 f fd ["value", "modulus"] spInv := by
  refine F.ok scInv (fun vs H Q E h => ?_) (fun cdv A outer s H vs Q E hr h => ?_)
  · obtain ⟨a, b, rfl, _⟩ := h
    rfl
  · obtain ⟨v, n, rfl, n0, n1, hg, q⟩ := h
    refine ⟨_, pss_cons (ps_par (i := 2) (j := 3) rfl scInv.nd rfl rfl (by decide) rfl rfl (pa_cons (pv 1) (pa_cons (pe_op op_mod (pv 0) (pv 1)) pa_nil)) (by rfl))
      (pss_cons (ps_asg (pe_tup (pa_cons pe_int (pa_cons pe_int pa_nil))) (pg_tup rfl (pgs_cons (pg_name (i := 4) scInv.nd rfl (.inl rfl)) (pgs_cons (pg_name (i := 5) scInv.nd rfl (.inl rfl)) pgs_nil))))
      (pss_cons (ps_while PassesOwn.never (pt_cmpR op_ne (pv 3) pe_int (nomark _))
        (pss_cons (ps_set (i := 6) scInv.nd rfl (.inl rfl) (pe_op op_fdivW (pv 2) (pv 3)))
        (pss_cons (ps_par (i := 2) (j := 3) rfl scInv.nd rfl rfl (by decide) rfl rfl (pa_cons (pv 3) (pa_cons (pe_op op_sub (pv 2) (pe_op op_mulW (pv 6) (pv 3))) pa_nil)) (by rfl))
        (pss_one (ps_par (i := 4) (j := 5) rfl scInv.nd rfl rfl (by decide) rfl rfl (pa_cons (pv 5) (pa_cons (pe_op op_sub (pv 4) (pe_op op_mulW (pv 6) (pv 5))) pa_nil)) (by rfl))))))
      (pss_one (ps_ret (pe_op op_mod (pv 4) (pv 1)))))), ?_⟩
    refine ⟨_, rfl, _, rfl, _, rfl, _, _, rfl, rfl, n0, _, _, rfl, ?_⟩
    refine ⟨(by show 2 ≤ sizeLine; decide), fun p np => ?_⟩
    refine ⟨p, _, rfl, SqT.of upd_same, rfl, _, _, rfl, _, _, rfl, rfl, ?_⟩
    refine while_by (fun σ H' => ∃ (f s b a : Int) (t : Option V), σ = [some (.int v), some (.int n), some (.int f), some (.int s), some (.int b), some (.int a), t] ∧ EInv v n f s b a ∧ Same H H') (fun σ _ => sz3 σ) ⟨_, _, _, _, _, rfl, EInv.start n0, same_new np⟩ ?_ ?_
    · rintro σ H' ⟨f, s, b, a, t, rfl, hE, sm⟩
      refine ⟨_, rfl, rfl, _, rfl, ?_⟩
      by_cases s0 : s = 0
      · subst s0
        refine iteNS rfl ?_
        refine ⟨_, rfl, _, rfl, _, _, rfl, rfl, n0, ?_⟩
        exact q _ (Int.emod_nonneg _ (by omega)) (Int.emod_lt_of_pos _ n0) (hE.done rfl hg) _ sm
      · rw [decide_eq_false (ne_int0 s0)]
        refine iteT ?_
        have sp : 0 < s := by
          have := hE.s0
          omega
        have hsf := hE.sf
        have hfn := hE.fn
        have nb := natAbs_lt (Int.le_of_lt n0) n1
        have sb : s.natAbs < 2 ^ 400 := by omega
        have q0 : 0 ≤ f / s := Int.ediv_nonneg (by omega) (by omega)
        have q1 : f / s ≤ f := Int.ediv_le_self _ (by omega)
        have qb : (f / s).natAbs < 2 ^ 400 := by omega
        have ab : a.natAbs < 2 ^ 400 := by
          have := hE.bound.1
          omega
        refine ⟨_, rfl, _, rfl, _, _, rfl, rfl, wide_div sp sb (by decide) (by decide), ?_⟩
        refine ⟨_, rfl, _, rfl, _, rfl, _, rfl, _, _, rfl, rfl, wide_mul qb sb (by decide) (by decide) (by decide), _, _, rfl, rfl, _, _, rfl, ?_⟩
        refine ⟨_, rfl, _, rfl, _, rfl, _, rfl, _, _, rfl, rfl, wide_mul qb ab (by decide) (by decide) (by decide), _, _, rfl, rfl, _, _, rfl, ?_⟩
        have hE' := hE.step s0
        refine ⟨⟨_, _, _, _, _, rfl, hE', sm⟩, ?_⟩
        have h1 := hE'.sf
        have h2 := hE'.s0
        show (f - f / s * s).toNat < s.toNat
        omega
    · exact fun σ H Q Q' hq ⟨v, e, s, k, e2, q⟩ => ⟨v, e, s, k, e2, hq _ _ q⟩
end
end Bm
namespace Bm
open PySem PySem.Spec PyProof.Rows L2
/-- the built-ins that the text uses are not shadowed -/
structure Blt (mg : Str → Option Value) : Prop where
  isi : mg "isinstance" = none
  int : mg "int" = none
  bool : mg "bool" = none
  tup : mg "tuple" = none
  len : mg "len" = none
  abs : mg "abs" = none
  rng : mg "range" = none
section
variable {P : Program} {w : World} {K : PySem.W.Frag} {mg : Str → Option Value} {base : Heap}
/-! ### is_integer -/
def spIsI : Sp := fun vs H Q _ => ∃ i : Int, vs = [.int i] ∧ Q (.bl true) H
theorem scIsI : FnScope ["value"] ["value"] (defScope sIsI) := ⟨rfl, rfl, rfl, by decide +kernel, rfl, by decide +kernel, by decide +kernel⟩
theorem ok_isI {f : Addr} {fd : FuncData} (F : Fun K "is_integer" "is_integer" sIsI f fd) (B : Blt mg) : FnOk P w K mg base CX0 1 f fd ["value"] spIsI := by
  refine F.ok scIsI (fun vs H Q E h => ?_) (fun cdv A outer s H vs Q E hr h => ?_)
  · obtain ⟨i, rfl, _⟩ := h
    rfl
  · obtain ⟨i, rfl, q⟩ := h
    refine ⟨_, pss_one (ps_ret (pe_and (pe_callB call_isi (by rfl) B.isi (by decide +kernel) (pa_cons (pv 0) (pa_cons (pe_bltn (v := .ty "int") (by rfl) B.int (by decide +kernel) rfl) pa_nil)))
      (pe_one (pe_not (pe_callB call_isi (by rfl) B.isi (by decide +kernel) (pa_cons (pv 0) (pa_cons (pe_bltn (v := .ty "bool") (by rfl) B.bool (by decide +kernel) rfl) pa_nil))))))), ?_⟩
    refine ⟨_, rfl, _, _, _, _, _, rfl, .ty _, .base (.int i), kit_ty (r := true) (by decide +kernel), _, rfl, iteT ?_⟩
    exact ⟨_, rfl, _, _, _, _, _, rfl, .ty _, .base (.int i), kit_ty (r := false) (by decide +kernel), _, rfl, q⟩
/-! ### is_class -/
def spIsC : Sp := fun vs H Q _ => ∃ (a : Addr) (c : C2), vs = [.ref a] ∧ At H a c ∧ Ok c ∧ Q (.bl true) H
theorem scIsC : FnScope ["value"] ["value"] (defScope sIsC) := ⟨rfl, rfl, rfl, by decide +kernel, rfl, by decide +kernel, by decide +kernel⟩
theorem ok_isC {f fI : Addr} {fd fdI : FuncData} (F : Fun K "is_class" "is_class" sIsC f fd) (B : Blt mg) (CI : Cl P w K mg base 1 "is_integer" ["value"] spIsI fI fdI) : FnOk P w K mg base CX0 2 f fd ["value"] spIsC := by
  refine F.ok scIsC (fun vs H Q E h => ?_) (fun cdv A outer s H vs Q E hr h => ?_)
  · obtain ⟨a, c, rfl, _⟩ := h
    rfl
  · obtain ⟨a, c, rfl, ha, hc, q⟩ := h
    refine ⟨_, pss_cons (ps_if (PW.pt (pw_or (pt_not (pt_val (pe_callB call_isi (by rfl) B.isi (by decide +kernel) (pa_cons (pv 0) (pa_cons (pe_bltn (v := .ty "tuple") (by rfl) B.tup (by decide +kernel) rfl) pa_nil)))))
        (pw_or1 (pt_cmpR op_ne (pe_callB call_len_seq (by rfl) B.len PySem.boot_len (pa_cons (pv 0) pa_nil)) pe_int (nomark _))))) (pss_one ps_never) pss_nil)
      (pss_one (ps_ret (pe_and (cl CI hr (by rfl) (pa_cons (pe_ix ix_tup (pv 0) pe_int (fun _ _ => rfl)) pa_nil)) (pe_and (cl CI hr (by rfl) (pa_cons (pe_ix ix_tup (pv 0) pe_int (fun _ _ => rfl)) pa_nil))
        (pe_one (pe_chain op_le op_lt pe_int (pe_ix ix_tup (pv 0) pe_int (fun _ _ => rfl)) (pe_ix ix_tup (pv 0) pe_int (fun _ _ => rfl)))))))), ?_⟩
    refine ⟨_, rfl, _, _, _, _, _, rfl, .ty _, .base (.tup ha), kit_ty (r := true) (by decide +kernel), _, rfl, iteF ?_⟩
    refine ⟨_, rfl, _, _, rfl, .inr ha.tt, rfl, _, rfl, iteNS rfl ?_⟩
    refine ⟨_, rfl, _, _, _, _, rfl, rfl, ha.tt, atI_nat (j := 0) rfl, _, rfl, _, rfl, iteT ?_⟩
    refine ⟨_, rfl, _, _, _, _, rfl, rfl, ha.tt, atI_nat (j := 1) rfl, _, rfl, _, rfl, iteT ?_⟩
    refine ⟨_, rfl, _, _, _, _, rfl, rfl, ha.tt, atI_nat (j := 1) rfl, _, _, rfl, rfl, _, rfl, ?_⟩
    refine iteYes hc.1 ⟨_, rfl, _, _, _, _, rfl, rfl, ha.tt, atI_nat (j := 0) rfl, _, _, rfl, rfl, ?_⟩
    show Q (.bl (decide (c.2 < c.1))) H
    rw [decide_eq_true hc.2]
    exact q
/-! ### check_class -/
def spChk : Sp := fun vs H Q _ => ∃ (a : Addr) (c : C2), vs = [.ref a] ∧ At H a c ∧ Ok c ∧ Q .non H
theorem scChk : FnScope ["value"] ["value"] (defScope sChk) := ⟨rfl, rfl, rfl, by decide +kernel, rfl, by decide +kernel, by decide +kernel⟩
theorem ok_chk {f fI : Addr} {fd fdI : FuncData} (F : Fun K "check_class" "check_class" sChk f fd) (CC : Cl P w K mg base 2 "is_class" ["value"] spIsC fI fdI) : FnOk P w K mg base CX0 3 f fd ["value"] spChk := by
  refine F.ok scChk (fun vs H Q E h => ?_) (fun cdv A outer s H vs Q E hr h => ?_)
  · obtain ⟨a, c, rfl, _⟩ := h
    rfl
  · obtain ⟨a, c, rfl, ha, hc, q⟩ := h
    refine ⟨_, pss_one (ps_if (pt_not (pt_val (cl CC hr (by rfl) (pa_cons (pv 0) pa_nil)))) (pss_one ps_never) pss_nil), ?_⟩
    exact ⟨_, rfl, _, _, rfl, ha, hc, _, rfl, iteF q⟩
/-! ### common -/
def spCom : Sp := fun vs H Q _ => ∃ (a b : Addr) (ca cb : C2), vs = [.ref a, .ref b] ∧ At H a ca ∧ At H b cb ∧ Ok ca ∧ Ok cb ∧ ca.1 < 2 ^ 400 ∧ cb.1 < 2 ^ 400 ∧
  ∀ o v H', MeetR ca cb o → Same H H' → Rep H' v o → Q v H'
theorem scCom : FnScope ["one", "other", "great", "part", "steps"] ["one", "other"] (defScope sCom) := ⟨rfl, rfl, rfl, by decide +kernel, rfl, by decide +kernel, by decide +kernel⟩
theorem ok_com {f fD fI : Addr} {fd fdD fdI : FuncData} (F : Fun K "common" "common" sCom f fd) (CD : Cl P w K mg base 1 "divisor" ["one", "other"] spDiv fD fdD) (CI : Cl P w K mg base 1 "inverse" ["value", "modulus"] spInv fI fdI) :
    FnOk P w K mg base CX0 2 f fd ["one", "other"] spCom := by
  refine F.ok scCom (fun vs H Q E h => ?_) (fun cdv A outer s H vs Q E hr h => ?_)
  · obtain ⟨a, b, ca, cb, rfl, _⟩ := h
    rfl
  · obtain ⟨a, b, ca, cb, rfl, ha, hb, oa, ob, la, lb, q⟩ := h
    refine ⟨_, pss_cons (ps_set (i := 2) scCom.nd rfl (.inl rfl) (cl CD hr (by rfl) (pa_cons (pe_ix ix_tup (pv 0) pe_int (fun _ _ => rfl)) (pa_cons (pe_ix ix_tup (pv 1) pe_int (fun _ _ => rfl)) pa_nil))))
      (pss_cons (ps_if (pt_cmpR op_ne (pe_op op_mod (pe_op op_sub (pe_ix ix_tup (pv 1) pe_int (fun _ _ => rfl)) (pe_ix ix_tup (pv 0) pe_int (fun _ _ => rfl))) (pv 2)) pe_int (nomark _)) (pss_one (ps_ret pe_non)) pss_nil)
      (pss_cons (ps_set (i := 3) scCom.nd rfl (.inl rfl) (pe_op op_fdivW (pe_ix ix_tup (pv 1) pe_int (fun _ _ => rfl)) (pv 2)))
      (pss_cons (ps_set (i := 4) scCom.nd rfl (.inl rfl) (pe_op op_mod (pe_op op_mulW (pe_op op_fdivW (pe_op op_sub (pe_ix ix_tup (pv 1) pe_int (fun _ _ => rfl)) (pe_ix ix_tup (pv 0) pe_int (fun _ _ => rfl))) (pv 2))
          (cl CI hr (by rfl) (pa_cons (pe_op op_fdivW (pe_ix ix_tup (pv 0) pe_int (fun _ _ => rfl)) (pv 2)) (pa_cons (pv 3) pa_nil)))) (pv 3)))
      (pss_one (ps_ret (pe_tup (pa_cons (pe_op op_mulW (pe_ix ix_tup (pv 0) pe_int (fun _ _ => rfl)) (pv 3)) (pa_cons (pe_op op_add (pe_ix ix_tup (pv 0) pe_int (fun _ _ => rfl)) (pe_op op_mulW (pe_ix ix_tup (pv 0) pe_int (fun _ _ => rfl)) (pv 4))) pa_nil)))))))), ?_⟩
    have pa := oa.pos
    have pb := ob.pos
    have a0 := oa.1
    have a1 := oa.2
    have b0 := ob.1
    have b1 := ob.2
    have gp := gg_pos (b := cb) oa
    have gle : gg ca cb ≤ ca.1 := Int.le_of_dvd pa gg_l
    have gb : (gg ca cb).natAbs < 2 ^ 400 := natAbs_lt (by omega) (by omega)
    -- great
    refine ⟨_, rfl, _, _, _, _, rfl, rfl, ha.tt, atI_nat (j := 0) rfl, _, rfl, _, _, _, _, rfl, rfl, hb.tt, atI_nat (j := 0) rfl, _, _, rfl, (by omega), (by omega), ?_⟩
    -- the test
    refine ⟨_, rfl, _, _, _, _, rfl, rfl, hb.tt, atI_nat (j := 1) rfl, _, rfl, _, _, _, _, rfl, rfl, ha.tt, atI_nat (j := 1) rfl, _, _, rfl, rfl, _, rfl, _, _, rfl, rfl, gp, rfl, _, rfl, ?_⟩
    by_cases h0 : (cb.2 - ca.2) % gg ca cb = 0
    · refine iteNS (congrArg V.int h0) ?_
      have dp : 0 < cb.1 / gg ca cb := part_pos oa ob
      have dle : cb.1 / gg ca cb ≤ cb.1 := Int.ediv_le_self _ (by omega)
      have dl : cb.1 / gg ca cb < 2 ^ 400 := by omega
      have db : (cb.1 / gg ca cb).natAbs < 2 ^ 400 := natAbs_lt (by omega) dl
      -- part
      refine ⟨_, rfl, _, _, _, _, rfl, rfl, hb.tt, atI_nat (j := 0) rfl, _, rfl, _, _, rfl, rfl, wide_div gp gb (by decide) (by decide), ?_⟩
      -- steps
      refine ⟨_, rfl, _, _, _, _, rfl, rfl, hb.tt, atI_nat (j := 1) rfl, _, rfl, _, _, _, _, rfl, rfl, ha.tt, atI_nat (j := 1) rfl, _, _, rfl, rfl, _, rfl, _, _, rfl, rfl, wide_div gp gb (by decide) (by decide), ?_⟩
      refine ⟨_, rfl, _, _, _, _, rfl, rfl, ha.tt, atI_nat (j := 0) rfl, _, rfl, _, _, rfl, rfl, wide_div gp gb (by decide) (by decide), ?_⟩
      refine ⟨_, rfl, _, _, rfl, dp, dl, ?_, fun x x0 x1 hx H1 sm => ?_⟩
      · have z := Int.gcd_ediv_gcd_ediv_gcd (i := ca.1) (j := cb.1) (by have z : 0 < gg ca cb := gp; unfold gg at z; omega)
        exact z
      have ha1 := ha.same sm
      have hb1 := hb.same sm
      have tb : ((cb.2 - ca.2) / gg ca cb).natAbs < 2 ^ 401 := by
        have z : ((cb.2 - ca.2) / gg ca cb).natAbs ≤ (cb.2 - ca.2).natAbs := by
          rw [Int.natAbs_ediv_of_dvd]
          · exact Nat.div_le_self _ _
          · exact Int.dvd_of_emod_eq_zero h0
        have z2 : (cb.2 - ca.2).natAbs < 2 ^ 401 := natAbs_lt2 (by omega) (by omega)
        omega
      have x1 : x < cb.1 / gg ca cb := x1
      have xb : x.natAbs < 2 ^ 400 := natAbs_lt x0 (by omega)
      refine ⟨_, _, rfl, rfl, wide_mul tb xb (by decide) (by decide) (by decide), _, rfl, _, _, rfl, rfl, dp, ?_⟩
      -- the answer
      have M := meet_some oa ob h0 hx
      have s0 : 0 ≤ stp ca cb x := Int.emod_nonneg _ (by omega)
      have s1 : stp ca cb x < cb.1 / gg ca cb := Int.emod_lt_of_pos _ dp
      have sb : (stp ca cb x).natAbs < 2 ^ 400 := natAbs_lt s0 (by omega)
      have mb : ca.1.natAbs < 2 ^ 400 := natAbs_lt (by omega) la
      refine ⟨_, rfl, _, _, _, _, rfl, rfl, ha1.tt, atI_nat (j := 0) rfl, _, rfl, _, _, rfl, rfl, wide_mul mb db (by decide) (by decide) (by decide), ?_⟩
      refine ⟨_, rfl, _, _, _, _, rfl, rfl, ha1.tt, atI_nat (j := 1) rfl, _, rfl, _, _, _, _, rfl, rfl, ha1.tt, atI_nat (j := 0) rfl, _, rfl, _, _, rfl, rfl, wide_mul mb sb (by decide) (by decide) (by decide), _, _, rfl, rfl, ?_⟩
      refine ⟨(by show 2 ≤ sizeLine; decide), fun p np => ?_⟩
      exact q _ _ _ M (sm.trans (same_new np)) ⟨p, rfl, upd_same⟩
    · exact iteNNo (ne_int0 h0) (q none _ _ (meet_none oa ob h0) (Same.refl H) rfl)
/-! ### meet -/
theorem scMee : FnScope ["one", "other"] ["one", "other"] (defScope sMee) := ⟨rfl, rfl, rfl, by decide +kernel, rfl, by decide +kernel, by decide +kernel⟩
theorem ok_mee {f fC fO : Addr} {fd fdC fdO : FuncData} (F : Fun K "meet" "meet" sMee f fd) (CC : Cl P w K mg base 3 "check_class" ["value"] spChk fC fdC) (CO : Cl P w K mg base 2 "common" ["one", "other"] spCom fO fdO) :
    FnOk P w K mg base CX0 4 f fd ["one", "other"] spCom := by
  refine F.ok scMee (fun vs H Q E h => ?_) (fun cdv A outer s H vs Q E hr h => ?_)
  · obtain ⟨a, b, ca, cb, rfl, _⟩ := h
    rfl
  · obtain ⟨a, b, ca, cb, rfl, ha, hb, oa, ob, la, lb, q⟩ := h
    refine ⟨_, pss_cons (ps_expr (cl CC hr (by rfl) (pa_cons (pv 0) pa_nil))) (pss_cons (ps_expr (cl CC hr (by rfl) (pa_cons (pv 1) pa_nil)))
      (pss_one (ps_ret (cl CO (hr.mono (by decide)) (by rfl) (pa_cons (pv 0) (pa_cons (pv 1) pa_nil)))))), ?_⟩
    refine ⟨_, rfl, _, _, rfl, ha, oa, _, rfl, _, _, rfl, hb, ob, _, rfl, _, rfl, _, _, _, _, rfl, ha, hb, oa, ob, la, lb, q⟩
/-! ### is_within -/
def spWit : Sp := fun vs H Q _ => ∃ (a b : Addr) (ca cb : C2), vs = [.ref a, .ref b] ∧ At H a ca ∧ At H b cb ∧ Ok ca ∧ Ok cb ∧ Q (.bl (decide (ca.1 % cb.1 = 0 ∧ ca.2 % cb.1 = cb.2))) H
theorem scWit : FnScope ["one", "other"] ["one", "other"] (defScope sWit) := ⟨rfl, rfl, rfl, by decide +kernel, rfl, by decide +kernel, by decide +kernel⟩
theorem ok_wit {f fC : Addr} {fd fdC : FuncData} (F : Fun K "is_within" "is_within" sWit f fd) (CC : Cl P w K mg base 3 "check_class" ["value"] spChk fC fdC) :
    FnOk P w K mg base CX0 4 f fd ["one", "other"] spWit := by
  refine F.ok scWit (fun vs H Q E h => ?_) (fun cdv A outer s H vs Q E hr h => ?_)
  · obtain ⟨a, b, ca, cb, rfl, _⟩ := h
    rfl
  · obtain ⟨a, b, ca, cb, rfl, ha, hb, oa, ob, q⟩ := h
    refine ⟨_, pss_cons (ps_expr (cl CC hr (by rfl) (pa_cons (pv 0) pa_nil))) (pss_cons (ps_expr (cl CC hr (by rfl) (pa_cons (pv 1) pa_nil)))
      (pss_one (ps_ret (pe_and (pe_cmpR op_eq (pe_op op_mod (pe_ix ix_tup (pv 0) pe_int (fun _ _ => rfl)) (pe_ix ix_tup (pv 1) pe_int (fun _ _ => rfl))) pe_int (nomark _))
        (pe_one (pe_cmpR op_eq (pe_op op_mod (pe_ix ix_tup (pv 0) pe_int (fun _ _ => rfl)) (pe_ix ix_tup (pv 1) pe_int (fun _ _ => rfl))) (pe_ix ix_tup (pv 1) pe_int (fun _ _ => rfl)) (nomark _))))))), ?_⟩
    refine ⟨_, rfl, _, _, rfl, ha, oa, _, rfl, _, _, rfl, hb, ob, ?_⟩
    refine ⟨_, rfl, _, _, _, _, rfl, rfl, ha.tt, atI_nat (j := 0) rfl, _, rfl, _, _, _, _, rfl, rfl, hb.tt, atI_nat (j := 0) rfl, _, _, rfl, rfl, ob.pos, rfl, _, rfl, ?_⟩
    by_cases h0 : ca.1 % cb.1 = 0
    · refine iteYes (congrArg V.int h0) ?_
      refine ⟨_, rfl, _, _, _, _, rfl, rfl, ha.tt, atI_nat (j := 1) rfl, _, rfl, _, _, _, _, rfl, rfl, hb.tt, atI_nat (j := 0) rfl, _, _, rfl, rfl, ob.pos, _, rfl, _, _, _, _, rfl, rfl, hb.tt, atI_nat (j := 1) rfl, rfl, ?_⟩
      exact qdec (Q := Q) ⟨fun e => congrArg V.int e.2, fun e => ⟨h0, V.int.inj e⟩⟩ q
    · refine iteNo (ne_int0 h0) ?_
      rw [decide_eq_false (fun e => h0 e.1)] at q
      exact q
end
end Bm
namespace Bm
open PySem PySem.Spec PyProof.Rows L2
/-- the source of the draws: at s the list of the cells (at c) and the turn -/
def Src (H : Hp) (s c : Addr) (t : Int) : Prop := ∃ cs : List Int, H s = some (.lst [.ref c, .int t]) ∧ H c = some (.lst (cs.map V.int)) ∧ 0 < cs.length
/-- tuples stay -/
def KeepT (H H' : Hp) : Prop := ∀ b xs, H b = some (.tup xs) → H' b = some (.tup xs)
theorem KeepT.refl (H : Hp) : KeepT H H := fun _ _ h => h
theorem KeepT.trans {H H1 H2 : Hp} (a : KeepT H H1) (b : KeepT H1 H2) : KeepT H H2 := fun c o h => b c o (a c o h)
theorem KeepT.lst {H : Hp} {s : Addr} {ys : List V} {o : HO} (h : H s = some (.lst ys)) : KeepT H (upd H s o) := fun b xs e => by
  rw [upd_ne (ne_of e h (fun z => nomatch z))]
  exact e
theorem KeepT.new {H : Hp} {s : Addr} {o : HO} (h : H s = none) : KeepT H (upd H s o) := fun b xs e => same_new h _ _ e
theorem At.keep {H H' : Hp} {a : Addr} {c : C2} (h : At H a c) (s : KeepT H H') : At H' a c := s _ _ h
theorem Src.new {H : Hp} {s c p : Addr} {t : Int} {o : HO} (h : Src H s c t) (n : H p = none) : Src (upd H p o) s c t := by
  obtain ⟨cs, h1, h2, h3⟩ := h
  exact ⟨cs, same_new n _ _ h1, same_new n _ _ h2, h3⟩
theorem Src.same {H H' : Hp} {s c : Addr} {t : Int} (h : Src H s c t) (sm : Same H H') : Src H' s c t := by
  obtain ⟨cs, h1, h2, h3⟩ := h
  exact ⟨cs, sm _ _ h1, sm _ _ h2, h3⟩
theorem Same.keep {H H' : Hp} (sm : Same H H') : KeepT H H' := fun _ _ e => sm _ _ e
theorem pow_ok : CPowW ((10 : Int) ^ (60 : Int).toNat) 20 := by
  unfold CPowW
  decide +kernel
theorem pow_pp : (0 : Int) < ((10 : Int) ^ (60 : Int).toNat) ^ (20 : Int).toNat := by decide +kernel
section
variable {P : Program} {w : World} {K : PySem.W.Frag} {mg : Str → Option Value} {base : Heap}
/-! ### _law_source -/
def spSrc (K : PySem.W.Frag) : Sp := fun vs H Q _ => ∃ (a : Addr) (ns : List Int), vs = [.ref a] ∧ SqL K H a (ns.map V.int) ∧ ns.length ≤ 63 ∧ ∀ s c H', Src H' s c 0 → Q (.ref s) H'
theorem scSrc : FnScope ["_law_script", "_law_cells", "_law_k"] ["_law_script"] (defScope sSrc) := ⟨rfl, rfl, rfl, by decide +kernel, rfl, by decide +kernel, by decide +kernel⟩
theorem cut63 (ns : List Int) : cutV (ns.map V.int) none (some 63) = (ns.take 63).map V.int := by
  unfold cutV
  rw [HT.sIx_none, show HT.sIx (ns.map V.int).length (ns.map V.int).length (some 63) = min 63 (ns.map V.int).length from HT.sIx_nat _ _ 63, List.drop_zero, Nat.sub_zero, List.map_take, ← List.take_take]
  rw [List.take_length]
theorem dp_ints {K : PySem.W.Frag} {H : Hp} : ∀ cs : List Int, DpAll K H (cs.map V.int) (cs.map PyData.int)
  | [] => .nil
  | c :: cs => .cons (.int c) (dp_ints cs)
theorem dp_list {K : PySem.W.Frag} {H : Hp} {p : Addr} {cs : List Int} (h : H p = some (.lst (cs.map V.int))) : Dp K H (.ref p) (.list (cs.map PyData.int)) := .lst (SqL.of h) (dp_ints cs)
theorem eqv_ints (ns ms : List Int) : PyData.eqv (.list (ns.map PyData.int)) (.list (ms.map PyData.int)) = decide (ns = ms) := by
  rw [PyData.eqv]
  exact PySem.W.ked_eqvAll ns ms
theorem ok_src {f : Addr} {fd : FuncData} (F : Fun K "_law_source" "_law_source" sSrc f fd) (B : Blt mg) : FnOk P w K mg base CX0 1 f fd ["_law_script"] (spSrc K) := by
  refine F.ok scSrc (fun vs H Q E h => ?_) (fun cdv A outer s H vs Q E hr h => ?_)
  · obtain ⟨i, ns, rfl, _⟩ := h
    rfl
  · obtain ⟨a, ns, rfl, ha, hn, q⟩ := h
    refine ⟨_, pss_cons (ps_set (i := 1) scSrc.nd rfl (.inl rfl) (pe_slice sl_list (pv 0) po_none (po_some pe_int)))
      (pss_cons (ps_for PassesOwn.never rfl (pi_range1 (by rfl) B.rng (pa_cons (pe_callB call_len_seq (by rfl) B.len PySem.boot_len (pa_cons (pv 1) pa_nil)) pa_nil)) (pg_name (i := 2) scSrc.nd rfl (.inl rfl))
        (pss_one (ps_if (pt_cmpR op_ge (pe_callB call_abs (by rfl) B.abs (by decide +kernel) (pa_cons (pe_ix ix_list (pv 1) (pv 2) (fun _ _ => rfl)) pa_nil)) (pe_op op_pow pe_int pe_int) (nomark _))
          (pss_one (ps_asg (pe_op op_mod (pe_callTy call_int1 (by rfl) B.int (by decide +kernel) (pa_cons (pe_ix ix_list (pv 1) (pv 2) (fun _ _ => rfl)) pa_nil)) (pe_op op_powW (pe_op op_pow pe_int pe_int) pe_int)) (pg_sub (pv 1) (pv 2) set_list))) pss_nil)))
      (pss_cons (ps_if (pt_cmpR (op_eqD hr.units) (pv 1) (pe_lst pa_nil) (nomark _)) (pss_one (ps_set (i := 1) scSrc.nd rfl (.inl rfl) (pe_lst (pa_cons pe_int pa_nil)))) pss_nil)
      (pss_one (ps_ret (pe_lst (pa_cons (pv 1) (pa_cons pe_int pa_nil))))))), ?_⟩
    refine ⟨_, rfl, 63, rfl, a, _, rfl, ha, fun p np => ?_⟩
    rw [cut63]
    refine ⟨_, rfl, p, _, rfl, .inl (SqL.of upd_same), _, rfl, by omega, ?_, ?_⟩
    · rw [List.length_map, List.length_take]
      omega
    refine for_range (lo := 0) (n := (((ns.take 63).map V.int).length : Int).toNat) (fun i σ H' => ∃ y2, σ = [some (.ref a), some (.ref p), y2] ∧ ∃ cs : List Int, H' p = some (.lst (cs.map V.int)) ∧ cs.length = (ns.take 63).length)
      ⟨none, rfl, _, upd_same, rfl⟩ ?_ ?_
    · rintro i σ H' hi ⟨y2, rfl, cs, hp, hl⟩
      have hi : i < cs.length := by
        rw [List.length_map] at hi
        omega
      have hg : (cs.map V.int)[i]? = some (.int cs[i]) := by
        rw [List.getElem?_map, List.getElem?_eq_getElem hi]
        rfl
      have hz : (0 : Int) + (i : Int) = (i : Int) := by omega
      refine ⟨_, rfl, _, rfl, p, _, _, _, rfl, rfl, SqL.of hp, at_of hz hg, _, rfl, _, _, rfl, rfl, ⟨by decide, by decide, by decide⟩, _, _, rfl, rfl, _, rfl, ite2 (fun _ => ?_) (fun _ => ?_)⟩
      · refine ⟨_, rfl, _, rfl, p, _, _, _, rfl, rfl, SqL.of hp, at_of hz hg, .inl ⟨_, rfl, ?_⟩⟩
        refine ⟨_, _, rfl, rfl, ⟨by decide, by decide, by decide⟩, _, _, rfl, rfl, pow_ok, _, _, rfl, rfl, pow_pp, ?_⟩
        refine ⟨_, rfl, _, rfl, p, _, _, i, rfl, rfl, hp, ?_, ?_⟩
        · unfold ixN
          rw [if_pos (by omega), List.length_map, if_pos (by omega)]
          rw [hz]
          rfl
        · refine ⟨_, rfl, cs.set i (cs[i] % ((10 : Int) ^ (60 : Int).toNat) ^ (20 : Int).toNat), ?_, ?_⟩
          · rw [upd_same, List.map_set]
          · rw [List.length_set]
            exact hl
      · exact ⟨_, rfl, cs, hp, hl⟩
    · rintro σ H' ⟨y2, rfl, cs, hp, hl⟩
      refine ⟨_, rfl, Nat.zero_le _, fun e ne => ?_⟩
      refine ⟨_, _, dp_list (cs := cs) (same_new ne _ _ hp), dp_list (cs := []) upd_same, PySem.W.ke_shaped_ints cs, PySem.W.ke_shaped_ints [], _, rfl, ?_⟩
      rw [eqv_ints]
      have fin : ∀ (σ' : L2.St) (H1 : Hp) (cs : List Int) (p : Addr), σ'[1]? = some (some (.ref p)) → H1 p = some (.lst (cs.map V.int)) → 0 < cs.length → ∃ v, σ'[1]? = some (some v) ∧ (2 ≤ sizeLine ∧ ∀ p, H1 p = none → Q (.ref p) (upd H1 p (.lst [v, .int 0]))) := by
        intro σ' H1 cs p h1 h2 h3
        refine ⟨_, h1, by decide, fun s ns => q s p _ ⟨cs, upd_same, same_new ns _ _ h2, h3⟩⟩
      refine ite2 (fun _ => ?_) (fun hc => ?_)
      · refine ⟨(by show 1 ≤ sizeLine; decide), fun r nr => ?_⟩
        exact fin _ _ [0] r rfl upd_same (by decide)
      · refine fin _ _ cs p rfl (same_new ne _ _ hp) ?_
        cases cs with
        | nil => exact absurd (decide_eq_true rfl) hc
        | cons x r => exact Nat.succ_pos _
/-! ### _law_draw -/
def spDrw : Sp := fun vs H Q _ => ∃ (s c : Addr) (t L : Int), vs = [.ref s, .int L] ∧ 0 < L ∧ L < 1073741824 ∧ Src H s c t ∧ 0 ≤ t ∧ t < 1000000 ∧ ∀ r H', 0 ≤ r → r < L → Src H' s c (t + 1) → KeepT H H' → Q (.int r) H'
theorem scDrw : FnScope ["_law_source_here", "_law_limit", "_law_cells", "_law_turn", "_law_place", "_law_cell", "_law_number"] ["_law_source_here", "_law_limit"] (defScope sDrw) := ⟨rfl, rfl, rfl, by decide +kernel, rfl, by decide +kernel, by decide +kernel⟩
theorem ok_drw {f : Addr} {fd : FuncData} (F : Fun K "_law_draw" "_law_draw" sDrw f fd) (B : Blt mg) : FnOk P w K mg base CX0 1 f fd ["_law_source_here", "_law_limit"] spDrw := by
  refine F.ok scDrw (fun vs H Q E h => ?_) (fun cdv A outer s₀ H vs Q E hr h => ?_)
  · obtain ⟨s, c, t, L, rfl, _⟩ := h
    rfl
  · obtain ⟨s, c, t, L, rfl, L0, L1, ⟨cs, hs, hc, hl⟩, t0, t1, q⟩ := h
    refine ⟨_, pss_cons (ps_asg (pv 0) (pg_unl rfl (pgs_cons (pg_name (i := 2) scDrw.nd rfl (.inl rfl)) (pgs_cons (pg_name (i := 3) scDrw.nd rfl (.inl rfl)) pgs_nil))))
      (pss_cons (ps_set (i := 4) scDrw.nd rfl (.inl rfl) (pe_op op_mod (pe_callTy call_int1 (by rfl) B.int (by decide +kernel) (pa_cons (pv 3) pa_nil)) (pe_callB call_len_seq (by rfl) B.len PySem.boot_len (pa_cons (pv 2) pa_nil))))
      (pss_cons (ps_set (i := 5) scDrw.nd rfl (.inl rfl) (pe_ix ix_list (pv 2) (pv 4) (fun _ _ => rfl)))
      (pss_cons (ps_asg (pe_op op_add (pv 3) pe_int) (pg_sub (pv 0) pe_int set_list))
      (pss_cons (ps_if (pt_cmpR op_ge (pv 5) (pe_op op_pow pe_int pe_int) (nomark _))
        (pss_cons (ps_asg (pe_op op_fdiv (pv 5) (pv 1)) (pg_sub (pv 2) (pv 4) set_list)) (pss_one (ps_ret (pe_op op_mod (pe_callTy call_int1 (by rfl) B.int (by decide +kernel) (pa_cons (pv 5) pa_nil)) (pv 1))))) pss_nil)
      (pss_cons (ps_set (i := 6) scDrw.nd rfl (.inl rfl) (pe_op op_mod (pe_callTy call_int1 (by rfl) B.int (by decide +kernel) (pa_cons (pe_op op_add (pe_op op_add
          (pe_op op_mul (pe_op op_mod (pe_callTy call_int1 (by rfl) B.int (by decide +kernel) (pa_cons (pv 5) pa_nil)) pe_int) pe_int) (pe_op op_mul (pe_op op_mul (pv 3) (pv 3)) pe_int)) pe_int) pa_nil)) pe_int))
      (pss_cons (ps_set (i := 6) scDrw.nd rfl (.inl rfl) (pe_op op_mod (pe_callTy call_int1 (by rfl) B.int (by decide +kernel) (pa_cons (pe_op op_mul (pv 6) (pv 6)) pa_nil)) pe_int))
      (pss_cons (ps_set (i := 6) scDrw.nd rfl (.inl rfl) (pe_op op_mod (pe_callTy call_int1 (by rfl) B.int (by decide +kernel) (pa_cons (pe_op op_mul (pv 6) (pv 6)) pa_nil)) pe_int))
      (pss_one (ps_ret (pe_op op_mod (pe_callTy call_int1 (by rfl) B.int (by decide +kernel) (pa_cons (pv 6) pa_nil)) (pv 1))))))))))), ?_⟩
    have hnc : c ≠ s := ne_of hc hs (fun e => by
      cases cs with
      | nil => exact absurd hl (by decide)
      | cons x r =>
        injection e with e
        injection e with e1 e2
        cases e1)
    have hlp : (0 : Int) < ((cs.map V.int).length : Int) := by
      rw [List.length_map]
      omega
    -- unpack
    refine ⟨_, rfl, s, _, rfl, SqL.of hs, rfl, _, _, rfl, _, _, rfl, rfl, ?_⟩
    -- place
    refine ⟨_, rfl, .inl ⟨_, rfl, _, rfl, c, _, rfl, .inl (SqL.of hc), _, _, rfl, rfl, hlp, ?_⟩⟩
    have p0 := Int.emod_nonneg t (show ((cs.map V.int).length : Int) ≠ 0 by omega)
    have p1 := Int.emod_lt_of_pos t hlp
    obtain ⟨j, hj⟩ : ∃ j : Nat, t % ((cs.map V.int).length : Int) = (j : Int) := ⟨_, (Int.toNat_of_nonneg p0).symm⟩
    have hjl : j < cs.length := by
      rw [List.length_map] at p1 hj
      omega
    have hg : (cs.map V.int)[j]? = some (.int cs[j]) := by
      rw [List.getElem?_map, List.getElem?_eq_getElem hjl]
      rfl
    -- cell
    refine ⟨_, rfl, _, rfl, c, _, _, _, rfl, rfl, SqL.of hc, at_of hj hg, ?_⟩
    -- the turn
    refine ⟨_, rfl, _, _, rfl, rfl, _, rfl, s, _, 1, 1, rfl, rfl, hs, rfl, ?_⟩
    have hs1 : (upd H s (.lst [.ref c, .int (t + 1)])) s = some (.lst [.ref c, .int (t + 1)]) := upd_same
    have hc1 : (upd H s (.lst [.ref c, .int (t + 1)])) c = some (.lst (cs.map V.int)) := by
      rw [upd_ne hnc]
      exact hc
    have k1 : KeepT H (upd H s (.lst [.ref c, .int (t + 1)])) := KeepT.lst hs
    refine ⟨_, rfl, _, _, rfl, rfl, ⟨by decide, by decide, by decide⟩, _, _, rfl, rfl, _, rfl, ite2 (fun _ => ?_) (fun _ => ?_)⟩
    · refine ⟨_, rfl, _, rfl, _, _, rfl, rfl, ⟨L0, L1⟩, ?_⟩
      refine ⟨_, rfl, _, rfl, c, _, _, j, rfl, rfl, hc1, ?_, ?_⟩
      · unfold ixN
        rw [if_pos p0, if_pos p1, hj]
        rfl
      · refine ⟨_, rfl, .inl ⟨_, rfl, _, rfl, _, _, rfl, rfl, L0, ?_⟩⟩
        refine q _ _ (Int.emod_nonneg _ (by omega)) (Int.emod_lt_of_pos _ L0) ⟨cs.set j (cs[j] / L), ?_, ?_, ?_⟩ (k1.trans (KeepT.lst hc1))
        · rw [upd_ne hnc.symm]
          exact hs1
        · rw [upd_same, List.map_set]
        · rw [List.length_set]
          exact hl
    · have b1 := Int.emod_nonneg cs[j] (show (2147483629 : Int) ≠ 0 by decide)
      have b2 := Int.emod_lt_of_pos cs[j] (show (0 : Int) < 2147483629 by decide)
      refine ⟨_, rfl, .inl ⟨_, rfl, _, _, rfl, rfl, (show (0 : Int) < 2147483629 by decide), _, _, rfl, rfl, .inr ⟨by decide, by decide⟩, ?_⟩⟩
      refine ⟨_, rfl, _, rfl, _, _, rfl, rfl, .inl ⟨by omega, by omega⟩, _, _, rfl, rfl, .inr ⟨by decide, by decide⟩, _, _, rfl, rfl, _, _, rfl, rfl, .inl ⟨_, rfl, _, _, rfl, rfl, (show (0 : Int) < 2147483647 by decide), ?_⟩⟩
      have nn : ∀ x m : Int, 0 < m → m < 2 ^ 32 → 0 ≤ x % m ∧ x % m < 2 ^ 32 := fun x m h1 h2 => by
        have := Int.emod_nonneg x (show m ≠ 0 by omega)
        have := Int.emod_lt_of_pos x h1
        omega
      have c1 := nn (cs[j] % 2147483629 * 48271 + t * t * 69621 + 11) 2147483647 (by decide) (by decide)
      refine ⟨_, rfl, _, rfl, _, _, rfl, rfl, .inl ⟨by omega, by omega⟩, .inl ⟨_, rfl, _, _, rfl, rfl, (show (0 : Int) < 2147483629 by decide), ?_⟩⟩
      generalize (cs[j] % 2147483629 * 48271 + t * t * 69621 + 11) % 2147483647 = n1 at *
      have c2 := nn (n1 * n1) 2147483629 (by decide) (by decide)
      refine ⟨_, rfl, _, rfl, _, _, rfl, rfl, .inl ⟨by omega, by omega⟩, .inl ⟨_, rfl, _, _, rfl, rfl, (show (0 : Int) < 2147483587 by decide), ?_⟩⟩
      refine ⟨_, rfl, .inl ⟨_, rfl, _, rfl, _, _, rfl, rfl, L0, ?_⟩⟩
      exact q _ _ (Int.emod_nonneg _ (by omega)) (Int.emod_lt_of_pos _ L0) ⟨cs, hs1, hc1, hl⟩ k1
/-! ### _law_divisor -/
theorem scLdv : FnScope ["_law_one", "_law_other"] ["_law_one", "_law_other"] (defScope sLdv) := ⟨rfl, rfl, rfl, by decide +kernel, rfl, by decide +kernel, by decide +kernel⟩
theorem ok_ldv {f : Addr} {fd : FuncData} (F : Fun K "_law_divisor" "_law_divisor" sLdv f fd) (B : Blt mg) : FnOk P w K mg base CX0 1 f fd ["_law_one", "_law_other"] spDiv := by
  refine F.ok scLdv (fun vs H Q E h => ?_) (fun cdv A outer s H vs Q E hr h => ?_)
  · obtain ⟨a, b, rfl, _⟩ := h
    rfl
  · obtain ⟨a, b, rfl, ha, hb, q⟩ := h
    refine ⟨_, pss_cons (ps_while PassesOwn.never (pt_cmpR op_ne (pv 1) pe_int (nomark _))
        (pss_one (ps_par (i := 0) (j := 1) rfl scLdv.nd rfl rfl (by decide) rfl rfl (pa_cons (pv 1) (pa_cons (pe_op op_mod (pe_callTy call_int1 (by rfl) B.int (by decide +kernel) (pa_cons (pv 0) pa_nil)) (pv 1)) pa_nil)) (by rfl))))
      (pss_one (ps_ret (pv 0))), ?_⟩
    refine while_by (fun σ H' => ∃ x y : Int, σ = [some (.int x), some (.int y)] ∧ 0 ≤ x ∧ 0 ≤ y ∧ Int.gcd x y = Int.gcd a b ∧ H' = H) (fun σ _ => sz1 σ) ⟨a, b, rfl, ha, hb, rfl, rfl⟩ ?_ ?_
    · rintro σ H' ⟨x, y, rfl, hx, hy, hg, rfl⟩
      refine ⟨_, rfl, rfl, _, rfl, ?_⟩
      by_cases y0 : y = 0
      · subst y0
        refine iteNS rfl ?_
        refine ⟨_, rfl, ?_⟩
        rw [← hg, Int.gcd_zero_right] at q
        rw [show ((x.natAbs : Nat) : Int) = x by omega] at q
        exact q
      · refine iteNNo (ne_int0 y0) ?_
        have yp : 0 < y := by omega
        refine ⟨_, rfl, _, rfl, .inl ⟨_, rfl, _, rfl, _, _, rfl, rfl, yp, _, _, rfl, ⟨y, x % y, rfl, hy, Int.emod_nonneg _ y0, by rw [gcd_step]; exact hg, rfl⟩, ?_⟩⟩
        have := Int.emod_lt_of_pos x yp
        show (x % y).toNat < y.toNat
        omega
    · exact fun σ H Q Q' hq ⟨v, e, s, k, e2, q⟩ => ⟨v, e, s, k, e2, hq _ _ q⟩
/-! ### _law_great -/
def spGrt : Sp := fun vs H Q _ => ∃ (s c : Addr) (t d : Int), vs = [.ref s, .int d] ∧ 0 ≤ d ∧ d ≤ 30 ∧ Src H s c t ∧ 0 ≤ t ∧ t < 900000 ∧ ∀ (r t' : Int) H', 0 ≤ r → r < 10 ^ d.toNat → 0 ≤ t' → t' ≤ t + d → Src H' s c t' → KeepT H H' → Q (.int r) H'
theorem scGrt : FnScope ["_law_source_here", "_law_digits", "_law_number", "_law_k"] ["_law_source_here", "_law_digits"] (defScope sGrt) := ⟨rfl, rfl, rfl, by decide +kernel, rfl, by decide +kernel, by decide +kernel⟩
theorem ok_grt {f fD : Addr} {fd fdD : FuncData} (F : Fun K "_law_great" "_law_great" sGrt f fd) (B : Blt mg) (CD : Cl P w K mg base 1 "_law_draw" ["_law_source_here", "_law_limit"] spDrw fD fdD) : FnOk P w K mg base CX0 2 f fd ["_law_source_here", "_law_digits"] spGrt := by
  refine F.ok scGrt (fun vs H Q E h => ?_) (fun cdv A outer s₀ H vs Q E hr h => ?_)
  · obtain ⟨s, c, t, d, rfl, _⟩ := h
    rfl
  · obtain ⟨s, c, t, d, rfl, d0, d1, hS, t0, t1, q⟩ := h
    refine ⟨_, pss_cons (ps_set (i := 2) scGrt.nd rfl (.inl rfl) pe_int)
      (pss_cons (ps_for PassesOwn.never rfl (pi_range1 (by rfl) B.rng (pa_cons (pv 1) pa_nil)) (pg_name (i := 3) scGrt.nd rfl (.inl rfl))
        (pss_one (ps_set (i := 2) scGrt.nd rfl (.inl rfl) (pe_op op_add (pe_op op_mul (pv 2) pe_int) (cl CD hr (by rfl) (pa_cons (pv 0) (pa_cons pe_int pa_nil)))))))
      (pss_one (ps_ret (pv 2)))), ?_⟩
    refine ⟨_, rfl, _, rfl, by omega, by omega, ?_⟩
    refine for_range (lo := 0) (n := d.toNat) (fun i σ H' => ∃ (n : Int) (y3 : Option V), σ = [some (.ref s), some (.int d), some (.int n), y3] ∧ 0 ≤ n ∧ n < 10 ^ i ∧ Src H' s c (t + (i : Int)) ∧ KeepT H H')
      ⟨0, none, rfl, by decide, by decide, by rw [show t + ((0 : Nat) : Int) = t by omega]; exact hS, KeepT.refl H⟩ ?_ ?_
    · rintro i σ H' hi ⟨n, y3, rfl, n0, n1, hS', k⟩
      refine ⟨_, rfl, _, _, rfl, rfl, .inr ⟨by decide, by decide⟩, _, rfl, s, c, t + (i : Int), 10, rfl, by decide, by decide, hS', by omega, by omega, fun r H1 r0 r1 hS1 k1 => ?_⟩
      refine ⟨_, _, rfl, rfl, n * 10 + r, _, rfl, by omega, ?_, ?_, k.trans k1⟩
      · rw [Int.pow_succ]
        omega
      · rw [show t + ((i + 1 : Nat) : Int) = t + (i : Int) + 1 by omega]
        exact hS1
    · rintro σ H' ⟨n, y3, rfl, n0, n1, hS', k⟩
      exact ⟨_, rfl, q n _ H' n0 n1 (by omega) (by omega) hS' k⟩
/-! ### _law_modulus -/
def spMod : Sp := fun vs H Q _ => ∃ (s c : Addr) (t : Int), vs = [.ref s] ∧ Src H s c t ∧ 0 ≤ t ∧ t < 800000 ∧ ∀ (m t' : Int) H', 1 ≤ m → m ≤ 10 ^ 30 → 0 ≤ t' → t' ≤ t + 40 → Src H' s c t' → KeepT H H' → Q (.int m) H'
theorem scMod : FnScope ["_law_source_here", "_law_way"] ["_law_source_here"] (defScope sMod) := ⟨rfl, rfl, rfl, by decide +kernel, rfl, by decide +kernel, by decide +kernel⟩
theorem pow_le30 {d : Nat} (h : d ≤ 29) : (10 : Int) ^ d ≤ 10 ^ 29 := by
  have z : (10 : Nat) ^ d ≤ 10 ^ 29 := Nat.pow_le_pow_right (by decide) h
  have e : ((10 ^ d : Nat) : Int) = (10 : Int) ^ d := by
    rw [Int.natCast_pow]
    rfl
  have e2 : ((10 ^ 29 : Nat) : Int) = (10 : Int) ^ 29 := by decide
  omega
theorem ok_mod {f fD fG : Addr} {fd fdD fdG : FuncData} (F : Fun K "_law_modulus" "_law_modulus" sMod f fd) (CD : Cl P w K mg base 1 "_law_draw" ["_law_source_here", "_law_limit"] spDrw fD fdD)
    (CG : Cl P w K mg base 2 "_law_great" ["_law_source_here", "_law_digits"] spGrt fG fdG) : FnOk P w K mg base CX0 3 f fd ["_law_source_here"] spMod := by
  refine F.ok scMod (fun vs H Q E h => ?_) (fun cdv A outer s₀ H vs Q E hr h => ?_)
  · obtain ⟨s, c, t, rfl, _⟩ := h
    rfl
  · obtain ⟨s, c, t, rfl, hS, t0, t1, q⟩ := h
    have hr1 : Room 1 (A.deeper (envOfC "_law_modulus" (defScope sMod) s₀.heap.objs.size f cdv)) := hr.mono (by decide)
    refine ⟨_, pss_cons (ps_set (i := 1) scMod.nd rfl (.inl rfl) (cl CD hr1 (by rfl) (pa_cons (pv 0) (pa_cons pe_int pa_nil))))
      (pss_cons (ps_if (pt_cmpR op_lt (pv 1) pe_int (nomark _)) (pss_one (ps_ret (pe_op op_add pe_int (cl CD hr1 (by rfl) (pa_cons (pv 0) (pa_cons pe_int pa_nil)))))) pss_nil)
      (pss_cons (ps_if (pt_cmpR op_eq (pv 1) pe_int (nomark _)) (pss_one (ps_ret (pe_op op_add pe_int (cl CD hr1 (by rfl) (pa_cons (pv 0) (pa_cons pe_int pa_nil)))))) pss_nil)
      (pss_cons (ps_if (pt_cmpR op_eq (pv 1) pe_int (nomark _)) (pss_one (ps_ret (pe_op op_sub (pe_op op_pow pe_int pe_int) (cl CD hr1 (by rfl) (pa_cons (pv 0) (pa_cons pe_int pa_nil)))))) pss_nil)
      (pss_one (ps_ret (pe_op op_add pe_int (cl CG hr (by rfl) (pa_cons (pv 0) (pa_cons (pe_op op_add pe_int (cl CD hr1 (by rfl) (pa_cons (pv 0) (pa_cons pe_int pa_nil)))) pa_nil))))))))), ?_⟩
    refine ⟨_, rfl, s, c, t, 6, rfl, by decide, by decide, hS, t0, by omega, fun way H1 w0 w1 hS1 k1 => ?_⟩
    refine ⟨_, rfl, _, _, rfl, rfl, _, rfl, ite2 (fun _ => ?_) (fun _ => ?_)⟩
    · refine ⟨_, rfl, s, c, t + 1, 12, rfl, by decide, by decide, hS1, by omega, by omega, fun r H2 r0 r1 hS2 k2 => ?_⟩
      exact ⟨_, _, rfl, rfl, q _ _ _ (by omega) (by omega) (by omega) (by omega) hS2 (k1.trans k2)⟩
    · refine ⟨_, rfl, rfl, _, rfl, ite2 (fun _ => ?_) (fun _ => ?_)⟩
      · refine ⟨_, rfl, s, c, t + 1, 1000, rfl, by decide, by decide, hS1, by omega, by omega, fun r H2 r0 r1 hS2 k2 => ?_⟩
        exact ⟨_, _, rfl, rfl, q _ _ _ (by omega) (by omega) (by omega) (by omega) hS2 (k1.trans k2)⟩
      · refine ⟨_, rfl, rfl, _, rfl, ite2 (fun _ => ?_) (fun _ => ?_)⟩
        · refine ⟨_, _, rfl, rfl, ⟨by decide, by decide, by decide⟩, ?_⟩
          refine ⟨_, rfl, s, c, t + 1, 40, rfl, by decide, by decide, hS1, by omega, by omega, fun r H2 r0 r1 hS2 k2 => ?_⟩
          have e : (10 : Int) ^ (30 : Int).toNat = 10 ^ 30 := rfl
          exact ⟨_, _, rfl, rfl, q _ _ _ (by omega) (by omega) (by omega) (by omega) hS2 (k1.trans k2)⟩
        · refine ⟨_, rfl, _, rfl, s, c, t + 1, 29, rfl, by decide, by decide, hS1, by omega, by omega, fun r H2 r0 r1 hS2 k2 => ?_⟩
          refine ⟨_, _, rfl, rfl, s, c, t + 1 + 1, 1 + r, rfl, by omega, by omega, hS2, by omega, by omega, fun g t' H3 g0 g1 t0' t1' hS3 k3 => ?_⟩
          have z := pow_le30 (d := (1 + r).toNat) (by omega)
          exact ⟨_, _, rfl, rfl, q _ _ _ (by omega) (by omega) (by omega) (by omega) hS3 ((k1.trans k2).trans k3)⟩
/-! ### _law_class -/
def spCls : Sp := fun vs H Q _ => ∃ (s c : Addr) (t mark : Int), vs = [.ref s, .int mark] ∧ Src H s c t ∧ 0 ≤ t ∧ t < 700000 ∧ ∀ (p : Addr) (cl : C2) (t' : Int) H', Ok cl → cl.1 ≤ 10 ^ 30 → 0 ≤ t' → t' ≤ t + 80 → At H' p cl → Src H' s c t' → KeepT H H' → Q (.ref p) H'
theorem scCls : FnScope ["_law_source_here", "_law_mark", "_law_m"] ["_law_source_here", "_law_mark"] (defScope sCls) := ⟨rfl, rfl, rfl, by decide +kernel, rfl, by decide +kernel, by decide +kernel⟩
theorem ok_cls {f fD fG fM : Addr} {fd fdD fdG fdM : FuncData} (F : Fun K "_law_class" "_law_class" sCls f fd) (B : Blt mg) (CD : Cl P w K mg base 1 "_law_draw" ["_law_source_here", "_law_limit"] spDrw fD fdD)
    (CG : Cl P w K mg base 2 "_law_great" ["_law_source_here", "_law_digits"] spGrt fG fdG) (CM : Cl P w K mg base 3 "_law_modulus" ["_law_source_here"] spMod fM fdM) : FnOk P w K mg base CX0 4 f fd ["_law_source_here", "_law_mark"] spCls := by
  refine F.ok scCls (fun vs H Q E h => ?_) (fun cdv A outer s₀ H vs Q E hr h => ?_)
  · obtain ⟨s, c, t, mark, rfl, _⟩ := h
    rfl
  · obtain ⟨s, c, t, mark, rfl, hS, t0, t1, q⟩ := h
    refine ⟨_, pss_cons (ps_set (i := 2) scCls.nd rfl (.inl rfl) (cl CM hr (by rfl) (pa_cons (pv 0) pa_nil)))
      (pss_cons (ps_if (pt_cmpR op_eq (cl CD (hr.mono (by decide)) (by rfl) (pa_cons (pv 0) (pa_cons pe_int pa_nil))) pe_int (nomark _))
        (pss_one (ps_ret (pe_tup (pa_cons (pv 2) (pa_cons (pe_op op_mod (pe_callTy call_int1 (by rfl) B.int (by decide +kernel) (pa_cons (cl CG (hr.mono (by decide)) (by rfl) (pa_cons (pv 0) (pa_cons pe_int pa_nil))) pa_nil)) (pv 2)) pa_nil))))) pss_nil)
      (pss_one (ps_ret (pe_tup (pa_cons (pv 2) (pa_cons (pe_op op_mod (pe_callTy call_int1 (by rfl) B.int (by decide +kernel) (pa_cons (pv 1) pa_nil)) (pv 2)) pa_nil)))))), ?_⟩
    refine ⟨_, rfl, s, c, t, rfl, hS, t0, by omega, fun m t1' H1 m0 m1 a0 a1 hS1 k1 => ?_⟩
    have mp : 0 < m := by omega
    refine ⟨_, rfl, s, c, t1', 3, rfl, by decide, by decide, hS1, a0, by omega, fun r H2 r0 r1 hS2 k2 => ?_⟩
    refine ⟨rfl, _, rfl, ite2 (fun _ => ?_) (fun _ => ?_)⟩
    · refine ⟨_, rfl, _, rfl, s, c, t1' + 1, 30, rfl, by decide, by decide, hS2, by omega, by omega, fun g t2 H3 g0 g1 b0 b1 hS3 k3 => ?_⟩
      refine .inl ⟨_, rfl, _, rfl, _, _, rfl, rfl, mp, (by show 2 ≤ sizeLine; decide), fun p np => ?_⟩
      exact q p (m, g % m) t2 _ ⟨Int.emod_nonneg _ (by omega), Int.emod_lt_of_pos _ mp⟩ m1 b0 (by omega) upd_same (hS3.new np) (((k1.trans k2).trans k3).trans (KeepT.new np))
    · refine ⟨_, rfl, _, rfl, .inl ⟨_, rfl, _, rfl, _, _, rfl, rfl, mp, (by show 2 ≤ sizeLine; decide), fun p np => ?_⟩⟩
      exact q p (m, mark % m) (t1' + 1) _ ⟨Int.emod_nonneg _ (by omega), Int.emod_lt_of_pos _ mp⟩ m1 (by omega) (by omega) upd_same (hS2.new np) ((k1.trans k2).trans (KeepT.new np))
/-! ### _law_lies -/
instance (x : Int) (c : C2) : Decidable (Lies x c) := inferInstanceAs (Decidable (x % c.1 = c.2))
def spLie : Sp := fun vs H Q _ => ∃ (x : Int) (a : Addr) (c : C2), vs = [.int x, .ref a] ∧ At H a c ∧ Ok c ∧ Q (.bl (decide (Lies x c))) H
theorem scLie : FnScope ["_law_mark", "_law_one"] ["_law_mark", "_law_one"] (defScope sLie) := ⟨rfl, rfl, rfl, by decide +kernel, rfl, by decide +kernel, by decide +kernel⟩
theorem ok_lie {f : Addr} {fd : FuncData} (F : Fun K "_law_lies" "_law_lies" sLie f fd) (B : Blt mg) : FnOk P w K mg base CX0 1 f fd ["_law_mark", "_law_one"] spLie := by
  refine F.ok scLie (fun vs H Q E h => ?_) (fun cdv A outer s H vs Q E hr h => ?_)
  · obtain ⟨x, a, c, rfl, _⟩ := h
    rfl
  · obtain ⟨x, a, c, rfl, ha, hc, q⟩ := h
    refine ⟨_, pss_one (ps_ret (pe_cmpR op_eq (pe_op op_mod (pe_callTy call_int1 (by rfl) B.int (by decide +kernel) (pa_cons (pv 0) pa_nil)) (pe_ix ix_tup (pv 1) pe_int (fun _ _ => rfl))) (pe_ix ix_tup (pv 1) pe_int (fun _ _ => rfl)) (nomark _))), ?_⟩
    refine ⟨_, rfl, .inl ⟨_, rfl, _, rfl, _, _, _, _, rfl, rfl, ha.tt, atI_nat (j := 0) rfl, _, _, rfl, rfl, hc.pos, _, rfl, _, _, _, _, rfl, rfl, ha.tt, atI_nat (j := 1) rfl, rfl, ?_⟩⟩
    exact qdec (Q := Q) ⟨fun e => congrArg V.int e, fun e => V.int.inj e⟩ q
end
end Bm
namespace Bm
open PySem PySem.Spec PyProof.Rows L2
/-- a class as data -/
def dat (c : C2) : PyData := .tuple [.int c.1, .int c.2]
def datO : Option C2 → PyData
  | none => .none
  | some c => dat c
theorem dp_cls {K : PySem.W.Frag} {H : Hp} {p : Addr} {c : C2} (h : At H p c) : Dp K H (.ref p) (dat c) := .tup h.tt (.cons (.int _) (.cons (.int _) .nil))
theorem dp_rep {K : PySem.W.Frag} {H : Hp} {v : V} {o : Option C2} (h : Rep H v o) : Dp K H v (datO o) := by
  cases o with
  | none =>
    have e : v = .non := h
    subst e
    exact .non
  | some c =>
    obtain ⟨p, rfl, a⟩ := h
    exact dp_cls a
theorem shaped_cls (c : C2) : SeqAt.shaped (dat c) = true := rfl
theorem shaped_rep (o : Option C2) : SeqAt.shaped (datO o) = true := by
  cases o <;> rfl
theorem eqv_cls (c d : C2) : PyData.eqv (dat c) (dat d) = decide (c = d) := by
  have e : PyData.eqv (dat c) (dat d) = ((c.1 == d.1) && ((c.2 == d.2) && true)) := rfl
  rw [e, Bool.and_true]
  by_cases h : c = d
  · subst h
    simp
  · rw [decide_eq_false h]
    rw [Bool.and_eq_false_iff]
    by_cases h1 : c.1 = d.1
    · exact .inr (beq_eq_false_iff_ne.mpr fun h2 => h (Prod.ext h1 h2))
    · exact .inl (beq_eq_false_iff_ne.mpr h1)
theorem eqv_rep (o : Option C2) : PyData.eqv (datO o) (datO o) = true := by
  cases o with
  | none => rfl
  | some c =>
    show PyData.eqv (dat c) (dat c) = true
    rw [eqv_cls]
    exact decide_eq_true rfl
/-- the numbers below n that pass -/
def flt (f : Int → Bool) (n : Nat) : List Int := ((List.range n).filter fun k : Nat => f (k : Int)).map fun k : Nat => (k : Int)
theorem flt_zero (f : Int → Bool) : flt f 0 = [] := rfl
theorem flt_succ (f : Int → Bool) (n : Nat) : flt f (n + 1) = if f (n : Int) = true then flt f n ++ [(n : Int)] else flt f n := by
  unfold flt
  rw [List.range_succ, List.filter_append, List.map_append]
  by_cases h : f (n : Int) = true
  · rw [if_pos h, List.filter_cons_of_pos (p := fun k : Nat => f (k : Int)) h]
    rfl
  · rw [if_neg h, List.filter_cons_of_neg (p := fun k : Nat => f (k : Int)) h]
    exact List.append_nil _
theorem flt_len (f : Int → Bool) (n : Nat) : (flt f n).length ≤ n := by
  unfold flt
  rw [List.length_map]
  exact Nat.le_trans (List.length_filter_le _ _) (by rw [List.length_range]; exact Nat.le_refl _)
theorem flt_congr {f g : Int → Bool} (h : ∀ x, f x = g x) (n : Nat) : flt f n = flt g n := by
  rw [show f = g from funext h]
theorem neg_mod {x y g : Int} : (x - y) % g = 0 ↔ (y - x) % g = 0 := by
  constructor
  · intro h
    have z := Int.dvd_neg.mpr (Int.dvd_of_emod_eq_zero h)
    rw [show -(x - y) = y - x by omega] at z
    exact Int.emod_eq_zero_of_dvd z
  · intro h
    have z := Int.dvd_neg.mpr (Int.dvd_of_emod_eq_zero h)
    rw [show -(y - x) = x - y by omega] at z
    exact Int.emod_eq_zero_of_dvd z
theorem ok_one : Ok (1, 0) := ⟨by decide, by decide⟩
section
variable {P : Program} {w : World} {K : PySem.W.Frag} {mg : Str → Option Value} {base : Heap}
/-! ### _law_fits -/
def spFit : Sp := fun vs H Q _ => ∃ (a b : Addr) (ca cb : C2), vs = [.ref a, .ref b] ∧ At H a ca ∧ At H b cb ∧ Ok ca ∧ Ok cb ∧ ca.1 < 2 ^ 200 ∧ cb.1 < 2 ^ 200 ∧ ∀ H', Same H H' → Q (.bl true) H'
theorem scFit : FnScope ["_law_one", "_law_other", "_law_found", "_law_great_here", "_law_both", "_law_mark"] ["_law_one", "_law_other"] (defScope sFit) := ⟨rfl, rfl, rfl, by decide +kernel, rfl, by decide +kernel, by decide +kernel⟩
theorem ok_fit {f fM fW fD fL : Addr} {fd fdM fdW fdD fdL : FuncData} (F : Fun K "_law_fits" "_law_fits" sFit f fd) (B : Blt mg) (CM : Cl P w K mg base 4 "meet" ["one", "other"] spCom fM fdM) (CW : Cl P w K mg base 4 "is_within" ["one", "other"] spWit fW fdW)
    (CD : Cl P w K mg base 1 "_law_divisor" ["_law_one", "_law_other"] spDiv fD fdD) (CL : Cl P w K mg base 1 "_law_lies" ["_law_mark", "_law_one"] spLie fL fdL) : FnOk P w K mg base CX0 5 f fd ["_law_one", "_law_other"] spFit := by
  refine F.ok scFit (fun vs H Q E h => ?_) (fun cdv A outer s H vs Q E hr h => ?_)
  · obtain ⟨a, b, ca, cb, rfl, _⟩ := h
    rfl
  · obtain ⟨a, b, ca, cb, rfl, ha, hb, oa, ob, la, lb, q⟩ := h
    have hr1 : Room 1 (A.deeper (envOfC "_law_fits" (defScope sFit) s.heap.objs.size f cdv)) := hr.mono (by decide)
    refine ⟨_, pss_cons (ps_set (i := 2) scFit.nd rfl (.inr rfl) (cl CM hr (by rfl) (pa_cons (pv 0) (pa_cons (pv 1) pa_nil))))
      (pss_cons (ps_set (i := 3) scFit.nd rfl (.inl rfl) (cl CD hr1 (by rfl) (pa_cons (pe_ix ix_tup (pv 0) pe_int (fun _ _ => rfl)) (pa_cons (pe_ix ix_tup (pv 1) pe_int (fun _ _ => rfl)) pa_nil))))
      (pss_cons (ps_if (pt_not (pt_val (pe_callB call_isi (by rfl) B.isi (by decide +kernel) (pa_cons (cl CW hr (by rfl) (pa_cons (pv 0) (pa_cons (pv 1) pa_nil))) (pa_cons (pe_bltn (v := .ty "bool") (by rfl) B.bool (by decide +kernel) rfl) pa_nil))))) (pss_one ps_never) pss_nil)
      (pss_cons (ps_if (pt_cmpR op_ne (pe_op op_mod (pe_callTy call_int1 (by rfl) B.int (by decide +kernel) (pa_cons (pe_op op_sub (pe_ix ix_tup (pv 0) pe_int (fun _ _ => rfl)) (pe_ix ix_tup (pv 1) pe_int (fun _ _ => rfl))) pa_nil)) (pv 3)) pe_int (nomark _))
        (pss_one (ps_ret (pe_and (pe_cmpR op_isN (pv 2) pe_non (nomark _)) (pe_and (pe_cmpR op_isN (cl CM hr (by rfl) (pa_cons (pv 1) (pa_cons (pv 0) pa_nil))) pe_non (nomark _)) (pe_one (pe_not (cl CW hr (by rfl) (pa_cons (pv 0) (pa_cons (pv 1) pa_nil))))))))) pss_nil)
      (pss_cons (ps_if (PW.pt (pw_or (pt_not (pt_val (pe_callB call_isi (by rfl) B.isi (by decide +kernel) (pa_cons (pv 2) (pa_cons (pe_bltn (v := .ty "tuple") (by rfl) B.tup (by decide +kernel) rfl) pa_nil)))))
        (pw_or (pt_cmpR op_ne (pe_callB call_len_seq (by rfl) B.len PySem.boot_len (pa_cons (pv 2) pa_nil)) pe_int (nomark _))
        (pw_or1 (pt_cmpR op_ne (pe_ix ix_tup (pv 2) pe_int (fun _ _ => rfl)) (pe_op op_mulW (pe_op op_fdivW (pe_ix ix_tup (pv 0) pe_int (fun _ _ => rfl)) (pv 3)) (pe_ix ix_tup (pv 1) pe_int (fun _ _ => rfl))) (nomark _)))))) (pss_one ps_never) pss_nil)
      (pss_cons (ps_if (PW.pt (pw_or (pt_cmpR op_lt (pe_ix ix_tup (pv 2) pe_int (fun _ _ => rfl)) pe_int (nomark _)) (pw_or (pt_cmpR op_ge (pe_ix ix_tup (pv 2) pe_int (fun _ _ => rfl)) (pe_ix ix_tup (pv 2) pe_int (fun _ _ => rfl)) (nomark _))
        (pw_or (pt_not (pt_val (cl CL hr1 (by rfl) (pa_cons (pe_ix ix_tup (pv 2) pe_int (fun _ _ => rfl)) (pa_cons (pv 0) pa_nil))))) (pw_or1 (pt_not (pt_val (cl CL hr1 (by rfl) (pa_cons (pe_ix ix_tup (pv 2) pe_int (fun _ _ => rfl)) (pa_cons (pv 1) pa_nil))))))))))
        (pss_one ps_never) pss_nil)
      (pss_cons (ps_if (PW.pt (pw_or (pt_cmpR (op_neD hr.units) (cl CM hr (by rfl) (pa_cons (pv 1) (pa_cons (pv 0) pa_nil))) (pv 2) (nomark _))
        (pw_or (pt_cmpR op_ne (cl CW hr (by rfl) (pa_cons (pv 0) (pa_cons (pv 1) pa_nil))) (pe_cmpR (op_eqD hr.units) (pv 2) (pv 0) (nomark _)) (nomark _)) (pw_or1 (pt_not (pt_val (cl CW hr (by rfl) (pa_cons (pv 2) (pa_cons (pv 1) pa_nil))))))))) (pss_one ps_never) pss_nil)
      (pss_cons (ps_if (pt_cmpR op_lt (pe_op op_mulW (pe_ix ix_tup (pv 0) pe_int (fun _ _ => rfl)) (pe_ix ix_tup (pv 1) pe_int (fun _ _ => rfl))) pe_int (nomark _))
        (pss_cons (ps_setLc (i := 4) (own := [("_law_mark", 5)]) (g := gName 5) rfl scFit.nd rfl rfl (sw_true rfl rfl rfl (by decide +kernel)) (pi_range1 (by rfl) B.rng (pa_cons (pe_op op_mulW (pe_ix ix_tup (pv 0) pe_int (fun _ _ => rfl)) (pe_ix ix_tup (pv 1) pe_int (fun _ _ => rfl))) pa_nil))
            (blkOk_by (own := [("_law_mark", 5)]) (N := ["_law_one", "_law_other", "_law_found", "_law_great_here", "_law_both", "_law_mark"]) (sc := defScope sFit) (by decide +kernel))
            (fun _ _ _ _ _ => pg_name (i := 5) scFit.nd rfl (Or.inl rfl))
            (fun _ _ _ _ _ => pts_one (PW.pt (pw_and (pt_val (cl CL hr1 (by rfl) (pa_cons (pv 5) (pa_cons (pv 0) pa_nil)))) (pw_and1 (pt_val (cl CL hr1 (by rfl) (pa_cons (pv 5) (pa_cons (pv 1) pa_nil))))))))
            (fun _ _ _ _ _ => pv 5))
        (pss_one (ps_if (pt_cmpR (op_neD hr.units) (pv 4)
          (pe_lc (own := [("_law_mark", 5)]) (g := gName 5) rfl scFit.nd (pi_range1 (by rfl) B.rng (pa_cons (pe_op op_mulW (pe_ix ix_tup (pv 0) pe_int (fun _ _ => rfl)) (pe_ix ix_tup (pv 1) pe_int (fun _ _ => rfl))) pa_nil))
            (blkOk_by (own := [("_law_mark", 5)]) (N := ["_law_one", "_law_other", "_law_found", "_law_great_here", "_law_both", "_law_mark"]) (sc := defScope sFit) (by decide +kernel))
            (fun _ _ _ _ _ => pg_name (i := 5) scFit.nd rfl (Or.inl rfl))
            (fun _ _ _ _ _ => pts_one (pt_val (cl CL hr1 (by rfl) (pa_cons (pv 5) (pa_cons (pv 2) pa_nil)))))
            (fun _ _ _ _ _ => pv 5)) (nomark _)) (pss_one ps_never) pss_nil))) pss_nil)
      (pss_one (ps_ret (pe_and (pe_cmpR (op_eqD hr.units) (cl CM hr (by rfl) (pa_cons (pv 0) (pa_cons (pv 0) pa_nil))) (pv 0) (nomark _))
        (pe_one (cl CW hr (by rfl) (pa_cons (pv 0) (pa_cons (pe_tup (pa_cons pe_int (pa_cons pe_int pa_nil))) pa_nil)))))))))))))), ?_⟩
    have pa := oa.pos
    have pb := ob.pos
    have gp := gg_pos (b := cb) oa
    have gle : gg ca cb ≤ ca.1 := Int.le_of_dvd pa gg_l
    have gb : (gg ca cb).natAbs < 2 ^ 200 := natAbs_lt (by omega) (by omega)
    have ba : ca.1.natAbs < 2 ^ 200 := natAbs_lt (by omega) la
    have bb : cb.1.natAbs < 2 ^ 200 := natAbs_lt (by omega) lb
    have dle : ca.1 / gg ca cb ≤ ca.1 := Int.ediv_le_self _ (by omega)
    have d0 : 0 ≤ ca.1 / gg ca cb := Int.ediv_nonneg (by omega) (by omega)
    have db : (ca.1 / gg ca cb).natAbs < 2 ^ 200 := by omega
    have la4 : ca.1 < 2 ^ 400 := by omega
    have lb4 : cb.1 < 2 ^ 400 := by omega
    -- found
    refine ⟨_, rfl, _, rfl, a, b, ca, cb, rfl, ha, hb, oa, ob, la4, lb4, fun o v H1 M sm rep => ?_⟩
    have ha1 := ha.same sm
    have hb1 := hb.same sm
    -- great
    refine ⟨_, rfl, _, _, _, _, rfl, rfl, ha1.tt, atI_nat (j := 0) rfl, _, rfl, _, _, _, _, rfl, rfl, hb1.tt, atI_nat (j := 0) rfl, _, _, rfl, (by omega), (by omega), ?_⟩
    -- isinstance(is_within(..), bool)
    refine ⟨_, rfl, _, rfl, a, b, ca, cb, rfl, ha1, hb1, oa, ob, _, _, _, _, _, rfl, .ty _, .base (.bl _), kit_ty (r := true) (by decide +kernel), _, rfl, iteF ?_⟩
    -- the test
    refine ⟨_, rfl, _, _, _, _, rfl, rfl, ha1.tt, atI_nat (j := 1) rfl, _, rfl, _, _, _, _, rfl, rfl, hb1.tt, atI_nat (j := 1) rfl, _, _, rfl, rfl, .inl ⟨_, rfl, _, rfl, _, _, rfl, rfl, gp, rfl, _, rfl, ?_⟩⟩
    by_cases h0 : (ca.2 - cb.2) % gg ca cb = 0
    · refine iteNS (congrArg V.int h0) ?_
      have hz := neg_mod.mp h0
      cases o with
      | none => exact absurd hz (M.n.mp rfl)
      | some c =>
      obtain ⟨p, rfl, hp⟩ := rep
      have oc : Ok c := M.s.1
      have inb := (M.s.2 c.2).mp (lies_self oc)
      -- a tuple of two, its modulus
      refine ⟨_, rfl, _, _, _, _, _, rfl, .ty _, .base (.tup hp), kit_ty (r := true) (by decide +kernel), _, rfl, iteF ?_⟩
      refine ⟨_, rfl, _, _, rfl, .inr hp.tt, rfl, _, rfl, iteNS rfl ?_⟩
      refine ⟨_, rfl, _, _, _, _, rfl, rfl, hp.tt, atI_nat (j := 0) rfl, _, rfl, _, _, _, _, rfl, rfl, ha1.tt, atI_nat (j := 0) rfl, _, rfl, _, _, rfl, rfl, wide_div gp gb (by decide) (by decide),
        _, rfl, _, _, _, _, rfl, rfl, hb1.tt, atI_nat (j := 0) rfl, _, _, rfl, rfl, wide_mul db bb (by decide) (by decide) (by decide), rfl, _, rfl, iteNS (congrArg V.int (M.m c rfl)) ?_⟩
      -- its remainder
      refine ⟨_, rfl, _, _, _, _, rfl, rfl, hp.tt, atI_nat (j := 1) rfl, _, _, rfl, rfl, _, rfl, iteNo (fun z => absurd oc.1 (by omega)) ?_⟩
      refine ⟨_, rfl, _, _, _, _, rfl, rfl, hp.tt, atI_nat (j := 1) rfl, _, rfl, _, _, _, _, rfl, rfl, hp.tt, atI_nat (j := 0) rfl, _, _, rfl, rfl, _, rfl, iteNo (fun z => absurd oc.2 (by omega)) ?_⟩
      refine ⟨_, rfl, _, _, _, _, rfl, rfl, hp.tt, atI_nat (j := 1) rfl, _, rfl, _, _, _, rfl, ha1, oa, _, rfl, iteNS inb.1 ?_⟩
      refine ⟨_, rfl, _, _, _, _, rfl, rfl, hp.tt, atI_nat (j := 1) rfl, _, rfl, _, _, _, rfl, hb1, ob, _, rfl, iteNS inb.2 ?_⟩
      -- the other way round
      refine ⟨_, rfl, _, rfl, b, a, cb, ca, rfl, hb1, ha1, ob, oa, lb4, la4, fun o2 v2 H2 M2 sm2 rep2 => ?_⟩
      have e2 := M.symm M2
      subst e2
      obtain ⟨p2, rfl, hp2⟩ := rep2
      have hp' := hp.same sm2
      have ha2 := ha1.same sm2
      have hb2 := hb1.same sm2
      have s2 := sm.trans sm2
      refine ⟨_, rfl, _, _, dp_cls hp2, dp_cls hp', shaped_cls _, shaped_cls _, _, rfl, ?_⟩
      rw [eqv_cls]
      refine iteNS rfl ?_
      refine ⟨_, rfl, _, rfl, a, b, ca, cb, rfl, ha2, hb2, oa, ob, _, rfl, _, rfl, _, _, dp_cls hp', dp_cls ha2, shaped_cls _, shaped_cls _, rfl, _, rfl, iteNS (congrArg V.bl ?_) ?_⟩
      · rw [eqv_cls]
        exact decide_eq_decide.mpr (within_iff oa ob M)
      refine ⟨_, rfl, _, rfl, p, b, c, cb, rfl, hp', hb2, oc, ob, _, rfl, iteNS (meet_within ob M) ?_⟩
      -- small moduli
      have mul0 : 0 ≤ ca.1 * cb.1 := Int.mul_nonneg (by omega) (by omega)
      have wm : CMulW ca.1 cb.1 := wide_mul ba bb (by decide) (by decide) (by decide)
      have ms : ∀ {o : Option C2}, MeetR ca ca o → o = some ca := fun h => meet_self oa h
      refine ⟨_, rfl, _, _, _, _, rfl, rfl, ha2.tt, atI_nat (j := 0) rfl, _, rfl, _, _, _, _, rfl, rfl, hb2.tt, atI_nat (j := 0) rfl, _, _, rfl, rfl, wm, _, _, rfl, rfl, _, rfl, ite2 (fun hlt => ?_) (fun _ => ?_)⟩
      · have hlt : ca.1 * cb.1 < 2000 := of_decide_eq_true hlt
        refine ⟨_, rfl, _, _, _, _, rfl, rfl, ha2.tt, atI_nat (j := 0) rfl, _, rfl, _, _, _, _, rfl, rfl, hb2.tt, atI_nat (j := 0) rfl, _, _, rfl, rfl, wm, _, rfl, by omega, by omega, fun D nD => ?_⟩
        refine lc_range (lo := 0) (n := (ca.1 * cb.1).toNat) (fun i H' => Same H2 H' ∧ H' D = some (.lst ((flt (fun x => decide (Lies x ca) && decide (Lies x cb)) i).map V.int))) ⟨same_new nD, upd_same⟩ ?_ ?_
        · rintro i H' hi ⟨sd, hD⟩
          have ha3 := ha2.same sd
          have hb3 := hb2.same sd
          have hD' : ∀ b o, H2 b = some o → b ≠ D := fun b o e => ne_of_none e nD
          refine ⟨rfl, ?_⟩
          refine ⟨_, rfl, _, rfl, _, _, _, rfl, ha3, oa, _, rfl, ?_⟩
          have fin : ∀ (k : Bool), (decide (Lies ((0 : Int) + (i : Int)) ca) && decide (Lies ((0 : Int) + (i : Int)) cb)) = k → (if k = true then ∃ v, (some (some (V.int ((0 : Int) + (i : Int))))) = some (some v) ∧ ∃ acc, H' D = some (.lst acc) ∧ acc.length < sizeLine ∧ Same H2 (upd H' D (.lst (acc ++ [v]))) ∧ (upd H' D (.lst (acc ++ [v]))) D = some (.lst ((flt (fun x => decide (Lies x ca) && decide (Lies x cb)) (i + 1)).map V.int))
              else Same H2 H' ∧ H' D = some (.lst ((flt (fun x => decide (Lies x ca) && decide (Lies x cb)) (i + 1)).map V.int))) := by
            intro k hk
            rw [show (0 : Int) + (i : Int) = (i : Int) by omega] at hk ⊢
            rw [flt_succ]
            cases k with
            | true =>
              rw [if_pos rfl]
              refine ⟨_, rfl, _, hD, ?_, fun b o e => ?_, ?_⟩
              · rw [List.length_map]
                have := flt_len (fun x => decide (Lies x ca) && decide (Lies x cb)) i
                exact Nat.lt_of_le_of_lt (show _ ≤ 2000 by omega) (by decide)
              · rw [upd_ne (hD' b o e)]
                exact sd _ _ e
              · rw [upd_same, if_pos hk, List.map_append]
                rfl
            | false =>
              rw [if_neg Bool.false_ne_true]
              refine ⟨sd, ?_⟩
              rw [hD, if_neg (by rw [hk]; exact Bool.false_ne_true)]
          by_cases h1 : Lies ((0 : Int) + (i : Int)) ca
          · refine iteYes h1 ?_
            refine ⟨_, rfl, _, rfl, _, _, _, rfl, hb3, ob, _, rfl, ?_⟩
            have z := fin (decide (Lies ((0 : Int) + (i : Int)) cb)) (by rw [decide_eq_true h1, Bool.true_and])
            obtain hk | hk := Bool.eq_false_or_eq_true (decide (Lies ((0 : Int) + (i : Int)) cb))
            · rw [hk] at z ⊢
              exact z
            · rw [hk] at z ⊢
              exact z
          · refine iteNo h1 ?_
            have z := fin false (by rw [decide_eq_false h1, Bool.false_and])
            exact z
        · rintro H3 ⟨sd, hD⟩
          have ha3 := ha2.same sd
          have hb3 := hb2.same sd
          have hp3 := hp'.same sd
          refine ⟨_, rfl, _, rfl, _, _, _, _, rfl, rfl, ha3.tt, atI_nat (j := 0) rfl, _, rfl, _, _, _, _, rfl, rfl, hb3.tt, atI_nat (j := 0) rfl, _, _, rfl, rfl, wm, _, rfl, by omega, by omega, fun G nG => ?_⟩
          refine lc_range (lo := 0) (n := (ca.1 * cb.1).toNat) (fun i H' => Same H3 H' ∧ H' G = some (.lst ((flt (fun x => decide (Lies x c)) i).map V.int))) ⟨same_new nG, upd_same⟩ ?_ ?_
          · rintro i H' hi ⟨se, hG⟩
            have hp4 := hp3.same se
            have hG' : ∀ b o, H3 b = some o → b ≠ G := fun b o e => ne_of_none e nG
            refine ⟨rfl, ?_⟩
            refine ⟨_, rfl, _, rfl, _, _, _, rfl, hp4, oc, _, rfl, ?_⟩
            have hz : (0 : Int) + (i : Int) = (i : Int) := by omega
            by_cases h1 : Lies ((0 : Int) + (i : Int)) c
            · refine iteYes h1 ?_
              refine ⟨_, rfl, _, hG, ?_, fun b o e => ?_, ?_⟩
              · rw [List.length_map]
                have := flt_len (fun x => decide (Lies x c)) i
                exact Nat.lt_of_le_of_lt (show _ ≤ 2000 by omega) (by decide)
              · rw [upd_ne (hG' b o e)]
                exact se _ _ e
              · rw [hz] at h1 ⊢
                rw [upd_same, flt_succ, if_pos (decide_eq_true h1), List.map_append]
                rfl
            · refine iteNo h1 ?_
              refine ⟨se, ?_⟩
              rw [hz] at h1
              rw [hG, flt_succ, if_neg (by rw [decide_eq_false h1]; exact Bool.false_ne_true)]
          · rintro H4 ⟨se, hG⟩
            have hD4 := se _ _ hD
            refine ⟨_, _, dp_list hD4, dp_list hG, PySem.W.ke_shaped_ints _, PySem.W.ke_shaped_ints _, _, rfl, ?_⟩
            rw [eqv_ints]
            refine iteNS (flt_congr (fun x => ?_) _) ?_
            · have z := M.s.2 x
              by_cases h1 : Lies x c
              · rw [decide_eq_true h1, decide_eq_true (z.mp h1).1, decide_eq_true (z.mp h1).2]
                rfl
              · rw [decide_eq_false h1, Bool.and_eq_false_iff]
                by_cases h2 : Lies x ca
                · exact .inr (decide_eq_false fun h3 => h1 (z.mpr ⟨h2, h3⟩))
                · exact .inl (decide_eq_false h2)
            -- return
            have s4 := (s2.trans sd).trans se
            have ha4 := ha3.same se
            refine ⟨_, rfl, _, rfl, a, a, ca, ca, rfl, ha4, ha4, oa, oa, la4, la4, fun o5 v5 H5 M5 sm5 rep5 => ?_⟩
            have e5 := ms M5
            subst e5
            obtain ⟨p5, rfl, hp5⟩ := rep5
            refine ⟨_, rfl, _, _, dp_cls hp5, dp_cls (ha4.same sm5), shaped_cls _, shaped_cls _, _, rfl, ?_⟩
            rw [eqv_cls]
            refine iteYes rfl ?_
            refine ⟨_, rfl, (by show 2 ≤ sizeLine; decide), fun r nr => ?_⟩
            refine ⟨_, _, _, (1, 0), rfl, (ha4.same sm5).same (same_new nr), upd_same, oa, ok_one, ?_⟩
            rw [decide_eq_true ⟨Int.emod_one _, Int.emod_one _⟩]
            exact q _ ((s4.trans sm5).trans (same_new nr))
      · -- return
        refine ⟨_, rfl, _, rfl, a, a, ca, ca, rfl, ha2, ha2, oa, oa, la4, la4, fun o5 v5 H5 M5 sm5 rep5 => ?_⟩
        have e5 := ms M5
        subst e5
        obtain ⟨p5, rfl, hp5⟩ := rep5
        refine ⟨_, rfl, _, _, dp_cls hp5, dp_cls (ha2.same sm5), shaped_cls _, shaped_cls _, _, rfl, ?_⟩
        rw [eqv_cls]
        refine iteYes rfl ?_
        refine ⟨_, rfl, (by show 2 ≤ sizeLine; decide), fun r nr => ?_⟩
        refine ⟨_, _, _, (1, 0), rfl, (ha2.same sm5).same (same_new nr), upd_same, oa, ok_one, ?_⟩
        rw [decide_eq_true ⟨Int.emod_one _, Int.emod_one _⟩]
        exact q _ ((s2.trans sm5).trans (same_new nr))
    · refine iteNNo (ne_int0 h0) ?_
      have en : o = none := M.n.mpr fun z => h0 (neg_mod.mpr z)
      subst en
      have ev : v = .non := rep
      subst ev
      refine ⟨_, rfl, rfl, _, rfl, iteYes rfl ?_⟩
      refine ⟨_, rfl, _, rfl, b, a, cb, ca, rfl, hb1, ha1, ob, oa, lb4, la4, fun o2 v2 H2 M2 sm2 rep2 => ?_⟩
      have e2 := M.symm M2
      subst e2
      have ev : v2 = .non := rep2
      subst ev
      refine ⟨rfl, _, rfl, iteYes rfl ?_⟩
      refine ⟨_, rfl, _, rfl, a, b, ca, cb, rfl, ha1.same sm2, hb1.same sm2, oa, ob, _, rfl, ?_⟩
      rw [decide_eq_false (within_none oa M)]
      exact q _ (sm.trans sm2)
end
end Bm
namespace Bm
open PySem PySem.Spec PyProof.Rows L2
/-- all but what stands at D is as it was -/
def But (D : Addr) (H H' : Hp) : Prop := ∀ b o, H b = some o → b ≠ D → H' b = some o
theorem But.at {D a : Addr} {H H' : Hp} {c : C2} (h : But D H H') (n : a ≠ D) (e : At H a c) : At H' a c := h _ _ e n
theorem But.same {D : Addr} {H H1 H2 : Hp} (h : But D H H1) (s : Same H1 H2) : But D H H2 := fun b o e n => s _ _ (h b o e n)
theorem But.upd {D : Addr} {H H1 : Hp} {o : HO} (h : But D H H1) : But D H (upd H1 D o) := fun b x e n => by
  rw [upd_ne n]
  exact h b x e n
theorem Rep.lst {D : Addr} {H : Hp} {ys : List V} {x : HO} {v : V} {o : Option C2} (h : Rep H v o) (hD : H D = some (.lst ys)) : Rep (upd H D x) v o := by
  cases o with
  | none => exact h
  | some c =>
    obtain ⟨p, e, a⟩ := h
    refine ⟨p, e, ?_⟩
    show upd H D x p = _
    rw [upd_ne (ne_of a hD (fun z => nomatch z))]
    exact a
/-- the three ways to go through the classes -/
structure Trip (S : Int → Prop) (H : Hp) (D : Addr) (x : V) (p a b c : Addr) (ca cb cc : C2) : Prop where
  e : x = .ref p
  h : H p = some (.tup [.ref a, .ref b, .ref c])
  ha : At H a ca
  hb : At H b cb
  hc : At H c cc
  oa : Ok ca
  ob : Ok cb
  oc : Ok cc
  la : ca.1 < 2 ^ 120
  lb : cb.1 < 2 ^ 120
  lc : cc.1 < 2 ^ 120
  iff : ∀ x, (Lies x ca ∧ Lies x cb ∧ Lies x cc) ↔ S x
def PvT (H5 : Hp) (a b c D : Addr) (S : Int → Prop) (i : Nat) (σ : L2.St) (H' : Hp) : Prop := ∃ (y4 y5 y6 y7 : Option V) (vs : List V), σ = [some (.ref a), some (.ref b), some (.ref c), some (.ref D), y4, y5, y6, y7] ∧ But D H5 H' ∧ H' D = some (.lst vs) ∧ vs.length = i ∧
  ∀ v ∈ vs, ∃ o, Rep H' v o ∧ IsS S o
theorem PvT.next {H5 H1 H3 : Hp} {a b c D : Addr} {S : Int → Prop} {i : Nat} {vs : List V} {x4 x5 x6 : Option V} {v : V} {o : Option C2} (bt : But D H5 H3) (hD : H3 D = some (.lst vs)) (hl : vs.length = i) (hv : ∀ v ∈ vs, ∃ o, Rep H1 v o ∧ IsS S o) (sm : Same H1 H3) (r : Rep H3 v o) (z : IsS S o) :
    PvT H5 a b c D S (i + 1) [some (.ref a), some (.ref b), some (.ref c), some (.ref D), x4, x5, x6, some v] (upd H3 D (.lst (vs ++ [v]))) := by
  refine ⟨_, _, _, _, _, rfl, bt.upd, upd_same, ?_, fun w hw => ?_⟩
  · rw [List.length_append, hl]
    rfl
  · rcases List.mem_append.mp hw with hw | hw
    · obtain ⟨o', r', z'⟩ := hv w hw
      exact ⟨o', (r'.same sm).lst hD, z'⟩
    · have e : w = v := List.mem_singleton.mp hw
      subst e
      exact ⟨o, r.lst hD, z⟩
section
variable {P : Program} {w : World} {K : PySem.W.Frag} {mg : Str → Option Value} {base : Heap}
/-! ### _law_three_fit -/
def spThr : Sp := fun vs H Q _ => ∃ (a b c : Addr) (ca cb cc : C2), vs = [.ref a, .ref b, .ref c] ∧ At H a ca ∧ At H b cb ∧ At H c cc ∧ Ok ca ∧ Ok cb ∧ Ok cc ∧ ca.1 < 2 ^ 120 ∧ cb.1 < 2 ^ 120 ∧ cc.1 < 2 ^ 120 ∧ ∀ H', Same H H' → Q (.bl true) H'
theorem scThr : FnScope ["_law_first", "_law_second", "_law_third", "_law_found", "_law_one", "_law_other", "_law_last", "_law_both"] ["_law_first", "_law_second", "_law_third"] (defScope sThr) := ⟨rfl, rfl, rfl, by decide +kernel, rfl, by decide +kernel, by decide +kernel⟩
theorem mul_lt_pow {x y : Int} (x0 : 0 ≤ x) (y0 : 0 ≤ y) (hx : x < 2 ^ 120) (hy : y < 2 ^ 120) : x * y < 2 ^ 240 := by
  have h1 : x * y ≤ 2 ^ 120 * y := Int.mul_le_mul_of_nonneg_right (by omega) y0
  omega
theorem ok_thr {f fM : Addr} {fd fdM : FuncData} (F : Fun K "_law_three_fit" "_law_three_fit" sThr f fd) (CM : Cl P w K mg base 4 "meet" ["one", "other"] spCom fM fdM) :
    FnOk P w K mg base CX0 5 f fd ["_law_first", "_law_second", "_law_third"] spThr := by
  refine F.ok scThr (fun vs H Q E h => ?_) (fun cdv A outer s H vs Q E hr h => ?_)
  · obtain ⟨a, b, c, ca, cb, cc, rfl, _⟩ := h
    rfl
  · obtain ⟨a, b, c, ca, cb, cc, rfl, ha, hb, hc, oa, ob, oc, la, lb, lc, q⟩ := h
    refine ⟨_, pss_cons (ps_set (i := 3) scThr.nd rfl (.inl rfl) (pe_lst pa_nil))
      (pss_cons (ps_for PassesOwn.never rfl (pi_list (pe_lst (pa_cons (pe_tup (pa_cons (pv 0) (pa_cons (pv 1) (pa_cons (pv 2) pa_nil)))) (pa_cons (pe_tup (pa_cons (pv 1) (pa_cons (pv 2) (pa_cons (pv 0) pa_nil)))) (pa_cons (pe_tup (pa_cons (pv 2) (pa_cons (pv 0) (pa_cons (pv 1) pa_nil)))) pa_nil)))))
          (pg_tup rfl (pgs_cons (pg_name (i := 4) scThr.nd rfl (.inl rfl)) (pgs_cons (pg_name (i := 5) scThr.nd rfl (.inl rfl)) (pgs_cons (pg_name (i := 6) scThr.nd rfl (.inl rfl)) pgs_nil))))
        (pss_cons (ps_set (i := 7) scThr.nd rfl (.inl rfl) (cl CM hr (by rfl) (pa_cons (pv 4) (pa_cons (pv 5) pa_nil))))
        (pss_cons (ps_if (pt_cmpR op_notN (pv 7) pe_non (nomark _)) (pss_one (ps_set (i := 7) scThr.nd rfl (.inl rfl) (cl CM hr (by rfl) (pa_cons (pv 7) (pa_cons (pv 6) pa_nil))))) pss_nil)
        (pss_one (ps_expr (pe_bm PySem.F.plainAttrs_list PySem.F.slot_list_append PySem.F.type_list_append mt_append (pv 3) (pa_cons (pv 7) pa_nil)))))))
      (pss_one (ps_ret (pe_and (pe_cmpR (op_eqD hr.units) (pe_ix ix_list (pv 3) pe_int (fun _ _ => rfl)) (pe_ix ix_list (pv 3) pe_int (fun _ _ => rfl)) (nomark _))
        (pe_one (pe_cmpR (op_eqD hr.units) (pe_ix ix_list (pv 3) pe_int (fun _ _ => rfl)) (pe_ix ix_list (pv 3) pe_int (fun _ _ => rfl)) (nomark _))))))), ?_⟩
    -- found = []
    refine ⟨Nat.zero_le _, fun D nD => ?_⟩
    -- the list of the three ways
    refine ⟨_, rfl, _, rfl, _, rfl, (by show 3 ≤ sizeLine; decide), fun p1 n1 => ⟨_, rfl, _, rfl, _, rfl, (by show 3 ≤ sizeLine; decide), fun p2 n2 => ⟨_, rfl, _, rfl, _, rfl, (by show 3 ≤ sizeLine; decide), fun p3 n3 => ⟨(by show 3 ≤ sizeLine; decide), fun L nL => ?_⟩⟩⟩⟩
    have s0 : Same H (upd H D (.lst [])) := same_new nD
    have s1 := same_new (o := .tup [.ref a, .ref b, .ref c]) n1
    have s2 := same_new (o := .tup [.ref b, .ref c, .ref a]) n2
    have s3 := same_new (o := .tup [.ref c, .ref a, .ref b]) n3
    have s4 := same_new (o := .lst [.ref p1, .ref p2, .ref p3]) nL
    have h1 := s4 _ _ (s3 _ _ (s2 _ _ (upd_same (H := upd H D (.lst [])) (a := p1) (o := .tup [.ref a, .ref b, .ref c]))))
    have h2 := s4 _ _ (s3 _ _ (upd_same (H := upd (upd H D (.lst [])) p1 (.tup [.ref a, .ref b, .ref c])) (a := p2) (o := .tup [.ref b, .ref c, .ref a])))
    have h3 := s4 _ _ (upd_same (H := upd (upd (upd H D (.lst [])) p1 (.tup [.ref a, .ref b, .ref c])) p2 (.tup [.ref b, .ref c, .ref a])) (a := p3) (o := .tup [.ref c, .ref a, .ref b]))
    have hD := s4 _ _ (s3 _ _ (s2 _ _ (s1 _ _ (upd_same (H := H) (a := D) (o := .lst [])))))
    have hL : (upd (upd (upd (upd (upd H D (.lst [])) p1 (.tup [.ref a, .ref b, .ref c])) p2 (.tup [.ref b, .ref c, .ref a])) p3 (.tup [.ref c, .ref a, .ref b])) L (.lst [.ref p1, .ref p2, .ref p3])) L = some (.lst [.ref p1, .ref p2, .ref p3]) := upd_same
    have ss := (((s0.trans s1).trans s2).trans s3).trans s4
    show (∃ e, V.ref L = .ref e ∧ _)
    generalize (upd (upd (upd (upd (upd H D (.lst [])) p1 (.tup [.ref a, .ref b, .ref c])) p2 (.tup [.ref b, .ref c, .ref a])) p3 (.tup [.ref c, .ref a, .ref b])) L (.lst [.ref p1, .ref p2, .ref p3])) = H5 at *
    have ha5 := ha.same ss
    have hb5 := hb.same ss
    have hc5 := hc.same ss
    have nLD : L ≠ D := ne_of hL hD (fun z => by
      injection z with z
      cases z)
    have nt : ∀ {u : Addr} {xs : List V}, H5 u = some (.tup xs) → u ≠ D := fun h => ne_of h hD (fun z => nomatch z)
    obtain ⟨S, hS⟩ : ∃ S : Int → Prop, S = fun x => Lies x ca ∧ Lies x cb ∧ Lies x cc := ⟨_, rfl⟩
    have trip : ∀ (i : Nat) (x : V), [V.ref p1, .ref p2, .ref p3][i]? = some x → ∃ p a b c ca cb cc, Trip S H5 D x p a b c ca cb cc := by
      intro i x hx
      match i, hx with
      | 0, hx => exact ⟨p1, a, b, c, ca, cb, cc, (Option.some.inj hx).symm, h1, ha5, hb5, hc5, oa, ob, oc, la, lb, lc, fun x => by rw [hS]⟩
      | 1, hx => exact ⟨p2, b, c, a, cb, cc, ca, (Option.some.inj hx).symm, h2, hb5, hc5, ha5, ob, oc, oa, lb, lc, la, fun x => by rw [hS]; exact ⟨fun ⟨p, q, r⟩ => ⟨r, p, q⟩, fun ⟨p, q, r⟩ => ⟨q, r, p⟩⟩⟩
      | 2, hx => exact ⟨p3, c, a, b, cc, ca, cb, (Option.some.inj hx).symm, h3, hc5, ha5, hb5, oc, oa, ob, lc, la, lb, fun x => by rw [hS]; exact ⟨fun ⟨p, q, r⟩ => ⟨q, r, p⟩, fun ⟨p, q, r⟩ => ⟨r, p, q⟩⟩⟩
      | n + 3, hx => simp at hx
    refine ⟨L, rfl, ⟨_, SqL.of hL⟩, ?_⟩
    refine for_list (xs := [.ref p1, .ref p2, .ref p3]) (PvT H5 a b c D S) ⟨none, none, none, none, [], rfl, fun b o e _ => e, hD, rfl, fun v hv => (nomatch hv)⟩ (fun i σ H' _ ⟨_, _, _, _, _, _, bt, _⟩ => SqL.of (bt _ _ hL nLD)) ?_ ?_
    · rintro i x σ H' hx ⟨y4, y5, y6, y7, vs, rfl, bt, hD1, hl, hv⟩
      obtain ⟨p, a', b', c', ca', cb', cc', T⟩ := trip i x hx
      have e := T.e
      subst e
      have hi : i < 3 := (List.getElem?_eq_some_iff.mp hx).1
      have hla := T.la
      have hlb := T.lb
      have hlc := T.lc
      have pa := T.oa.pos
      have pb := T.ob.pos
      refine ⟨p, _, rfl, SqT.of (bt _ _ T.h (nt T.h)), rfl, _, _, rfl, _, _, rfl, _, _, rfl, rfl, ?_⟩
      refine ⟨_, rfl, _, rfl, a', b', ca', cb', rfl, bt.at (nt T.ha) T.ha, bt.at (nt T.hb) T.hb, T.oa, T.ob, by omega, by omega, fun o v H2 M sm rep => ?_⟩
      have bt2 := bt.same sm
      have hD2 := sm _ _ hD1
      have size : vs.length < sizeLine := Nat.lt_of_le_of_lt (show vs.length ≤ 3 by omega) (by decide)
      refine ⟨_, rfl, rfl, _, rfl, ?_⟩
      cases o with
      | none =>
        have ev : v = .non := rep
        subst ev
        refine iteNS rfl ?_
        refine ⟨.ref D, rfl, .inl ⟨rfl, _, .inl (.inl hD2)⟩, _, rfl, D, _, _, rfl, rfl, hD2, size, ?_⟩
        exact PvT.next bt2 hD2 hl hv sm (o := none) rfl fun x z => M.s x ⟨((T.iff x).mpr z).1, ((T.iff x).mpr z).2.1⟩
      | some d =>
        obtain ⟨r, rfl, hr'⟩ := rep
        refine iteNNo (fun z => nomatch z) ?_
        have ms := M.s
        have dl : d.1 < 2 ^ 400 := by
          have z1 := meet_le T.oa T.ob M
          have z2 := mul_lt_pow (by omega) (by omega) hla hlb
          omega
        refine ⟨_, rfl, _, rfl, r, c', d, cc', rfl, hr', bt2.at (nt T.hc) T.hc, ms.1, T.oc, dl, by omega, fun o2 v2 H3 M2 sm2 rep2 => ?_⟩
        have bt3 := bt2.same sm2
        have hD3 := sm2 _ _ hD2
        refine ⟨.ref D, rfl, .inl ⟨rfl, _, .inl (.inl hD3)⟩, _, rfl, D, _, _, rfl, rfl, hD3, size, ?_⟩
        have z : IsS S o2 := by
          have y : Meet3 ca' cb' cc' o2 := ⟨some d, M, M2⟩
          have y := y.s
          have e : (fun x => Lies x ca' ∧ Lies x cb' ∧ Lies x cc') = S := funext fun x => propext (T.iff x)
          rw [e] at y
          exact y
        exact PvT.next bt3 hD3 hl hv (sm.trans sm2) rep2 z
    · rintro σ H' ⟨y4, y5, y6, y7, vs, rfl, bt, hD1, hl, hv⟩
      obtain ⟨v0, v1, v2, rfl⟩ : ∃ v0 v1 v2, vs = [v0, v1, v2] := by
        match vs, hl with
        | [x, y, z], _ => exact ⟨x, y, z, rfl⟩
      obtain ⟨o0, r0, z0⟩ := hv v0 (by simp)
      obtain ⟨o1, r1, z1⟩ := hv v1 (by simp)
      obtain ⟨o2, r2, z2⟩ := hv v2 (by simp)
      have e1 : o0 = o1 := z0.uniq z1 fun _ => Iff.rfl
      have e2 : o0 = o2 := z0.uniq z2 fun _ => Iff.rfl
      subst e1 e2
      have sf : Same H H' := fun u o e => bt u o (ss u o e) (ne_of_none e nD)
      refine ⟨_, rfl, D, _, _, _, rfl, rfl, SqL.of hD1, atI_nat (j := 0) rfl, _, rfl, D, _, _, _, rfl, rfl, SqL.of hD1, atI_nat (j := 1) rfl, _, _, dp_rep r0, dp_rep r1, shaped_rep _, shaped_rep _, _, rfl, ?_⟩
      rw [eqv_rep]
      refine iteT ⟨_, rfl, D, _, _, _, rfl, rfl, SqL.of hD1, atI_nat (j := 1) rfl, _, rfl, D, _, _, _, rfl, rfl, SqL.of hD1, atI_nat (j := 2) rfl, _, _, dp_rep r1, dp_rep r2, shaped_rep _, shaped_rep _, ?_⟩
      rw [eqv_rep]
      exact q _ sf
/-! ### the law -/
def spLaw (K : PySem.W.Frag) : Sp := fun vs H Q _ => ∃ (a : Addr) (ns : List Int), vs = [.ref a] ∧ SqL K H a (ns.map V.int) ∧ ns.length ≤ 63 ∧ ∀ H', Q (.bl true) H'
theorem scLaw : FnScope ["_law_script", "_law_source_here", "_law_turn", "_law_mark", "_law_one", "_law_other", "_law_part"] ["_law_script"] (defScope sLaw) := ⟨rfl, rfl, rfl, by decide +kernel, rfl, by decide +kernel, by decide +kernel⟩
theorem ok_law {f fS fG fC fD fF fT : Addr} {fd fdS fdG fdC fdD fdF fdT : FuncData} (F : Fun K "law" "law" sLaw f fd) (B : Blt mg) (CS : Cl P w K mg base 1 "_law_source" ["_law_script"] (spSrc K) fS fdS)
    (CG : Cl P w K mg base 2 "_law_great" ["_law_source_here", "_law_digits"] spGrt fG fdG) (CC : Cl P w K mg base 4 "_law_class" ["_law_source_here", "_law_mark"] spCls fC fdC) (CD : Cl P w K mg base 1 "_law_draw" ["_law_source_here", "_law_limit"] spDrw fD fdD)
    (CF : Cl P w K mg base 5 "_law_fits" ["_law_one", "_law_other"] spFit fF fdF) (CT : Cl P w K mg base 5 "_law_three_fit" ["_law_first", "_law_second", "_law_third"] spThr fT fdT) : FnOk P w K mg base CX0 6 f fd ["_law_script"] (spLaw K) := by
  refine F.ok scLaw (fun vs H Q E h => ?_) (fun cdv A outer s₀ H vs Q E hr h => ?_)
  · obtain ⟨a, ns, rfl, _⟩ := h
    rfl
  · obtain ⟨a, ns, rfl, ha, hn, q⟩ := h
    have hr1 : Room 1 (A.deeper (envOfC "law" (defScope sLaw) s₀.heap.objs.size f cdv)) := hr.mono (by decide)
    have hr2 : Room 2 (A.deeper (envOfC "law" (defScope sLaw) s₀.heap.objs.size f cdv)) := hr.mono (by decide)
    have hr4 : Room 4 (A.deeper (envOfC "law" (defScope sLaw) s₀.heap.objs.size f cdv)) := hr.mono (by decide)
    refine ⟨_, pss_cons (ps_set (i := 1) scLaw.nd rfl (.inl rfl) (cl CS hr1 (by rfl) (pa_cons (pv 0) pa_nil)))
      (pss_cons (ps_for PassesOwn.never rfl (pi_range1 (by rfl) B.rng (pa_cons pe_int pa_nil)) (pg_name (i := 2) scLaw.nd rfl (.inl rfl))
        (pss_cons (ps_set (i := 3) scLaw.nd rfl (.inl rfl) (cl CG hr2 (by rfl) (pa_cons (pv 1) (pa_cons pe_int pa_nil))))
        (pss_cons (ps_par (i := 4) (j := 5) rfl scLaw.nd rfl rfl (by decide) rfl rfl (pa_cons (cl CC hr4 (by rfl) (pa_cons (pv 1) (pa_cons (pv 3) pa_nil))) (pa_cons (cl CC hr4 (by rfl) (pa_cons (pv 1) (pa_cons (pv 3) pa_nil))) pa_nil)) (by rfl))
        (pss_cons (ps_if (pt_cmpR op_eq (cl CD hr1 (by rfl) (pa_cons (pv 1) (pa_cons pe_int pa_nil))) pe_int (nomark _))
          (pss_cons (ps_set (i := 6) scLaw.nd rfl (.inl rfl) (pe_op op_add pe_int (cl CD hr1 (by rfl) (pa_cons (pv 1) (pa_cons pe_int pa_nil)))))
          (pss_one (ps_set (i := 5) scLaw.nd rfl (.inl rfl) (pe_tup (pa_cons (pe_op op_mul (pe_ix ix_tup (pv 4) pe_int (fun _ _ => rfl)) (pv 6))
            (pa_cons (pe_op op_add (pe_ix ix_tup (pv 4) pe_int (fun _ _ => rfl)) (pe_op op_mul (pe_ix ix_tup (pv 4) pe_int (fun _ _ => rfl)) (cl CD hr1 (by rfl) (pa_cons (pv 1) (pa_cons (pv 6) pa_nil))))) pa_nil)))))) pss_nil)
        (pss_one (ps_if (PW.pt (pw_or (pt_not (pt_val (cl CF hr (by rfl) (pa_cons (pv 4) (pa_cons (pv 5) pa_nil))))) (pw_or1 (pt_not (pt_val (cl CT hr (by rfl) (pa_cons (pv 4) (pa_cons (pv 5) (pa_cons (cl CC hr4 (by rfl) (pa_cons (pv 1) (pa_cons (pv 3) pa_nil))) pa_nil)))))))))
          (pss_one ps_never) pss_nil))))))
      (pss_one (ps_ret pe_bl))), ?_⟩
    refine ⟨_, rfl, a, ns, rfl, ha, hn, fun s c H1 hS1 => ?_⟩
    refine ⟨30, rfl, by decide, by decide, ?_⟩
    refine for_range (lo := 0) (n := 30) (fun i σ H' => ∃ (t : Int) (y2 y3 y4 y5 y6 : Option V), σ = [some (.ref a), some (.ref s), y2, y3, y4, y5, y6] ∧ Src H' s c t ∧ 0 ≤ t ∧ t ≤ 400 * (i : Int))
      ⟨0, none, none, none, none, none, rfl, hS1, by decide, by decide⟩ ?_ ?_
    · rintro i σ H' hi ⟨t, y2, y3, y4, y5, y6, rfl, hS, t0, t1⟩
      -- mark
      refine ⟨_, rfl, s, c, t, 30, rfl, by decide, by decide, hS, t0, by omega, fun mark t2 H2 _ _ a2 b2 hS2 k2 => ?_⟩
      -- one, other
      refine ⟨_, rfl, _, rfl, s, c, t2, mark, rfl, hS2, a2, by omega, fun p cp t3 H3 okp lep a3 b3 atp hS3 k3 => ?_⟩
      refine ⟨_, rfl, _, rfl, s, c, t3, mark, rfl, hS3, a3, by omega, fun r cr t4 H4 okr ler a4 b4 atr hS4 k4 => ?_⟩
      refine ⟨_, _, rfl, ?_⟩
      have atp4 := atp.keep k4
      -- the draw
      refine ⟨_, rfl, s, c, t4, 3, rfl, by decide, by decide, hS4, a4, by omega, fun d H5 d0 d1 hS5 k5 => ?_⟩
      have atp5 := atp4.keep k5
      have pp := okp.pos
      refine ⟨rfl, _, rfl, ite2 (fun _ => ?_) (fun _ => ?_)⟩
      · -- part
        refine ⟨_, rfl, s, c, t4 + 1, 12, rfl, by decide, by decide, hS5, by omega, by omega, fun e H6 e0 e1 hS6 k6 => ?_⟩
        refine ⟨_, _, rfl, rfl, ?_⟩
        have atp6 := atp5.keep k6
        -- other
        refine ⟨_, rfl, _, _, _, _, rfl, rfl, atp6.tt, atI_nat (j := 0) rfl, _, rfl, _, _, rfl, rfl, .inr ⟨by omega, by omega⟩, ?_⟩
        refine ⟨_, rfl, _, _, _, _, rfl, rfl, atp6.tt, atI_nat (j := 1) rfl, _, rfl, _, _, _, _, rfl, rfl, atp6.tt, atI_nat (j := 0) rfl, _, rfl, _, rfl, s, c, t4 + 1 + 1, 1 + e, rfl, by omega, by omega, hS6, by omega, by omega, fun g H7 g0 g1 hS7 k7 => ?_⟩
        refine ⟨_, _, rfl, rfl, .inr ⟨by omega, by omega⟩, _, _, rfl, rfl, (by show 2 ≤ sizeLine; decide), fun u nu => ?_⟩
        have atp8 := (atp6.keep k7).same (same_new (o := .tup [.int (cp.1 * (1 + e)), .int (cp.2 + cp.1 * g)]) nu)
        have hS8 := hS7.new (o := .tup [.int (cp.1 * (1 + e)), .int (cp.2 + cp.1 * g)]) nu
        have atu : At (upd H7 u (.tup [.int (cp.1 * (1 + e)), .int (cp.2 + cp.1 * g)])) u (cp.1 * (1 + e), cp.2 + cp.1 * g) := upd_same
        have le12 : cp.1 * (1 + e) ≤ 10 ^ 30 * 12 := by
          have z1 : cp.1 * (1 + e) ≤ cp.1 * 12 := Int.mul_le_mul_of_nonneg_left (by omega) (by omega)
          omega
        have oku : Ok (cp.1 * (1 + e), cp.2 + cp.1 * g) := by
          refine ⟨?_, ?_⟩
          · show 0 ≤ cp.2 + cp.1 * g
            have z1 := Int.mul_nonneg (show 0 ≤ cp.1 by omega) g0
            have z2 := okp.1
            omega
          · show cp.2 + cp.1 * g < cp.1 * (1 + e)
            have z1 : cp.1 * (g + 1) ≤ cp.1 * (1 + e) := Int.mul_le_mul_of_nonneg_left (by omega) (by omega)
            rw [Int.mul_add, Int.mul_one] at z1
            have z2 := okp.2
            omega
        refine ⟨_, rfl, _, rfl, p, u, cp, (cp.1 * (1 + e), cp.2 + cp.1 * g), rfl, atp8, atu, okp, oku, by omega, (show cp.1 * (1 + e) < 2 ^ 200 by omega), fun H9 sm => ?_⟩
        refine ⟨_, rfl, iteF ?_⟩
        refine ⟨_, rfl, _, rfl, _, rfl, _, rfl, s, c, t4 + 1 + 1 + 1, mark, rfl, hS8.same sm, by omega, by omega, fun x cx t10 H10 okx lex a10 b10 atx hS10 k10 => ?_⟩
        refine ⟨p, u, x, cp, (cp.1 * (1 + e), cp.2 + cp.1 * g), cx, rfl, (atp8.same sm).keep k10, (atu.same sm).keep k10, atx, okp, oku, okx, by omega, (show cp.1 * (1 + e) < 2 ^ 120 by omega), by omega, fun H11 sm11 => ?_⟩
        refine ⟨_, rfl, iteF ?_⟩
        exact ⟨t10, _, _, _, _, _, rfl, hS10.same sm11, a10, by omega⟩
      · refine ⟨_, rfl, _, rfl, p, r, cp, cr, rfl, atp5, atr.keep k5, okp, okr, by omega, by omega, fun H9 sm => ?_⟩
        refine ⟨_, rfl, iteF ?_⟩
        refine ⟨_, rfl, _, rfl, _, rfl, _, rfl, s, c, t4 + 1, mark, rfl, hS5.same sm, by omega, by omega, fun x cx t10 H10 okx lex a10 b10 atx hS10 k10 => ?_⟩
        refine ⟨p, r, x, cp, cr, cx, rfl, (atp5.same sm).keep k10, ((atr.keep k5).same sm).keep k10, atx, okp, okr, okx, by omega, by omega, by omega, fun H11 sm11 => ?_⟩
        refine ⟨_, rfl, iteF ?_⟩
        exact ⟨t10, _, _, _, _, _, rfl, hS10.same sm11, a10, by omega⟩
    · rintro σ H' _
      exact q _
end
end Bm
namespace Bm
open PySem PySem.Spec PyProof.Rows L2
/-! ### what the top has written; the law's own head -/
theorem all_mk {l : PySem.W.OpenLaw} {w : World} {K : PySem.W.Frag} {h : Heap} {mg : Str → Option Value} {fa f1 f2 f3 f4 f5 f6 f7 f8 f9 f10 f11 f12 f13 f14 f15 f16 f17 f18 : Addr} (X : K.In h) (G : h.Ns mainGlobals mg) (hfa : mg "law" = some (.ref fa))
    {od1 an1 od2 an2 od3 an3 od4 an4 od5 an5 od6 an6 od7 an7 od8 an8 od9 an9 od10 an10 od11 an11 od12 an12 od13 an13 od14 an14 od15 an15 od16 an16 od17 an17 od18 an18 : Option Addr} {sl1 sl2 sl3 sl4 sl5 sl6 sl7 sl8 sl9 sl10 sl11 sl12 sl13 sl14 sl15 sl16 sl17 sl18 : Array (Option Value)} {oc1 kV1 dc1 pm1 cd1 ct1 oc2 kV2 dc2 pm2 cd2 ct2 oc3 kV3 dc3 pm3 cd3 ct3 oc4 kV4 dc4 pm4 cd4 ct4 oc5 kV5 dc5 pm5 cd5 ct5 oc6 kV6 dc6 pm6 cd6 ct6 oc7 kV7 dc7 pm7 cd7 ct7 oc8 kV8 dc8 pm8 cd8 ct8 oc9 kV9 dc9 pm9 cd9 ct9 oc10 kV10 dc10 pm10 cd10 ct10 oc11 kV11 dc11 pm11 cd11 ct11 oc12 kV12 dc12 pm12 cd12 ct12 oc13 kV13 dc13 pm13 cd13 ct13 oc14 kV14 dc14 pm14 cd14 ct14 oc15 kV15 dc15 pm15 cd15 ct15 oc16 kV16 dc16 pm16 cd16 ct16 oc17 kV17 dc17 pm17 cd17 ct17 oc18 kV18 dc18 pm18 cd18 ct18 : Value}
    (a1 : PySem.W.nsIn K mainGlobals "divisor" = some (some (.ref f1))) (l1 : K.lookup f1 = some ⟨oc1, od1, .func (PySem.W.fnOf "divisor" "divisor" (defArgs sDiv) (defBody sDiv) (defScope sDiv) .none kV1 dc1 pm1 an1 cd1 ct1), sl1⟩) (c1 : PySem.W.codeIn K cd1 "divisor" = true) (k1 : PySem.W.keepIn K (.ref f1) = true)
    (a2 : PySem.W.nsIn K mainGlobals "inverse" = some (some (.ref f2))) (l2 : K.lookup f2 = some ⟨oc2, od2, .func (PySem.W.fnOf "inverse" "inverse" (defArgs sInv) (defBody sInv) (defScope sInv) .none kV2 dc2 pm2 an2 cd2 ct2), sl2⟩) (c2 : PySem.W.codeIn K cd2 "inverse" = true) (k2 : PySem.W.keepIn K (.ref f2) = true)
    (a3 : PySem.W.nsIn K mainGlobals "is_integer" = some (some (.ref f3))) (l3 : K.lookup f3 = some ⟨oc3, od3, .func (PySem.W.fnOf "is_integer" "is_integer" (defArgs sIsI) (defBody sIsI) (defScope sIsI) .none kV3 dc3 pm3 an3 cd3 ct3), sl3⟩) (c3 : PySem.W.codeIn K cd3 "is_integer" = true) (k3 : PySem.W.keepIn K (.ref f3) = true)
    (a4 : PySem.W.nsIn K mainGlobals "is_class" = some (some (.ref f4))) (l4 : K.lookup f4 = some ⟨oc4, od4, .func (PySem.W.fnOf "is_class" "is_class" (defArgs sIsC) (defBody sIsC) (defScope sIsC) .none kV4 dc4 pm4 an4 cd4 ct4), sl4⟩) (c4 : PySem.W.codeIn K cd4 "is_class" = true) (k4 : PySem.W.keepIn K (.ref f4) = true)
    (a5 : PySem.W.nsIn K mainGlobals "check_class" = some (some (.ref f5))) (l5 : K.lookup f5 = some ⟨oc5, od5, .func (PySem.W.fnOf "check_class" "check_class" (defArgs sChk) (defBody sChk) (defScope sChk) .none kV5 dc5 pm5 an5 cd5 ct5), sl5⟩) (c5 : PySem.W.codeIn K cd5 "check_class" = true) (k5 : PySem.W.keepIn K (.ref f5) = true)
    (a6 : PySem.W.nsIn K mainGlobals "common" = some (some (.ref f6))) (l6 : K.lookup f6 = some ⟨oc6, od6, .func (PySem.W.fnOf "common" "common" (defArgs sCom) (defBody sCom) (defScope sCom) .none kV6 dc6 pm6 an6 cd6 ct6), sl6⟩) (c6 : PySem.W.codeIn K cd6 "common" = true) (k6 : PySem.W.keepIn K (.ref f6) = true)
    (a7 : PySem.W.nsIn K mainGlobals "meet" = some (some (.ref f7))) (l7 : K.lookup f7 = some ⟨oc7, od7, .func (PySem.W.fnOf "meet" "meet" (defArgs sMee) (defBody sMee) (defScope sMee) .none kV7 dc7 pm7 an7 cd7 ct7), sl7⟩) (c7 : PySem.W.codeIn K cd7 "meet" = true) (k7 : PySem.W.keepIn K (.ref f7) = true)
    (a8 : PySem.W.nsIn K mainGlobals "is_within" = some (some (.ref f8))) (l8 : K.lookup f8 = some ⟨oc8, od8, .func (PySem.W.fnOf "is_within" "is_within" (defArgs sWit) (defBody sWit) (defScope sWit) .none kV8 dc8 pm8 an8 cd8 ct8), sl8⟩) (c8 : PySem.W.codeIn K cd8 "is_within" = true) (k8 : PySem.W.keepIn K (.ref f8) = true)
    (a9 : PySem.W.nsIn K mainGlobals "_law_source" = some (some (.ref f9))) (l9 : K.lookup f9 = some ⟨oc9, od9, .func (PySem.W.fnOf "_law_source" "_law_source" (defArgs sSrc) (defBody sSrc) (defScope sSrc) .none kV9 dc9 pm9 an9 cd9 ct9), sl9⟩) (c9 : PySem.W.codeIn K cd9 "_law_source" = true) (k9 : PySem.W.keepIn K (.ref f9) = true)
    (a10 : PySem.W.nsIn K mainGlobals "_law_draw" = some (some (.ref f10))) (l10 : K.lookup f10 = some ⟨oc10, od10, .func (PySem.W.fnOf "_law_draw" "_law_draw" (defArgs sDrw) (defBody sDrw) (defScope sDrw) .none kV10 dc10 pm10 an10 cd10 ct10), sl10⟩) (c10 : PySem.W.codeIn K cd10 "_law_draw" = true) (k10 : PySem.W.keepIn K (.ref f10) = true)
    (a11 : PySem.W.nsIn K mainGlobals "_law_divisor" = some (some (.ref f11))) (l11 : K.lookup f11 = some ⟨oc11, od11, .func (PySem.W.fnOf "_law_divisor" "_law_divisor" (defArgs sLdv) (defBody sLdv) (defScope sLdv) .none kV11 dc11 pm11 an11 cd11 ct11), sl11⟩) (c11 : PySem.W.codeIn K cd11 "_law_divisor" = true) (k11 : PySem.W.keepIn K (.ref f11) = true)
    (a12 : PySem.W.nsIn K mainGlobals "_law_great" = some (some (.ref f12))) (l12 : K.lookup f12 = some ⟨oc12, od12, .func (PySem.W.fnOf "_law_great" "_law_great" (defArgs sGrt) (defBody sGrt) (defScope sGrt) .none kV12 dc12 pm12 an12 cd12 ct12), sl12⟩) (c12 : PySem.W.codeIn K cd12 "_law_great" = true) (k12 : PySem.W.keepIn K (.ref f12) = true)
    (a13 : PySem.W.nsIn K mainGlobals "_law_modulus" = some (some (.ref f13))) (l13 : K.lookup f13 = some ⟨oc13, od13, .func (PySem.W.fnOf "_law_modulus" "_law_modulus" (defArgs sMod) (defBody sMod) (defScope sMod) .none kV13 dc13 pm13 an13 cd13 ct13), sl13⟩) (c13 : PySem.W.codeIn K cd13 "_law_modulus" = true) (k13 : PySem.W.keepIn K (.ref f13) = true)
    (a14 : PySem.W.nsIn K mainGlobals "_law_class" = some (some (.ref f14))) (l14 : K.lookup f14 = some ⟨oc14, od14, .func (PySem.W.fnOf "_law_class" "_law_class" (defArgs sCls) (defBody sCls) (defScope sCls) .none kV14 dc14 pm14 an14 cd14 ct14), sl14⟩) (c14 : PySem.W.codeIn K cd14 "_law_class" = true) (k14 : PySem.W.keepIn K (.ref f14) = true)
    (a15 : PySem.W.nsIn K mainGlobals "_law_lies" = some (some (.ref f15))) (l15 : K.lookup f15 = some ⟨oc15, od15, .func (PySem.W.fnOf "_law_lies" "_law_lies" (defArgs sLie) (defBody sLie) (defScope sLie) .none kV15 dc15 pm15 an15 cd15 ct15), sl15⟩) (c15 : PySem.W.codeIn K cd15 "_law_lies" = true) (k15 : PySem.W.keepIn K (.ref f15) = true)
    (a16 : PySem.W.nsIn K mainGlobals "_law_fits" = some (some (.ref f16))) (l16 : K.lookup f16 = some ⟨oc16, od16, .func (PySem.W.fnOf "_law_fits" "_law_fits" (defArgs sFit) (defBody sFit) (defScope sFit) .none kV16 dc16 pm16 an16 cd16 ct16), sl16⟩) (c16 : PySem.W.codeIn K cd16 "_law_fits" = true) (k16 : PySem.W.keepIn K (.ref f16) = true)
    (a17 : PySem.W.nsIn K mainGlobals "_law_three_fit" = some (some (.ref f17))) (l17 : K.lookup f17 = some ⟨oc17, od17, .func (PySem.W.fnOf "_law_three_fit" "_law_three_fit" (defArgs sThr) (defBody sThr) (defScope sThr) .none kV17 dc17 pm17 an17 cd17 ct17), sl17⟩) (c17 : PySem.W.codeIn K cd17 "_law_three_fit" = true) (k17 : PySem.W.keepIn K (.ref f17) = true)
    (a18 : PySem.W.nsIn K mainGlobals "law" = some (some (.ref f18))) (l18 : K.lookup f18 = some ⟨oc18, od18, .func (PySem.W.fnOf "law" "law" (defArgs sLaw) (defBody sLaw) (defScope sLaw) .none kV18 dc18 pm18 an18 cd18 ct18), sl18⟩) (c18 : PySem.W.codeIn K cd18 "law" = true) (k18 : PySem.W.keepIn K (.ref f18) = true)
    (z1 : PySem.W.nsIn K mainGlobals "isinstance" = some none) (z2 : PySem.W.nsIn K mainGlobals "int" = some none) (z3 : PySem.W.nsIn K mainGlobals "bool" = some none) (z4 : PySem.W.nsIn K mainGlobals "tuple" = some none) (z5 : PySem.W.nsIn K mainGlobals "len" = some none) (z6 : PySem.W.nsIn K mainGlobals "abs" = some none) (z7 : PySem.W.nsIn K mainGlobals "range" = some none) :
    ∃ fd : FuncData, (∀ (s : Shared) (v : Value), BindsTo s fd ⟨[v], []⟩ [("_law_script", v)]) ∧ ∀ base : Heap, K.In base → base.Ns mainGlobals mg → FnOk l.prog w K mg base CX0 6 fa fd ["_law_script"] (spLaw K) := by
  have e := hfa.symm.trans (PySem.W.mg_of X G a18)
  cases e
  have B : Blt mg := ⟨PySem.W.mg_none_of X G z1, PySem.W.mg_none_of X G z2, PySem.W.mg_none_of X G z3, PySem.W.mg_none_of X G z4, PySem.W.mg_none_of X G z5, PySem.W.mg_none_of X G z6, PySem.W.mg_none_of X G z7⟩
  have F1 := fun_mk (st := sDiv) l1 c1 k1
  have b1 := F1.binds (ps := ["one", "other"]) fun _ _ _ _ _ _ us hl => match us, hl with | [_, _], _ => rfl
  have F2 := fun_mk (st := sInv) l2 c2 k2
  have b2 := F2.binds (ps := ["value", "modulus"]) fun _ _ _ _ _ _ us hl => match us, hl with | [_, _], _ => rfl
  have F3 := fun_mk (st := sIsI) l3 c3 k3
  have b3 := F3.binds (ps := ["value"]) fun _ _ _ _ _ _ us hl => match us, hl with | [_], _ => rfl
  have F4 := fun_mk (st := sIsC) l4 c4 k4
  have b4 := F4.binds (ps := ["value"]) fun _ _ _ _ _ _ us hl => match us, hl with | [_], _ => rfl
  have F5 := fun_mk (st := sChk) l5 c5 k5
  have b5 := F5.binds (ps := ["value"]) fun _ _ _ _ _ _ us hl => match us, hl with | [_], _ => rfl
  have F6 := fun_mk (st := sCom) l6 c6 k6
  have b6 := F6.binds (ps := ["one", "other"]) fun _ _ _ _ _ _ us hl => match us, hl with | [_, _], _ => rfl
  have F7 := fun_mk (st := sMee) l7 c7 k7
  have b7 := F7.binds (ps := ["one", "other"]) fun _ _ _ _ _ _ us hl => match us, hl with | [_, _], _ => rfl
  have F8 := fun_mk (st := sWit) l8 c8 k8
  have b8 := F8.binds (ps := ["one", "other"]) fun _ _ _ _ _ _ us hl => match us, hl with | [_, _], _ => rfl
  have F9 := fun_mk (st := sSrc) l9 c9 k9
  have b9 := F9.binds (ps := ["_law_script"]) fun _ _ _ _ _ _ us hl => match us, hl with | [_], _ => rfl
  have F10 := fun_mk (st := sDrw) l10 c10 k10
  have b10 := F10.binds (ps := ["_law_source_here", "_law_limit"]) fun _ _ _ _ _ _ us hl => match us, hl with | [_, _], _ => rfl
  have F11 := fun_mk (st := sLdv) l11 c11 k11
  have b11 := F11.binds (ps := ["_law_one", "_law_other"]) fun _ _ _ _ _ _ us hl => match us, hl with | [_, _], _ => rfl
  have F12 := fun_mk (st := sGrt) l12 c12 k12
  have b12 := F12.binds (ps := ["_law_source_here", "_law_digits"]) fun _ _ _ _ _ _ us hl => match us, hl with | [_, _], _ => rfl
  have F13 := fun_mk (st := sMod) l13 c13 k13
  have b13 := F13.binds (ps := ["_law_source_here"]) fun _ _ _ _ _ _ us hl => match us, hl with | [_], _ => rfl
  have F14 := fun_mk (st := sCls) l14 c14 k14
  have b14 := F14.binds (ps := ["_law_source_here", "_law_mark"]) fun _ _ _ _ _ _ us hl => match us, hl with | [_, _], _ => rfl
  have F15 := fun_mk (st := sLie) l15 c15 k15
  have b15 := F15.binds (ps := ["_law_mark", "_law_one"]) fun _ _ _ _ _ _ us hl => match us, hl with | [_, _], _ => rfl
  have F16 := fun_mk (st := sFit) l16 c16 k16
  have b16 := F16.binds (ps := ["_law_one", "_law_other"]) fun _ _ _ _ _ _ us hl => match us, hl with | [_, _], _ => rfl
  have F17 := fun_mk (st := sThr) l17 c17 k17
  have b17 := F17.binds (ps := ["_law_first", "_law_second", "_law_third"]) fun _ _ _ _ _ _ us hl => match us, hl with | [_, _, _], _ => rfl
  have F18 := fun_mk (st := sLaw) l18 c18 k18
  refine ⟨PySem.W.fnOf "law" "law" (defArgs sLaw) (defBody sLaw) (defScope sLaw) .none kV18 dc18 pm18 an18 cd18 ct18, fun s v => .of_eq rfl, fun base _ _ => ?_⟩
  have C1 : Cl l.prog w K mg base 1 "divisor" ["one", "other"] spDiv f1 _ := ⟨ok_div F1, PySem.W.mg_of X G a1, F1.kp, b1⟩
  have C2 : Cl l.prog w K mg base 1 "inverse" ["value", "modulus"] spInv f2 _ := ⟨ok_inv F2, PySem.W.mg_of X G a2, F2.kp, b2⟩
  have C3 : Cl l.prog w K mg base 1 "is_integer" ["value"] spIsI f3 _ := ⟨ok_isI F3 B, PySem.W.mg_of X G a3, F3.kp, b3⟩
  have C4 : Cl l.prog w K mg base 2 "is_class" ["value"] spIsC f4 _ := ⟨ok_isC F4 B C3, PySem.W.mg_of X G a4, F4.kp, b4⟩
  have C5 : Cl l.prog w K mg base 3 "check_class" ["value"] spChk f5 _ := ⟨ok_chk F5 C4, PySem.W.mg_of X G a5, F5.kp, b5⟩
  have C6 : Cl l.prog w K mg base 2 "common" ["one", "other"] spCom f6 _ := ⟨ok_com F6 C1 C2, PySem.W.mg_of X G a6, F6.kp, b6⟩
  have C7 : Cl l.prog w K mg base 4 "meet" ["one", "other"] spCom f7 _ := ⟨ok_mee F7 C5 C6, PySem.W.mg_of X G a7, F7.kp, b7⟩
  have C8 : Cl l.prog w K mg base 4 "is_within" ["one", "other"] spWit f8 _ := ⟨ok_wit F8 C5, PySem.W.mg_of X G a8, F8.kp, b8⟩
  have C9 : Cl l.prog w K mg base 1 "_law_source" ["_law_script"] (spSrc K) f9 _ := ⟨ok_src F9 B, PySem.W.mg_of X G a9, F9.kp, b9⟩
  have C10 : Cl l.prog w K mg base 1 "_law_draw" ["_law_source_here", "_law_limit"] spDrw f10 _ := ⟨ok_drw F10 B, PySem.W.mg_of X G a10, F10.kp, b10⟩
  have C11 : Cl l.prog w K mg base 1 "_law_divisor" ["_law_one", "_law_other"] spDiv f11 _ := ⟨ok_ldv F11 B, PySem.W.mg_of X G a11, F11.kp, b11⟩
  have C12 : Cl l.prog w K mg base 2 "_law_great" ["_law_source_here", "_law_digits"] spGrt f12 _ := ⟨ok_grt F12 B C10, PySem.W.mg_of X G a12, F12.kp, b12⟩
  have C13 : Cl l.prog w K mg base 3 "_law_modulus" ["_law_source_here"] spMod f13 _ := ⟨ok_mod F13 C10 C12, PySem.W.mg_of X G a13, F13.kp, b13⟩
  have C14 : Cl l.prog w K mg base 4 "_law_class" ["_law_source_here", "_law_mark"] spCls f14 _ := ⟨ok_cls F14 B C10 C12 C13, PySem.W.mg_of X G a14, F14.kp, b14⟩
  have C15 : Cl l.prog w K mg base 1 "_law_lies" ["_law_mark", "_law_one"] spLie f15 _ := ⟨ok_lie F15 B, PySem.W.mg_of X G a15, F15.kp, b15⟩
  have C16 : Cl l.prog w K mg base 5 "_law_fits" ["_law_one", "_law_other"] spFit f16 _ := ⟨ok_fit F16 B C7 C8 C11 C15, PySem.W.mg_of X G a16, F16.kp, b16⟩
  have C17 : Cl l.prog w K mg base 5 "_law_three_fit" ["_law_first", "_law_second", "_law_third"] spThr f17 _ := ⟨ok_thr F17 C7, PySem.W.mg_of X G a17, F17.kp, b17⟩
  exact ok_law F18 B C9 C12 C14 C10 C16 C17
end Bm
open PySem PySem.W PyProof.Rows
set_option maxRecDepth 100000 in
set_option maxHeartbeats 0 in
theorem PySem.Challenge.cw_bymarks_k02_whole_meets_holds : PySem.Challenge.rw_bymarks_k02_whole_meets.Holds := by
  w_on; o_law; k_head; (case hw => w_witness2)
  k_fill
  refine L2.walk_of (l := PySem.Challenge.rw_bymarks_k02_whole_meets) (n := 63) (k := 6) (x := "_law_script") (CX := fun _ => L2.CX0) (sp := fun w => Bm.spLaw _) rfl (by decide) rfl ⟨rfl, by decide, by decide⟩ (fun w h Y => PySem.W.kIn_of Y) ?F (fun _ _ a ns hl _ hS => ⟨a, ns, rfl, hS, hl, fun _ => rfl⟩) (fun _ _ _ _ _ h => h)
  case F =>
    intro w mg fa h KX G hmg
    refine' Bm.all_mk KX G hmg ?a1 ?l1 ?c1 ?k1 ?a2 ?l2 ?c2 ?k2 ?a3 ?l3 ?c3 ?k3 ?a4 ?l4 ?c4 ?k4 ?a5 ?l5 ?c5 ?k5 ?a6 ?l6 ?c6 ?k6 ?a7 ?l7 ?c7 ?k7 ?a8 ?l8 ?c8 ?k8 ?a9 ?l9 ?c9 ?k9 ?a10 ?l10 ?c10 ?k10 ?a11 ?l11 ?c11 ?k11 ?a12 ?l12 ?c12 ?k12 ?a13 ?l13 ?c13 ?k13 ?a14 ?l14 ?c14 ?k14 ?a15 ?l15 ?c15 ?k15 ?a16 ?l16 ?c16 ?k16 ?a17 ?l17 ?c17 ?k17 ?a18 ?l18 ?c18 ?k18 ?z1 ?z2 ?z3 ?z4 ?z5 ?z6 ?z7
    (case a1 => k_is); (case l1 => k_is); (case c1 => k_is); (case k1 => k_is); (case a2 => k_is); (case l2 => k_is); (case c2 => k_is); (case k2 => k_is)
    (case a3 => k_is); (case l3 => k_is); (case c3 => k_is); (case k3 => k_is); (case a4 => k_is); (case l4 => k_is); (case c4 => k_is); (case k4 => k_is)
    (case a5 => k_is); (case l5 => k_is); (case c5 => k_is); (case k5 => k_is); (case a6 => k_is); (case l6 => k_is); (case c6 => k_is); (case k6 => k_is)
    (case a7 => k_is); (case l7 => k_is); (case c7 => k_is); (case k7 => k_is); (case a8 => k_is); (case l8 => k_is); (case c8 => k_is); (case k8 => k_is)
    (case a9 => k_is); (case l9 => k_is); (case c9 => k_is); (case k9 => k_is); (case a10 => k_is); (case l10 => k_is); (case c10 => k_is); (case k10 => k_is)
    (case a11 => k_is); (case l11 => k_is); (case c11 => k_is); (case k11 => k_is); (case a12 => k_is); (case l12 => k_is); (case c12 => k_is); (case k12 => k_is)
    (case a13 => k_is); (case l13 => k_is); (case c13 => k_is); (case k13 => k_is); (case a14 => k_is); (case l14 => k_is); (case c14 => k_is); (case k14 => k_is)
    (case a15 => k_is); (case l15 => k_is); (case c15 => k_is); (case k15 => k_is); (case a16 => k_is); (case l16 => k_is); (case c16 => k_is); (case k16 => k_is)
    (case a17 => k_is); (case l17 => k_is); (case c17 => k_is); (case k17 => k_is); (case a18 => k_is); (case l18 => k_is); (case c18 => k_is); (case k18 => k_is)
    (case z1 => k_is); (case z2 => k_is); (case z3 => k_is); (case z4 => k_is); (case z5 => k_is); (case z6 => k_is); (case z7 => k_is)
