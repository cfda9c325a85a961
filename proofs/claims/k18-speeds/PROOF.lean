import PyProof.Rows.All
import Wide.All
import OpenK.AllK
import Wide.FinOn
import KE.KStateDown
import HandS.ForExc
import HandS.ForMost
import HandS.Defaults
import HandS.IsInst
import HandS.Wide
import HandS.Gcd
import HandS.Walk
import HandS.Zip
import HandS.OwnEq
import HandS.ExcInit
import HandS.ExcField
import HandS.TryMany
import HandS.Flow
import HandS.Lambda
import HandS.EndBits
import HandS.EndTab
import HandS.Nested
import HandS.CallRecv
import HandS.Codes
import HandS.Head0
import HandS.Head1
import HandS.Head2
import HandS.Head3
import HandS.HeadEnd
import HandS.HeadHook1
import HandS.HeadHook2
import HandS.HeadHook3
import HandS.HeadHook4
import HandS.HeadWalk
import PySem.Challenge.RW_borderflow_k18_whole_speeds
set_option Elab.async false
set_option linter.all false
set_option maxRecDepth 100000
set_option maxHeartbeats 4000000
/-! ## Numbers as products of powers of primes -/
namespace BF
/-- the product of ps' powers, a negative power left out -/
def nu : List Nat → List Int → Nat
  | p :: ps, e :: es => p ^ e.toNat * nu ps es
  | _, _ => 1
def ng (e : List Int) : List Int := e.map fun x => -x
def ad (e f : List Int) : List Int := List.zipWith (fun x y => x + y) e f
def sc (k : Int) (e : List Int) : List Int := e.map fun x => k * x
def PC : List Nat → Prop
  | [] => True
  | p :: ps => (1 < p ∧ p ≤ 64 ∧ ∀ q ∈ ps, Nat.Coprime p q) ∧ PC ps
def PCb : List Nat → Bool
  | [] => true
  | p :: ps => decide (1 < p) && (decide (p ≤ 64) && (ps.all (fun q => decide (Nat.gcd p q = 1)) && PCb ps))
theorem PC.ofb : ∀ {ps : List Nat}, PCb ps = true → PC ps
  | [], _ => trivial
  | p :: ps, h => by
    unfold PCb at h
    rw [Bool.and_eq_true, Bool.and_eq_true, Bool.and_eq_true] at h
    exact ⟨⟨of_decide_eq_true h.1, of_decide_eq_true h.2.1, fun q hq => of_decide_eq_true (List.all_eq_true.mp h.2.2.1 q hq)⟩, PC.ofb h.2.2.2⟩
theorem nu_pos : ∀ {ps : List Nat} {e : List Int}, PC ps → 0 < nu ps e
  | [], _, _ => Nat.one_pos
  | _ :: _, [], _ => Nat.one_pos
  | p :: ps, e :: es, h => Nat.mul_pos (Nat.pow_pos (by have := h.1.1; omega)) (nu_pos h.2)
theorem nu_cop1 {p : Nat} : ∀ {ps : List Nat} {e : List Int}, (∀ q ∈ ps, Nat.Coprime p q) → Nat.Coprime p (nu ps e)
  | [], _, _ => Nat.coprime_one_right _
  | _ :: _, [], _ => Nat.coprime_one_right _
  | q :: ps, e :: es, h => Nat.Coprime.mul_right (Nat.Coprime.pow_right _ (h q (by simp))) (nu_cop1 fun x hx => h x (by simp [hx]))
theorem nu_cop : ∀ {ps : List Nat} {e : List Int}, PC ps → Nat.Coprime (nu ps e) (nu ps (ng e))
  | [], _, _ => Nat.coprime_one_left _
  | _ :: _, [], _ => Nat.coprime_one_left _
  | p :: ps, e :: es, h => by
    have c1 : ∀ f : List Int, Nat.Coprime p (nu ps f) := fun f => nu_cop1 h.1.2.2
    have ih := nu_cop (e := es) h.2
    show Nat.Coprime (p ^ e.toNat * nu ps es) (p ^ (-e).toNat * nu ps (ng es))
    rcases Int.le_total e 0 with q | q
    · have : e.toNat = 0 := by omega
      rw [this, Nat.pow_zero, Nat.one_mul]
      exact Nat.Coprime.mul_right ((Nat.Coprime.pow_left _ (c1 es)).symm) ih
    · have : (-e).toNat = 0 := by omega
      rw [this, Nat.pow_zero, Nat.one_mul]
      exact Nat.Coprime.mul_left (Nat.Coprime.pow_left _ (c1 _)) ih
theorem nu_one : ∀ {ps : List Nat} {e : List Int}, (∀ x ∈ e, x ≤ 0) → nu ps e = 1
  | [], _, _ => rfl
  | _ :: _, [], _ => rfl
  | p :: ps, e :: es, h => by
    have h1 : e.toNat = 0 := by have := h e (by simp); omega
    show p ^ e.toNat * nu ps es = 1
    rw [h1, nu_one fun x hx => h x (by simp [hx])]
    rfl
theorem nu_le {m : Nat} : ∀ {ps : List Nat} {e : List Int}, PC ps → (∀ x ∈ e, x ≤ (m : Int)) → nu ps e ≤ 64 ^ (m * ps.length)
  | [], _, _, _ => by simp [nu]
  | _ :: _, [], _, _ => Nat.pow_pos (by decide)
  | p :: ps, e :: es, h, hm => by
    show p ^ e.toNat * nu ps es ≤ 64 ^ (m * (ps.length + 1))
    rw [Nat.mul_succ, Nat.add_comm, Nat.pow_add]
    refine Nat.mul_le_mul ?_ (nu_le h.2 fun x hx => hm x (by simp [hx]))
    have h1 : e.toNat ≤ m := by have := hm e (by simp); omega
    exact Nat.le_trans (Nat.pow_le_pow_left h.1.2.1 _) (Nat.pow_le_pow_right (by decide) h1)
theorem nu_lt {m b : Nat} {ps : List Nat} {e : List Int} (h : PC ps) (hm : ∀ x ∈ e, x ≤ (m : Int)) (hb : 6 * (m * ps.length) < b) : nu ps e < 2 ^ b := by
  refine Nat.lt_of_le_of_lt (nu_le h hm) ?_
  have e1 : (64 : Nat) = 2 ^ 6 := rfl
  rw [e1, ← Nat.pow_mul]
  exact Nat.pow_lt_pow_right (by decide) hb
/-- two numbers with powers e, f: their product, cut short by g -/
theorem nu_mul {m : Nat} : ∀ {ps : List Nat} {e f : List Int}, PC ps → e.length = f.length → (∀ (i : Nat) (x y : Int), e[i]? = some x → f[i]? = some y → (-(m : Int) ≤ x ∧ x ≤ m) ∨ (-(m : Int) ≤ y ∧ y ≤ m)) →
    ∃ g, 0 < g ∧ g ≤ 64 ^ (m * ps.length) ∧ nu ps e * nu ps f = g * nu ps (ad e f) ∧ nu ps (ng e) * nu ps (ng f) = g * nu ps (ng (ad e f))
  | [], _, _, _, _, _ => ⟨1, by decide, by simp, by simp [nu], by simp [nu]⟩
  | p :: ps, [], [], _, _, _ => ⟨1, by decide, Nat.pow_pos (by decide), by simp [nu, ad], by simp [nu, ad, ng]⟩
  | p :: ps, [], _ :: _, _, h, _ => by simp at h
  | p :: ps, _ :: _, [], _, h, _ => by simp at h
  | p :: ps, x :: e, y :: f, h, hl, hm => by
    obtain ⟨g, g0, g1, h1, h2⟩ := nu_mul (m := m) (e := e) (f := f) h.2 (by simpa using hl) (fun i x y hx hy => hm (i + 1) x y (by simpa using hx) (by simpa using hy))
    have hxy := hm 0 x y rfl rfl
    obtain ⟨t, ht⟩ : ∃ t : Nat, t = x.toNat + y.toNat - (x + y).toNat := ⟨_, rfl⟩
    have e1 : x.toNat + y.toNat = t + (x + y).toNat := by omega
    have e2 : (-x).toNat + (-y).toNat = t + (-(x + y)).toNat := by omega
    have tm : t ≤ m := by omega
    refine ⟨p ^ t * g, Nat.mul_pos (Nat.pow_pos (by have := h.1.1; omega)) g0, ?_, ?_, ?_⟩
    · show p ^ t * g ≤ 64 ^ (m * (ps.length + 1))
      rw [Nat.mul_succ, Nat.add_comm, Nat.pow_add]
      exact Nat.mul_le_mul (Nat.le_trans (Nat.pow_le_pow_left h.1.2.1 _) (Nat.pow_le_pow_right (by decide) tm)) g1
    · show p ^ x.toNat * nu ps e * (p ^ y.toNat * nu ps f) = p ^ t * g * (p ^ (x + y).toNat * nu ps (ad e f))
      rw [show p ^ x.toNat * nu ps e * (p ^ y.toNat * nu ps f) = (p ^ x.toNat * p ^ y.toNat) * (nu ps e * nu ps f) from by ac_rfl, ← Nat.pow_add, e1, h1, Nat.pow_add]
      ac_rfl
    · show p ^ (-x).toNat * nu ps (ng e) * (p ^ (-y).toNat * nu ps (ng f)) = p ^ t * g * (p ^ (-(x + y)).toNat * nu ps (ng (ad e f)))
      rw [show p ^ (-x).toNat * nu ps (ng e) * (p ^ (-y).toNat * nu ps (ng f)) = (p ^ (-x).toNat * p ^ (-y).toNat) * (nu ps (ng e) * nu ps (ng f)) from by ac_rfl, ← Nat.pow_add, e2, h2, Nat.pow_add]
      ac_rfl
theorem nu_pow {k : Nat} : ∀ {ps : List Nat} {e : List Int}, nu ps e ^ k = nu ps (sc k e)
  | [], _ => by simp [nu]
  | _ :: _, [] => by simp [nu, sc]
  | p :: ps, e :: es => by
    show (p ^ e.toNat * nu ps es) ^ k = p ^ ((k : Int) * e).toNat * nu ps (sc k es)
    rw [Nat.mul_pow, nu_pow, ← Nat.pow_mul]
    congr 2
    rcases Int.le_total e 0 with q | q
    · have h1 : e.toNat = 0 := by omega
      have h2 : (k : Int) * e ≤ 0 := Int.mul_nonpos_of_nonneg_of_nonpos (by omega) q
      rw [h1]
      omega
    · obtain ⟨n, rfl⟩ := Int.eq_ofNat_of_zero_le q
      rw [← Int.natCast_mul, Int.toNat_natCast, Int.toNat_natCast, Nat.mul_comm]
theorem nu_at : ∀ {ps : List Nat} {e : List Int} {i p : Nat} {x : Int}, PC ps → ps[i]? = some p → e[i]? = some x → ∃ r, nu ps e = p ^ x.toNat * r ∧ Nat.Coprime p r
  | [], _, _, _, _, _, h, _ => by simp at h
  | _ :: _, [], _, _, _, _, _, h => by simp at h
  | q :: ps, y :: es, 0, p, x, h, hp, hx => by
    simp at hp hx
    subst hp hx
    exact ⟨nu ps es, rfl, nu_cop1 h.1.2.2⟩
  | q :: ps, y :: es, i + 1, p, x, h, hp, hx => by
    simp at hp hx
    obtain ⟨r, e1, c⟩ := nu_at (i := i) h.2 hp hx
    refine ⟨q ^ y.toNat * r, ?_, Nat.Coprime.mul_right ?_ c⟩
    · show q ^ y.toNat * nu ps es = _
      rw [e1]
      ac_rfl
    · exact (Nat.Coprime.pow_left _ (h.1.2.2 p (List.mem_of_getElem? hp))).symm
/-- p's power in a number is one alone -/
theorem val_eq {p a b r s : Nat} (hp : 1 < p) (h : p ^ a * r = p ^ b * s) (cr : Nat.Coprime p r) (cs : Nat.Coprime p s) : a = b := by
  have key : ∀ {a b r s : Nat}, p ^ a * r = p ^ b * s → Nat.Coprime p r → ¬ a < b := fun {a b r s} h cr hl => by
    obtain ⟨d, rfl⟩ : ∃ d, b = a + (d + 1) := ⟨b - a - 1, by omega⟩
    rw [Nat.pow_add, Nat.mul_assoc] at h
    have h2 := Nat.eq_of_mul_eq_mul_left (Nat.pow_pos (by omega)) h
    have h3 : p ∣ r := ⟨p ^ d * s, by rw [h2, Nat.pow_succ]; ac_rfl⟩
    have := Nat.Coprime.eq_one_of_dvd cr h3
    omega
  have h1 := key h cr
  have h2 := key h.symm cs
  omega
theorem nu_inj {ps : List Nat} {e f : List Int} (h : PC ps) (le : e.length = ps.length) (lf : f.length = ps.length) (h1 : nu ps e = nu ps f) (h2 : nu ps (ng e) = nu ps (ng f)) : e = f := by
  refine List.ext_getElem? fun i => ?_
  rcases Nat.lt_or_ge i ps.length with q | q
  · have hp : ps[i]? = some ps[i] := List.getElem?_eq_getElem q
    have hx : e[i]? = some e[i] := List.getElem?_eq_getElem (by omega)
    have hy : f[i]? = some f[i] := List.getElem?_eq_getElem (by omega)
    have hnx : (ng e)[i]? = some (-e[i]) := by rw [ng, List.getElem?_map, hx]; rfl
    have hny : (ng f)[i]? = some (-f[i]) := by rw [ng, List.getElem?_map, hy]; rfl
    obtain ⟨r1, a1, c1⟩ := nu_at h hp hx
    obtain ⟨r2, a2, c2⟩ := nu_at h hp hy
    obtain ⟨r3, a3, c3⟩ := nu_at h hp hnx
    obtain ⟨r4, a4, c4⟩ := nu_at h hp hny
    have pp : ∀ {ps : List Nat} {i : Nat} {p : Nat}, PC ps → ps[i]? = some p → 1 < p := by
      intro ps
      induction ps with
      | nil => intro i p _ h; simp at h
      | cons q ps ih =>
        intro i p hc h
        cases i with
        | zero => simp at h; subst h; exact hc.1.1
        | succ i => exact ih hc.2 (by simpa using h)
    have p1 := pp h hp
    have v1 := val_eq p1 (a1.symm.trans (h1.trans a2)) c1 c2
    have v2 := val_eq p1 (a3.symm.trans (h2.trans a4)) c3 c4
    rw [hx, hy]
    congr 1
    omega
  · rw [List.getElem?_eq_none (by omega), List.getElem?_eq_none (by omega)]
theorem PC.at : ∀ {ps : List Nat} {i : Nat} {p : Nat}, PC ps → ps[i]? = some p → 1 < p ∧ p ≤ 64 := by
  intro ps
  induction ps with
  | nil => intro i p _ h; simp at h
  | cons q ps ih =>
    intro i p hc h
    cases i with
    | zero => simp at h; subst h; exact ⟨hc.1.1, hc.1.2.1⟩
    | succ i => exact ih hc.2 (by simpa using h)
end BF
/-! ## Speeds: what the signs' and the flows' powers tell -/
namespace BF
def gt0 (l : List Int) (k : Nat) : Int := l.getD k 0
def fz (l : List Int) : Option Nat := (List.range 18).find? fun k => decide (gt0 l k ≠ 0)
def fb (u v : List Int) (i : Nat) : Option Nat := (List.range 18).find? fun k => decide (gt0 u k * gt0 v i ≠ gt0 u i * gt0 v k)
inductive Out where
  | ok (t c : Int)
  | err (p q : Nat)
def sgn (x : Int) : Int := if 0 < x then 1 else -1
def spd (u v : List Int) : Out := match fz v with
  | none => match fz u with
    | none => .ok 1 0
    | some j => .err j j
  | some i => match fb u v i with
    | some k => .err i k
    | none => if gt0 u i = 0 then .ok 1 0 else .ok (((gt0 v i).natAbs : Int) / (Nat.gcd (gt0 u i).natAbs (gt0 v i).natAbs : Nat)) (gt0 u i * sgn (gt0 v i) / (Nat.gcd (gt0 u i).natAbs (gt0 v i).natAbs : Nat))
theorem find_none {p : Nat → Bool} {n : Nat} : (List.range n).find? p = none ↔ ∀ k, k < n → p k = false := by
  rw [List.find?_eq_none]
  exact ⟨fun h k hk => by simpa using h k (List.mem_range.mpr hk), fun h k hk => by simp [h k (List.mem_range.mp hk)]⟩
theorem find_some {p : Nat → Bool} {n i : Nat} (h1 : i < n) (h2 : p i = true) (h3 : ∀ k, k < i → p k = false) : (List.range n).find? p = some i := by
  rw [List.find?_range_eq_some]
  exact ⟨h2, List.mem_range.mpr h1, fun j hj => by rw [h3 j hj]; rfl⟩
theorem some_find {p : Nat → Bool} {n i : Nat} (h : (List.range n).find? p = some i) : i < n ∧ p i = true ∧ ∀ k, k < i → p k = false := by
  rw [List.find?_range_eq_some] at h
  exact ⟨List.mem_range.mp h.2.1, h.1, fun k hk => by simpa using h.2.2 k hk⟩
theorem spd_zero {u v : List Int} (h : ∀ k, k < 18 → gt0 u k = 0) : spd u v = .ok 1 0 := by
  have hu : fz u = none := find_none.mpr fun k hk => decide_eq_false fun z => z (h k hk)
  unfold spd
  split
  · rw [hu]
  · rename_i i hi
    have hi := some_find hi
    have hb : fb u v i = none := find_none.mpr fun k hk => decide_eq_false fun z => z (by rw [h k hk, h i hi.1, Int.zero_mul, Int.zero_mul])
    rw [hb, if_pos (h i hi.1)]
theorem spd_none {u v : List Int} {j : Nat} (h : fz v = none) (hj : fz u = some j) : spd u v = .err j j := by
  unfold spd
  rw [h, hj]
theorem spd_bad {u v : List Int} {i k : Nat} (h : fz v = some i) (hk : fb u v i = some k) : spd u v = .err i k := by
  unfold spd
  rw [h]
  simp only [hk]
theorem gcd_ne {a b : Int} (h : b ≠ 0) : Nat.gcd a.natAbs b.natAbs ≠ 0 := fun z => by
  have := Nat.eq_zero_of_gcd_eq_zero_right z
  omega
theorem spd_good {u v : List Int} {i : Nat} (h : fz v = some i) (hk : fb u v i = none) (hu : ¬ ∀ k, k < 18 → gt0 u k = 0) (c : Int) (hc : c = if gt0 v i < 0 then -((Nat.gcd (gt0 v i).natAbs (gt0 u i).natAbs : Nat) : Int) else (Nat.gcd (gt0 v i).natAbs (gt0 u i).natAbs : Nat)) :
    spd u v = .ok ((gt0 v i).fdiv c) ((gt0 u i).fdiv c) := by
  have hi := some_find h
  have vi : gt0 v i ≠ 0 := of_decide_eq_true hi.2.1
  have hb := find_none.mp hk
  have ui : gt0 u i ≠ 0 := fun z => hu fun k hk => by
    have h1 := of_decide_eq_false (hb k hk)
    rw [z, Int.zero_mul] at h1
    have h2 : gt0 u k * gt0 v i = 0 := Decidable.not_not.mp h1
    rcases Int.mul_eq_zero.mp h2 with h3 | h3
    · exact h3
    · exact absurd h3 vi
  unfold spd
  rw [h]
  simp only [hk]
  rw [if_neg ui, Nat.gcd_comm]
  generalize gt0 v i = a at *
  generalize gt0 u i = b at *
  have g0 := gcd_ne (a := b) vi
  rw [Nat.gcd_comm] at g0
  have d1 : ((Nat.gcd a.natAbs b.natAbs : Nat) : Int) ∣ a := Int.ofNat_dvd_left.mpr (Nat.gcd_dvd_left ..)
  have d2 : ((Nat.gcd a.natAbs b.natAbs : Nat) : Int) ∣ b := Int.ofNat_dvd_left.mpr (Nat.gcd_dvd_right ..)
  generalize Nat.gcd a.natAbs b.natAbs = g at *
  obtain ⟨a', rfl⟩ := d1
  obtain ⟨b', rfl⟩ := d2
  have gp : (0 : Int) < g := by omega
  have dd : ∀ x : Int, c ∣ (g : Int) * x := fun x => by
    rw [hc]
    split
    · exact Int.neg_dvd.mpr ⟨x, rfl⟩
    · exact ⟨x, rfl⟩
  rw [Int.fdiv_eq_ediv_of_dvd (dd a'), Int.fdiv_eq_ediv_of_dvd (dd b'), hc]
  have gn : (g : Int) ≠ 0 := by omega
  unfold sgn
  by_cases hs : (g : Int) * a' < 0
  · rw [if_neg (by omega), if_pos hs, Int.ediv_neg, Int.ediv_neg, Int.mul_ediv_cancel_left _ gn, Int.mul_ediv_cancel_left _ gn, Int.mul_neg_one, ← Int.mul_neg, Int.mul_ediv_cancel_left _ gn]
    congr 1
    rw [show (((g : Int) * a').natAbs : Int) = (g : Int) * (-a') from by rw [Int.mul_neg]; omega, Int.mul_ediv_cancel_left _ gn]
  · rw [if_pos (by omega), if_neg hs, Int.mul_one, Int.mul_ediv_cancel_left _ gn, Int.mul_ediv_cancel_left _ gn]
    congr 1
    rw [show (((g : Int) * a').natAbs : Int) = (g : Int) * a' from by omega, Int.mul_ediv_cancel_left _ gn]
/-! ### lists of eighteen -/
def zr : List Int := List.replicate 18 0
def sb (e f : List Int) : List Int := ad e (ng f)
theorem sb_eq (e f : List Int) : List.zipWith (fun x y => x - y) e f = sb e f := by
  unfold sb ad ng
  rw [List.zipWith_map_right]
  rfl
theorem sb_len {e f : List Int} (h1 : e.length = 18) (h2 : f.length = 18) : (sb e f).length = 18 := by
  unfold sb ad ng
  rw [List.length_zipWith, List.length_map, h1, h2]
  rfl
theorem zr_iff {l : List Int} (h : l.length = 18) : l = zr ↔ ∀ k, k < 18 → gt0 l k = 0 := by
  refine ⟨fun e k hk => ?_, fun q => List.ext_getElem? fun i => ?_⟩
  · rw [e]
    unfold gt0 zr
    rw [List.getD_eq_getElem?_getD, List.getElem?_replicate, if_pos hk]
    rfl
  · rcases Nat.lt_or_ge i 18 with hi | hi
    · have := q i hi
      unfold gt0 at this
      rw [List.getD_eq_getElem?_getD, List.getElem?_eq_getElem (by omega)] at this
      unfold zr
      rw [List.getElem?_replicate, if_pos hi, List.getElem?_eq_getElem (by omega)]
      exact congrArg some this
    · unfold zr
      rw [List.getElem?_replicate, if_neg (by omega), List.getElem?_eq_none (by omega)]
theorem gt0_at {l : List Int} {k : Nat} (h : k < l.length) : l[k]? = some (gt0 l k) := by
  unfold gt0
  rw [List.getD_eq_getElem?_getD, List.getElem?_eq_getElem h]
  rfl
theorem gt0_sb {e f : List Int} {k : Nat} (h1 : e.length = 18) (h2 : f.length = 18) (hk : k < 18) : gt0 (sb e f) k = gt0 e k - gt0 f k := by
  have a1 := gt0_at (l := e) (k := k) (by omega)
  have a2 := gt0_at (l := f) (k := k) (by omega)
  have a3 := gt0_at (l := sb e f) (k := k) (by rw [sb_len h1 h2]; exact hk)
  rw [← sb_eq, List.getElem?_zipWith, a1, a2] at a3
  rw [← sb_eq]
  exact (Option.some.inj a3).symm
/-! ### the powers of a small number -/
def stp (p : Nat) (r : Nat × Nat) : Nat × Nat := if r.1 % p = 0 then (r.1 / p, r.2 + 1) else r
def it (p : Nat) : Nat → Nat × Nat → Nat × Nat
  | 0, r => r
  | k + 1, r => stp p (it p k r)
def xsl : List Nat → Nat → List Int
  | [], _ => []
  | p :: ps, n => ((it p 6 (n, 0)).2 : Int) :: xsl ps (it p 6 (n, 0)).1
def prs : List Nat := [2, 3, 5, 7, 11, 13, 17, 19, 23, 29, 31, 37, 41, 43, 47, 53, 59, 61]
def xs (n : Nat) : List Int := xsl prs n
def xsB (n : Nat) : Bool := decide (nu prs (xs n) = n) && (decide ((xs n).length = 18) && (xs n).all fun x => decide (0 ≤ x) && decide (x ≤ 6))
theorem xs_all : ∀ n, n < 65 → 1 ≤ n → xsB n = true := by decide +kernel
theorem xs_nu {n : Nat} (h1 : 1 ≤ n) (h2 : n ≤ 64) : nu prs (xs n) = n := by
  have h := xs_all n (by omega) h1
  unfold xsB at h
  rw [Bool.and_eq_true, Bool.and_eq_true] at h
  exact of_decide_eq_true h.1
theorem xs_len {n : Nat} (h1 : 1 ≤ n) (h2 : n ≤ 64) : (xs n).length = 18 := by
  have h := xs_all n (by omega) h1
  unfold xsB at h
  rw [Bool.and_eq_true, Bool.and_eq_true] at h
  exact of_decide_eq_true h.2.1
theorem xs_bd {n : Nat} (h1 : 1 ≤ n) (h2 : n ≤ 64) : ∀ x ∈ xs n, 0 ≤ x ∧ x ≤ 6 := by
  have h := xs_all n (by omega) h1
  unfold xsB at h
  rw [Bool.and_eq_true, Bool.and_eq_true] at h
  intro x hx
  have q := List.all_eq_true.mp h.2.2 x hx
  rw [Bool.and_eq_true] at q
  exact ⟨of_decide_eq_true q.1, of_decide_eq_true q.2⟩
/-! ### the powers, one prime after another -/
def rem : List Nat → Nat → Nat
  | [], n => n
  | p :: ps, n => rem ps (it p 6 (n, 0)).1
theorem xsl_at : ∀ {ps : List Nat} {n i p : Nat}, ps[i]? = some p → (xsl ps n)[i]? = some ((it p 6 (rem (ps.take i) n, 0)).2 : Int) ∧ rem (ps.take (i + 1)) n = (it p 6 (rem (ps.take i) n, 0)).1
  | [], _, _, _, h => by simp at h
  | q :: ps, n, 0, p, h => by
    simp at h
    subst h
    exact ⟨rfl, rfl⟩
  | q :: ps, n, i + 1, p, h => by
    obtain ⟨h1, h2⟩ := xsl_at (ps := ps) (n := (it q 6 (n, 0)).1) (i := i) (p := p) (by simpa using h)
    exact ⟨h1, h2⟩
theorem xsl_len : ∀ {ps : List Nat} {n : Nat}, (xsl ps n).length = ps.length
  | [], _ => rfl
  | _ :: _, _ => congrArg Nat.succ xsl_len
/-- the first i powers, the others none -/
def part (i : Nat) (e : List Int) : List Int := e.take i ++ List.replicate (18 - i) 0
def ut (i : Nat) (x : Int) : List Int := zr.set i x
theorem part_len {i : Nat} {e : List Int} (h : e.length = 18) (hi : i ≤ 18) : (part i e).length = 18 := by
  unfold part
  rw [List.length_append, List.length_take, List.length_replicate, h]
  omega
theorem ut_len {i : Nat} {x : Int} : (ut i x).length = 18 := by
  unfold ut zr
  rw [List.length_set, List.length_replicate]
theorem part_at {i k : Nat} {e : List Int} (h : e.length = 18) (hi : i ≤ 18) (hk : k < 18) : (part i e)[k]? = some (if k < i then gt0 e k else 0) := by
  unfold part
  by_cases q : k < i
  · rw [if_pos q, List.getElem?_append_left (by rw [List.length_take, h]; omega), List.getElem?_take, if_pos q, gt0_at (by omega)]
  · rw [if_neg q, List.getElem?_append_right (by rw [List.length_take, h]; omega), List.getElem?_replicate, List.length_take, h, if_pos (by omega)]
theorem ut_at {i k : Nat} {x : Int} (hk : k < 18) : (ut i x)[k]? = some (if i = k then x else 0) := by
  unfold ut
  rw [List.getElem?_set]
  by_cases q : i = k
  · rw [if_pos q, if_pos q, if_pos (by unfold zr; rw [List.length_replicate]; omega)]
  · rw [if_neg q, if_neg q]
    unfold zr
    rw [List.getElem?_replicate, if_pos hk]
theorem part_succ {i : Nat} {e : List Int} (h : e.length = 18) (hi : i < 18) : ad (part i e) (ut i (gt0 e i)) = part (i + 1) e := by
  refine List.ext_getElem? fun k => ?_
  rcases Nat.lt_or_ge k 18 with q | q
  · unfold ad
    rw [List.getElem?_zipWith, part_at h (by omega) q, ut_at q, part_at h (by omega) q]
    dsimp only
    congr 1
    by_cases q1 : k < i
    · rw [if_pos q1, if_neg (by omega), if_pos (by omega), Int.add_zero]
    · rw [if_neg q1]
      by_cases q2 : i = k
      · rw [if_pos q2, if_pos (show k < i + 1 by omega), Int.zero_add, q2]
      · rw [if_neg q2, if_neg (by omega), Int.add_zero]
  · rw [List.getElem?_eq_none, List.getElem?_eq_none]
    · rw [part_len h (by omega)]; exact q
    · unfold ad
      rw [List.length_zipWith, part_len h (by omega), ut_len]
      omega
theorem part_same {i : Nat} {e : List Int} (h : e.length = 18) (hi : i < 18) (h0 : gt0 e i = 0) : part i e = part (i + 1) e := by
  refine List.ext_getElem? fun k => ?_
  rcases Nat.lt_or_ge k 18 with q | q
  · rw [part_at h (by omega) q, part_at h (by omega) q]
    congr 1
    by_cases q1 : k < i
    · rw [if_pos q1, if_pos (by omega)]
    · rw [if_neg q1]
      by_cases q2 : i = k
      · rw [if_pos (by omega), ← q2, h0]
      · rw [if_neg (by omega)]
  · rw [List.getElem?_eq_none, List.getElem?_eq_none]
    · rw [part_len h (by omega)]; exact q
    · rw [part_len h (by omega)]; exact q
theorem part_0 (e : List Int) : part 0 e = zr := rfl
theorem part_18 {e : List Int} (h : e.length = 18) : part 18 e = e := by
  unfold part
  rw [List.take_of_length_le (by omega)]
  exact List.append_nil e
theorem ut_nu : ∀ i, i < 18 → nu prs (ut i 1) = prs.getD i 0 ∧ nu prs (ng (ut i 1)) = 1 := by decide +kernel
theorem ut_sc {i : Nat} {x : Int} : sc x (ut i 1) = ut i x := by
  unfold sc ut
  rw [List.map_set, Int.mul_one]
  congr 1
  unfold zr
  rw [List.map_replicate, Int.mul_zero]
theorem ad_zr {e : List Int} (h : e.length = 18) : ad e zr = e := by
  refine List.ext_getElem? fun k => ?_
  unfold ad zr
  rw [List.getElem?_zipWith, List.getElem?_replicate]
  rcases Nat.lt_or_ge k 18 with q | q
  · rw [gt0_at (l := e) (by omega), if_pos q]
    exact congrArg some (Int.add_zero _)
  · rw [List.getElem?_eq_none (by omega)]
end BF
/-! ## Speeds: turned round, and in frames -/
namespace BF
def turned : Out → Out
  | .ok t c => .ok t (-c)
  | .err i j => .err i j
theorem gt0_ng (l : List Int) (k : Nat) : gt0 (ng l) k = -(gt0 l k) := by
  unfold gt0 ng
  rw [List.getD_eq_getElem?_getD, List.getD_eq_getElem?_getD, List.getElem?_map]
  cases l[k]? <;> rfl
theorem fz_ng (l : List Int) : fz (ng l) = fz l := by
  unfold fz
  congr 1
  funext k
  rw [gt0_ng]
  exact decide_eq_decide.mpr (by omega)
theorem fb_ng (u v : List Int) (i : Nat) : fb (ng u) (ng v) i = fb u v i := by
  unfold fb
  congr 1
  funext k
  rw [gt0_ng, gt0_ng, gt0_ng, gt0_ng, Int.neg_mul_neg, Int.neg_mul_neg]
theorem fb_ngu (u v : List Int) (i : Nat) : fb (ng u) v i = fb u v i := by
  unfold fb
  congr 1
  funext k
  rw [gt0_ng, gt0_ng, Int.neg_mul, Int.neg_mul]
  exact decide_eq_decide.mpr (by omega)
theorem spd_neg (u v : List Int) : spd (ng u) (ng v) = spd u v := by
  unfold spd
  rw [fz_ng, fz_ng]
  cases hf : fz v with
  | none => rfl
  | some i =>
    simp only [fb_ng]
    cases fb u v i with
    | some k => rfl
    | none =>
      have vi : gt0 v i ≠ 0 := of_decide_eq_true (some_find hf).2.1
      simp only [gt0_ng, Int.natAbs_neg, Int.neg_eq_zero]
      rw [show -gt0 u i * sgn (-gt0 v i) = gt0 u i * sgn (gt0 v i) from by
        unfold sgn
        rcases Int.lt_or_gt_of_ne vi with h | h
        · rw [if_pos (show 0 < -gt0 v i by omega), if_neg (show ¬ 0 < gt0 v i by omega)]
          omega
        · rw [if_neg (show ¬ 0 < -gt0 v i by omega), if_pos (show 0 < gt0 v i by omega)]
          omega]
theorem spd_ngu (u v : List Int) : spd (ng u) v = turned (spd u v) := by
  unfold spd
  rw [fz_ng]
  cases hf : fz v with
  | none => cases fz u <;> rfl
  | some i =>
    simp only [fb_ngu]
    cases fb u v i with
    | some k => rfl
    | none =>
      simp only [gt0_ng, Int.natAbs_neg, Int.neg_eq_zero]
      by_cases h : gt0 u i = 0
      · rw [if_pos h, if_pos h]
        rfl
      · rw [if_neg h, if_neg h]
        show Out.ok _ _ = Out.ok _ _
        congr 1
        have d : ((Nat.gcd (gt0 u i).natAbs (gt0 v i).natAbs : Nat) : Int) ∣ gt0 u i * sgn (gt0 v i) := Int.dvd_trans (Int.ofNat_dvd_left.mpr (Nat.gcd_dvd_left ..)) ⟨_, rfl⟩
        rw [Int.neg_mul, Int.neg_ediv_of_dvd d]
theorem fb_none {u v : List Int} {i : Nat} (h : fb u v i = none) {k : Nat} (hk : k < 18) : gt0 u k * gt0 v i = gt0 u i * gt0 v k := Decidable.not_not.mp (of_decide_eq_false (find_none.mp h k hk))
theorem spd_ok {u v : List Int} {t c : Int} (h : spd u v = .ok t c) : 1 ≤ t ∧ (∀ k, k < 18 → t * gt0 u k = c * gt0 v k) ∧ ∀ t' c' : Int, 1 ≤ t' → t' < t → ¬ ∀ k, k < 18 → t' * gt0 u k = c' * gt0 v k := by
  unfold spd at h
  cases hf : fz v with
  | none =>
    rw [hf] at h
    cases hg : fz u with
    | some j => rw [hg] at h; cases h
    | none =>
      rw [hg] at h
      cases h
      refine ⟨by decide, fun k hk => ?_, fun t' c' h1 h2 => by omega⟩
      rw [Decidable.not_not.mp (of_decide_eq_false (find_none.mp hg k hk)), Int.mul_zero, Int.zero_mul]
  | some i =>
    have hi := some_find hf
    have vi : gt0 v i ≠ 0 := of_decide_eq_true hi.2.1
    rw [hf] at h
    simp only at h
    cases hg : fb u v i with
    | some k => rw [hg] at h; cases h
    | none =>
      rw [hg] at h
      simp only at h
      by_cases h0 : gt0 u i = 0
      · rw [if_pos h0] at h
        cases h
        refine ⟨by decide, fun k hk => ?_, fun t' c' h1 h2 => by omega⟩
        have q := fb_none hg hk
        rw [h0, Int.zero_mul] at q
        rcases Int.mul_eq_zero.mp q with q | q
        · rw [q, Int.mul_zero, Int.zero_mul]
        · exact absurd q vi
      · rw [if_neg h0] at h
        have g0 := gcd_ne (a := gt0 u i) vi
        have d1 : ((Nat.gcd (gt0 u i).natAbs (gt0 v i).natAbs : Nat) : Int) ∣ gt0 u i := Int.ofNat_dvd_left.mpr (Nat.gcd_dvd_left ..)
        have d2 : ((Nat.gcd (gt0 u i).natAbs (gt0 v i).natAbs : Nat) : Int) ∣ gt0 v i := Int.ofNat_dvd_left.mpr (Nat.gcd_dvd_right ..)
        obtain ⟨g, hg0⟩ : ∃ g, g = Nat.gcd (gt0 u i).natAbs (gt0 v i).natAbs := ⟨_, rfl⟩
        rw [← hg0] at h g0 d1 d2
        obtain ⟨b', hb⟩ := d1
        obtain ⟨a', ha⟩ := d2
        have gn : (g : Int) ≠ 0 := by omega
        have cop : Nat.gcd b'.natAbs a'.natAbs = 1 := by
          rw [hb, ha, Int.natAbs_mul, Int.natAbs_mul, Int.natAbs_natCast, Nat.gcd_mul_left] at hg0
          exact Nat.eq_of_mul_eq_mul_left (Nat.pos_of_ne_zero g0) (by rw [Nat.mul_one]; exact hg0.symm)
        have an : a' ≠ 0 := fun z => vi (by rw [ha, z, Int.mul_zero])
        have key : ∀ k, k < 18 → gt0 u k * a' = b' * gt0 v k := fun k hk => by
          have q := fb_none hg hk
          rw [ha, hb] at q
          refine Int.eq_of_mul_eq_mul_left gn ?_
          rw [show (g : Int) * (gt0 u k * a') = gt0 u k * ((g : Int) * a') from by ac_rfl, q]
          ac_rfl
        obtain ⟨s, hs1, hs2, hs3⟩ : ∃ s : Int, s * s = 1 ∧ ((a'.natAbs : Nat) : Int) = s * a' ∧ sgn (gt0 v i) = s := by
          have gp : (0 : Int) < g := by omega
          unfold sgn
          rcases Int.lt_or_gt_of_ne an with q | q
          · have : (g : Int) * a' < 0 := Int.mul_neg_of_pos_of_neg gp q
            exact ⟨-1, rfl, by omega, if_neg (by omega)⟩
          · have : 0 < (g : Int) * a' := Int.mul_pos gp q
            exact ⟨1, rfl, by omega, if_pos (by omega)⟩
        have ht : (((gt0 v i).natAbs : Nat) : Int) / (g : Int) = s * a' := by
          rw [ha, Int.natAbs_mul, Int.natAbs_natCast, Int.natCast_mul, Int.mul_ediv_cancel_left _ gn, hs2]
        have hc : gt0 u i * sgn (gt0 v i) / (g : Int) = s * b' := by
          rw [hs3, hb, Int.mul_assoc, Int.mul_ediv_cancel_left _ gn, Int.mul_comm]
        rw [ht, hc] at h
        cases h
        refine ⟨by omega, fun k hk => ?_, fun t' c' h1 h2 hall => ?_⟩
        · rw [show s * a' * gt0 u k = s * (gt0 u k * a') from by ac_rfl, key k hk]
          ac_rfl
        · have q := hall i hi.1
          rw [ha, hb] at q
          have q2 : t' * b' = c' * a' := by
            refine Int.eq_of_mul_eq_mul_left gn ?_
            rw [show (g : Int) * (t' * b') = t' * ((g : Int) * b') from by ac_rfl, q]
            ac_rfl
          have q3 : a'.natAbs ∣ t'.natAbs * b'.natAbs := ⟨c'.natAbs, by rw [← Int.natAbs_mul, q2, Int.natAbs_mul, Nat.mul_comm]⟩
          have q4 := Nat.Coprime.dvd_of_dvd_mul_right (show Nat.Coprime a'.natAbs b'.natAbs from by rw [Nat.coprime_iff_gcd_eq_one, Nat.gcd_comm]; exact cop) q3
          have q5 := Nat.le_of_dvd (by omega) q4
          omega
/-! ### in frames -/
def fr (t c : Int) (e x : List Int) : List Int := ad (sc t e) (sc (-c) x)
theorem fr_len {t c : Int} {e x : List Int} (h1 : e.length = 18) (h2 : x.length = 18) : (fr t c e x).length = 18 := by
  unfold fr ad sc
  rw [List.length_zipWith, List.length_map, List.length_map, h1, h2]
  rfl
theorem fr_at {t c : Int} {e x : List Int} {k : Nat} (h1 : e.length = 18) (h2 : x.length = 18) (hk : k < 18) : (fr t c e x)[k]? = some (t * gt0 e k - c * gt0 x k) := by
  unfold fr ad sc
  rw [List.getElem?_zipWith, List.getElem?_map, List.getElem?_map, gt0_at (by omega), gt0_at (by omega)]
  show some (t * gt0 e k + -c * gt0 x k) = some (t * gt0 e k - c * gt0 x k)
  rw [Int.neg_mul]
  rfl
theorem fr_eq {t c : Int} {e f x y : List Int} (h1 : e.length = 18) (h2 : f.length = 18) (h3 : x.length = 18) (h4 : y.length = 18) : fr t c e x = fr t c f y ↔ ∀ k, k < 18 → t * gt0 (sb e f) k = c * gt0 (sb x y) k := by
  refine ⟨fun h k hk => ?_, fun h => List.ext_getElem? fun k => ?_⟩
  · have q1 := fr_at (t := t) (c := c) h1 h3 hk
    have q2 := fr_at (t := t) (c := c) h2 h4 hk
    rw [h, q2] at q1
    have q3 := Option.some.inj q1
    rw [gt0_sb h1 h2 hk, gt0_sb h3 h4 hk, Int.mul_sub, Int.mul_sub]
    omega
  · rcases Nat.lt_or_ge k 18 with hk | hk
    · rw [fr_at h1 h3 hk, fr_at h2 h4 hk]
      have q := h k hk
      rw [gt0_sb h1 h2 hk, gt0_sb h3 h4 hk, Int.mul_sub, Int.mul_sub] at q
      congr 1
      omega
    · rw [List.getElem?_eq_none (by rw [fr_len h1 h3]; exact hk), List.getElem?_eq_none (by rw [fr_len h2 h4]; exact hk)]
theorem sb_swap {e f : List Int} : sb f e = ng (sb e f) := by
  unfold sb ad ng
  refine List.ext_getElem? fun k => ?_
  rw [List.getElem?_map, List.getElem?_zipWith, List.getElem?_zipWith, List.getElem?_map, List.getElem?_map]
  cases e[k]? <;> cases f[k]? <;> try rfl
  rename_i a b
  show some (b + -a) = some (-(a + -b))
  congr 1
  omega
theorem sb_ng {e f : List Int} : sb (ng e) (ng f) = ng (sb e f) := by
  unfold sb ad ng
  refine List.ext_getElem? fun k => ?_
  rw [List.getElem?_map, List.getElem?_zipWith, List.getElem?_zipWith, List.getElem?_map, List.getElem?_map, List.getElem?_map]
  cases e[k]? <;> cases f[k]? <;> try rfl
  rename_i a b
  show some (-a + - -b) = some (-(a + -b))
  congr 1
  omega
end BF
/-! ## Base layer: heaps that keep what they track, data, the stepper's lemmas -/
namespace BF
open PySem PySem.Spec PyProof.Rows L2

/-- H' keeps what H tracks, but at the addresses of M -/
def Ex (M : List Addr) (H H' : Hp) : Prop := ∀ x o, x ∉ M → H x = some o → H' x = some o
theorem Ex.refl {M : List Addr} (H : Hp) : Ex M H H := fun _ _ _ h => h
theorem Ex.sub {M M' : List Addr} {H H' : Hp} (h : Ex M H H') (s : ∀ x ∈ M, x ∈ M') : Ex M' H H' := fun x o n e => h x o (fun z => n (s x z)) e
theorem Ex.tr {M : List Addr} {H H1 H2 : Hp} (a : Ex M H H1) (b : Ex M H1 H2) : Ex M H H2 := fun x o n e => b x o n (a x o n e)
/-- behind a further step that keeps all but some of M -/
theorem Ex.st {M M' : List Addr} {H H1 H2 : Hp} (b : Ex M' H1 H2) (s : ∀ x ∈ M', x ∈ M) (a : Ex M H H1) : Ex M H H2 := a.tr (b.sub s)
theorem Ex.new {M : List Addr} {H : Hp} {p : Addr} {o : HO} (h : H p = none) : Ex M H (upd H p o) := fun a u _ e => by
  rw [upd_ne (ne_of_none e h)]
  exact e
/-- an object that H does not know may change -/
theorem Ex.mut {M : List Addr} {H H' : Hp} {p : Addr} {o : HO} (h : H p = none) (e : Ex M H H') : Ex M H (upd H' p o) := fun a u n ha => by
  rw [upd_ne (ne_of_none ha h)]
  exact e a u n ha
theorem Ex.wr {M : List Addr} {H H' : Hp} {p : Addr} {o : HO} (h : p ∈ M) (e : Ex M H H') : Ex M H (upd H' p o) := fun a u n ha => by
  have : a ≠ p := fun z => n (z ▸ h)
  rw [upd_ne this]
  exact e a u n ha
theorem Ex.free {M : List Addr} {H H' : Hp} {p : Addr} (e : Ex M H H') (hp : p ∉ M) (h : H' p = none) : H p = none := by
  cases q : H p with
  | none => rfl
  | some o =>
    rw [e p o hp q] at h
    cases h
/-- the addresses of M are taken -/
def Al (M : List Addr) (H : Hp) : Prop := ∀ x ∈ M, ∃ o, H x = some o
theorem Al.nil {H : Hp} : Al [] H := fun _ h => nomatch h
theorem Al.cons {M : List Addr} {H : Hp} {x : Addr} {o : HO} (h : H x = some o) (r : Al M H) : Al (x :: M) H := fun y hy => by
  rcases List.mem_cons.mp hy with e | hy
  · exact ⟨o, by rw [e]; exact h⟩
  · exact r y hy
theorem Al.out {M : List Addr} {H : Hp} {p : Addr} (a : Al M H) (h : H p = none) : p ∉ M := fun z => by
  obtain ⟨o, e⟩ := a p z
  rw [e] at h
  cases h
theorem Al.upd {M : List Addr} {H : Hp} {p : Addr} {o : HO} (a : Al M H) : Al M (upd H p o) := fun x hx => by
  by_cases e : x = p
  · exact ⟨o, by rw [e]; exact upd_same⟩
  · obtain ⟨u, hu⟩ := a x hx
    exact ⟨u, by rw [upd_ne e]; exact hu⟩

theorem rd_ex {M : List Addr} {H H' : Hp} {a : Addr} {u : HO} (e : Ex M H H') (n : a ∉ M) (h : Rd H a u) : Rd H' a u := by
  rcases h with h | ⟨o, h⟩
  · exact Or.inl (e a _ n h)
  · exact Or.inr ⟨o, e a _ n h⟩
theorem sql_ex {M : List Addr} {K : PySem.W.Frag} {H H' : Hp} {a : Addr} {xs : List V} (e : Ex M H H') (n : a ∉ M) (h : SqL K H a xs) : SqL K H' a xs := by
  rcases h with h | h
  · exact Or.inl (rd_ex e n h)
  · exact Or.inr h
theorem sqt_ex {M : List Addr} {K : PySem.W.Frag} {H H' : Hp} {a : Addr} {xs : List V} (e : Ex M H H') (n : a ∉ M) (h : SqT K H a xs) : SqT K H' a xs := by
  rcases h with h | h
  · exact Or.inl (rd_ex e n h)
  · exact Or.inr h
theorem sql_of {K : PySem.W.Frag} {H : Hp} {a : Addr} {xs : List V} (h : H a = some (.lst xs)) : SqL K H a xs := Or.inl (Or.inl h)
theorem sqt_of {K : PySem.W.Frag} {H : Hp} {a : Addr} {xs : List V} (h : H a = some (.tup xs)) : SqT K H a xs := Or.inl (Or.inl h)
theorem at_ex {M : List Addr} {H H' : Hp} {a : Addr} {u : HO} (e : Ex M H H') (n : a ∉ M) (h : H a = some u) : H' a = some u := e a u n h

theorem sz_of {n : Nat} (h : n ≤ 1000000) : n ≤ sizeLine := Nat.le_trans h (by decide)
theorem sz_lt {n : Nat} (h : n < 1000000) : n < sizeLine := Nat.lt_of_lt_of_le h (by decide)

/-! ### the stepper's lemmas: one for each head -/
section
variable {K : PySem.W.Frag} {σ : L2.St} {H : Hp} {ta tb tc te : TE} {t u : TT} {x y z v : V} {r r' : R2} {Q : VK} {QB : Bool → Hp → Prop} {QA : List V → Hp → Prop} {D : Ends} {tu tw : TS} {g : TG}
theorem x_var {i : Nat} (h : σ[i]? = some (some v)) (k : Q v H) : tVar i σ H Q := ⟨v, h, k⟩
theorem x_c (k : Q v H) : tC v σ H Q := k
theorem x_op (k : ta σ H fun x H1 => tb σ H1 fun y H2 => r x y H2 Q) : tOp r ta tb σ H Q := k
theorem x_un {r : V → Hp → VK → Prop} (k : ta σ H fun x H1 => r x H1 Q) : tUn r ta σ H Q := k
theorem x_test (k : ta σ H fun x H' => ∃ b, x = .bl b ∧ QB b H') : tTest ta σ H QB := k
theorem x_B (k : ta σ H fun x H' => ∃ b, x = .bl b ∧ QB b H') : tB ta σ H QB := k
theorem x_bl {b : Bool} (k : QB b H) : ∃ c, V.bl b = .bl c ∧ QB c H := ⟨b, rfl, k⟩
theorem x_and (k : t σ H fun c H1 => if c = true then u σ H1 QB else QB false H1) : tAnd t u σ H QB := k
theorem x_or (k : t σ H fun c H1 => if c = true then QB true H1 else u σ H1 QB) : tOr t u σ H QB := k
theorem x_not (k : t σ H fun c H1 => QB (!c) H1) : tNot t σ H QB := k
theorem x_andV (k : ta σ H fun x H1 => ∃ c, x = .bl c ∧ if c = true then tb σ H1 Q else Q (.bl false) H1) : tAndV ta tb σ H Q := k
theorem x_orV (k : ta σ H fun x H1 => ∃ c, x = .bl c ∧ if c = true then Q (.bl true) H1 else tb σ H1 Q) : tOrV ta tb σ H Q := k
theorem x_notV (k : ta σ H fun x H1 => ∃ c, x = .bl c ∧ Q (.bl (!c)) H1) : tNotV ta σ H Q := k
theorem x_if (k : t σ H fun c H1 => if c = true then ta σ H1 Q else tb σ H1 Q) : tIf t ta tb σ H Q := k
theorem x_blV {b : Bool} {P : Bool → Prop} (k : P b) : ∃ c, V.bl b = .bl c ∧ P c := ⟨b, rfl, k⟩
theorem x_nil (k : QA [] H) : tNil σ H QA := k
theorem x_cons {tr : TA} (k : te σ H fun x H1 => tr σ H1 fun xs H2 => QA (x :: xs) H2) : tCons te tr σ H QA := k
theorem x_cb {r : List V → Hp → VK → Prop} {tr : TA} (k : tr σ H fun vs H1 => r vs H1 Q) : tCB r tr σ H Q := k
theorem x_call {sp : Sp} {dvs : List V} {E : XK} {tr : TA} (k : tr σ H fun vs H1 => sp (vs ++ dvs) H1 Q E) : tCall sp dvs E tr σ H Q := k
theorem x_lst {tr : TA} (k : tr σ H fun xs H1 => xs.length ≤ sizeLine ∧ ∀ p, H1 p = none → Q (.ref p) (upd H1 p (.lst xs))) : tLst tr σ H Q := k
theorem x_tup {tr : TA} (k : tr σ H fun xs H1 => xs.length ≤ sizeLine ∧ ∀ p, H1 p = none → Q (.ref p) (upd H1 p (.tup xs))) : tTup tr σ H Q := k
theorem x_new {xs : List V} {f : List V → HO} (hl : xs.length ≤ 1000000) (k : ∀ p H2, H p = none → Ex [] H H2 → H2 p = some (f xs) → Q (.ref p) H2) : xs.length ≤ sizeLine ∧ ∀ p, H p = none → Q (.ref p) (upd H p (f xs)) := ⟨sz_of hl, fun p hp => k p _ hp (Ex.new hp) upd_same⟩
theorem x_newL {xs : List V} (hl : xs.length ≤ 1000000) (k : ∀ p H2, H p = none → Ex [] H H2 → H2 p = some (.lst xs) → Q (.ref p) H2) : xs.length ≤ sizeLine ∧ ∀ p, H p = none → Q (.ref p) (upd H p (.lst xs)) := x_new (f := .lst) hl k
theorem x_newT {xs : List V} (hl : xs.length ≤ 1000000) (k : ∀ p H2, H p = none → Ex [] H H2 → H2 p = some (.tup xs) → Q (.ref p) H2) : xs.length ≤ sizeLine ∧ ∀ p, H p = none → Q (.ref p) (upd H p (.tup xs)) := x_new (f := .tup) hl k
theorem x_new1 {o : HO} (k : ∀ p H2, H p = none → Ex [] H H2 → H2 p = some o → Q (.ref p) H2) : ∀ p, H p = none → Q (.ref p) (upd H p o) := fun p hp => k p _ hp (Ex.new hp) upd_same
theorem x_sl {r : V → Option Int → Option Int → Hp → VK → Prop} {tl th : TO} (k : te σ H fun x H1 => tl σ H1 fun l H2 => th σ H2 fun u H3 => r x l u H3 Q) : tSl r te tl th σ H Q := k
theorem x_part {QO : Option Int → Hp → Prop} (k : te σ H fun x H1 => ∃ i, x = .int i ∧ QO (some i) H1) : tPart te σ H QO := k
theorem x_nopart {QO : Option Int → Hp → Prop} (k : QO none H) : tNoPart σ H QO := k
theorem x_int {i : Int} {P : Int → Prop} (k : P i) : ∃ j, V.int i = .int j ∧ P j := ⟨i, rfl, k⟩
theorem x_bm {T : String} {r : V → List V → Hp → VK → Prop} {to : TE} {tr : TA} (k : to σ H fun x H1 => tyV K T x H1 ∧ tr σ H1 fun xs H2 => r x xs H2 Q) : tBM K T r to tr σ H Q := k
theorem x_bm0 {T : String} {r : V → List V → Hp → VK → Prop} {to : TE} (k : to σ H fun x H1 => tyV K T x H1 ∧ r x [] H1 Q) : tBM0 K T r to σ H Q := k
/-! operations -/
theorem x_I0 {f : Int → Int → V} {i j : Int} (k : Q (f i j) H) : rI0 f (.int i) (.int j) H Q := ⟨i, j, rfl, rfl, k⟩
theorem x_I {C : Int → Int → Prop} {f : Int → Int → V} {i j : Int} (h : C i j) (k : Q (f i j) H) : rI C f (.int i) (.int j) H Q := ⟨i, j, rfl, rfl, h, k⟩
theorem x_U {f : Int → V} {i : Int} (k : Q (f i) H) : rU f (.int i) H Q := ⟨i, rfl, k⟩
theorem x_eq (h : scal x y = true) (k : Q (.bl (decide (x = y))) H) : rEq x y H Q := ⟨h, k⟩
theorem x_ne (h : scal x y = true) (k : Q (.bl (!decide (x = y))) H) : rNe x y H Q := ⟨h, k⟩
theorem x_eqI {i j : Int} (k : Q (.bl (decide (i = j))) H) : rEq (.int i) (.int j) H Q := ⟨rfl, by
  have e : decide (V.int i = V.int j) = decide (i = j) := decide_eq_decide.mpr ⟨fun h => V.int.inj h, fun h => by rw [h]⟩
  rw [e]
  exact k⟩
theorem x_neI {i j : Int} (k : Q (.bl (!decide (i = j))) H) : rNe (.int i) (.int j) H Q := ⟨rfl, by
  have e : decide (V.int i = V.int j) = decide (i = j) := decide_eq_decide.mpr ⟨fun h => V.int.inj h, fun h => by rw [h]⟩
  rw [e]
  exact k⟩
theorem x_eqB {i j : Bool} (k : Q (.bl (i == j)) H) : rEq (.bl i) (.bl j) H Q := ⟨rfl, by
  have e : decide (V.bl i = V.bl j) = (i == j) := by cases i <;> cases j <;> rfl
  rw [e]
  exact k⟩
theorem x_neB {i j : Bool} (k : Q (.bl (i != j)) H) : rNe (.bl i) (.bl j) H Q := ⟨rfl, by
  have e : (!decide (V.bl i = V.bl j)) = (i != j) := by cases i <;> cases j <;> rfl
  rw [e]
  exact k⟩
theorem x_eqS {i j : Str} (k : Q (.bl (decide (i = j))) H) : rEq (.str i) (.str j) H Q := ⟨rfl, by
  have e : decide (V.str i = V.str j) = decide (i = j) := decide_eq_decide.mpr ⟨fun h => V.str.inj h, fun h => by rw [h]⟩
  rw [e]
  exact k⟩
theorem x_neS {i j : Str} (k : Q (.bl (!decide (i = j))) H) : rNe (.str i) (.str j) H Q := ⟨rfl, by
  have e : decide (V.str i = V.str j) = decide (i = j) := decide_eq_decide.mpr ⟨fun h => V.str.inj h, fun h => by rw [h]⟩
  rw [e]
  exact k⟩
/-- list or tuple at an index -/
def rIxLT (K : PySem.W.Frag) : R2 := fun x y H Q => rIxL K x y H Q ∨ rIxT K x y H Q
theorem ix_LT {X : Cx} : IxR X (rIxLT X.K) := ix_list.or ix_tup
theorem x_ixL {p : Addr} {xs : List V} {i : Int} (h : SqL K H p xs) (ha : atI xs i = some v) (k : Q v H) : rIxLT K (.ref p) (.int i) H Q := .inl ⟨p, xs, i, v, rfl, rfl, h, ha, k⟩
theorem x_ixT {p : Addr} {xs : List V} {i : Int} (h : SqT K H p xs) (ha : atI xs i = some v) (k : Q v H) : rIxLT K (.ref p) (.int i) H Q := .inr ⟨p, xs, i, v, rfl, rfl, h, ha, k⟩
def rLenLT (K : PySem.W.Frag) : List V → Hp → VK → Prop := fun xs H Q => ∃ p ys, xs = [.ref p] ∧ (SqL K H p ys ∨ SqT K H p ys) ∧ Q (.int ys.length) H
theorem call_lenLT {X : Cx} : CallR X (.builtin "len") (rLenLT X.K) := call_len_seq
theorem x_lenL {p : Addr} {xs : List V} (h : SqL K H p xs) (k : Q (.int (xs.length : Int)) H) : rLenLT K [.ref p] H Q := ⟨p, xs, rfl, .inl h, k⟩
theorem x_lenT {p : Addr} {xs : List V} (h : SqT K H p xs) (k : Q (.int (xs.length : Int)) H) : rLenLT K [.ref p] H Q := ⟨p, xs, rfl, .inr h, k⟩
def rListLT (K : PySem.W.Frag) : List V → Hp → VK → Prop := fun xs H Q => ∃ p ys, xs = [.ref p] ∧ (SqL K H p ys ∨ SqT K H p ys) ∧ ∀ l, H l = none → Q (.ref l) (upd H l (.lst ys))
theorem call_listLT {X : Cx} : CallR X (.type "list") (rListLT X.K) := call_list_of
theorem x_listL {p : Addr} {xs : List V} (h : SqL K H p xs) (k : ∀ l H2, H l = none → Ex [] H H2 → H2 l = some (.lst xs) → Q (.ref l) H2) : rListLT K [.ref p] H Q := ⟨p, xs, rfl, .inl h, x_new1 k⟩
theorem x_listT {p : Addr} {xs : List V} (h : SqT K H p xs) (k : ∀ l H2, H l = none → Ex [] H H2 → H2 l = some (.lst xs) → Q (.ref l) H2) : rListLT K [.ref p] H Q := ⟨p, xs, rfl, .inr h, x_new1 k⟩
def rTupLT (K : PySem.W.Frag) : List V → Hp → VK → Prop := fun xs H Q => ∃ p ys, xs = [.ref p] ∧ ((SqL K H p ys ∧ ∀ l, H l = none → Q (.ref l) (upd H l (.tup ys))) ∨ (SqT K H p ys ∧ Q (.ref p) H))
theorem call_tupLT {X : Cx} : CallR X (.type "tuple") (rTupLT X.K) := call_tuple_of
theorem x_tupL {p : Addr} {xs : List V} (h : SqL K H p xs) (k : ∀ l H2, H l = none → Ex [] H H2 → H2 l = some (.tup xs) → Q (.ref l) H2) : rTupLT K [.ref p] H Q := ⟨p, xs, rfl, .inl ⟨h, x_new1 k⟩⟩
theorem x_tupT {p : Addr} {xs : List V} (h : SqT K H p xs) (k : Q (.ref p) H) : rTupLT K [.ref p] H Q := ⟨p, xs, rfl, .inr ⟨h, k⟩⟩
theorem x_slL {a : Addr} {xs : List V} {lo hi : Option Int} (h : SqL K H a xs) (k : ∀ p H2, H p = none → Ex [] H H2 → H2 p = some (.lst (cutV xs lo hi)) → Q (.ref p) H2) : rSlL K (.ref a) lo hi H Q := ⟨a, xs, rfl, h, x_new1 k⟩
def rInt1 : List V → Hp → VK → Prop := fun xs H Q => (∃ i, xs = [.int i] ∧ Q (.int i) H) ∨ ∃ k, xs = [.bl k] ∧ Q (.int (if k then 1 else 0)) H
theorem call_intX {X : Cx} : CallR X (.type "int") rInt1 := call_int1
theorem x_intc {i : Int} (k : Q (.int i) H) : rInt1 [.int i] H Q := .inl ⟨i, rfl, k⟩
def rAbs : List V → Hp → VK → Prop := fun xs H Q => ∃ i, xs = [.int i] ∧ Q (.int (if i < 0 then -i else i)) H
theorem call_absX {X : Cx} : CallR X (.builtin "abs") rAbs := call_abs
theorem x_abs {i : Int} (k : Q (.int (i.natAbs : Int)) H) : rAbs [.int i] H Q := ⟨i, rfl, by
  have e : (if i < 0 then -i else i) = (i.natAbs : Int) := by split <;> omega
  rw [e]
  exact k⟩
theorem x_isN (k : Q (.bl (decide (x = .non))) H) : (fun x y H Q => y = .non ∧ Q (.bl (decide (x = .non))) H : R2) x .non H Q := ⟨rfl, k⟩
def rIsN : R2 := fun x y H Q => y = .non ∧ Q (.bl (decide (x = .non))) H
def rNotN : R2 := fun x y H Q => y = .non ∧ Q (.bl (!decide (x = .non))) H
theorem op_isNX {X : Cx} : OpR X (compareOp .Is) rIsN := op_isN
theorem op_notNX {X : Cx} : OpR X (compareOp .IsNot) rNotN := op_notN
theorem x_isNo (k : Q (.bl (decide (x = .non))) H) : rIsN x .non H Q := ⟨rfl, k⟩
theorem x_notNo (k : Q (.bl (!decide (x = .non))) H) : rNotN x .non H Q := ⟨rfl, k⟩
/-- + of ints, lists, tuples, texts -/
def rAddU (K : PySem.W.Frag) : R2 := fun x y H Q => rI0 (fun i j => .int (i + j)) x y H Q ∨ rCat x y H Q ∨ rCatT K x y H Q ∨ ∃ i j, x = .str i ∧ y = .str j ∧ i.length + j.length ≤ sizeLine ∧ Q (.str (i ++ j)) H
theorem op_addU {X : Cx} : OpR X (binaryOp .Add) (rAddU X.K) := op_add.or (op_cat.or (op_catT.or op_add_str))
theorem x_addI {i j : Int} (k : Q (.int (i + j)) H) : rAddU K (.int i) (.int j) H Q := .inl ⟨i, j, rfl, rfl, k⟩
theorem x_addL {l b : Addr} {xs zs : List V} (h1 : H l = some (.lst xs)) (h2 : H b = some (.lst zs)) (hz : xs.length + zs.length ≤ 1000000) (k : ∀ p H2, H p = none → Ex [] H H2 → H2 p = some (.lst (xs ++ zs)) → Q (.ref p) H2) : rAddU K (.ref l) (.ref b) H Q :=
  .inr (.inl ⟨l, b, xs, zs, rfl, rfl, h1, h2, sz_of hz, x_new1 k⟩)
theorem x_neg {i : Int} (k : Q (.int (-i)) H) : rU (fun i => .int (-i)) (.int i) H Q := ⟨i, rfl, k⟩
/-! statements -/
theorem x_seq (k : tu { D with nx := tw D } σ H) : tSeq tu tw D σ H := k
theorem x_next (k : D.nx σ H) : tNext D σ H := k
theorem x_asg (k : te σ H fun x H1 => g x σ H1 D.nx) : tAsg te g D σ H := k
theorem x_gname {i : Nat} {σ' : L2.St} {QS : L2.St → Hp → Prop} (e : σ.set i (some v) = σ') (k : QS σ' H) : gName i v σ H QS := by
  unfold gName
  rw [e]
  exact k
theorem x_gsub {to ti : TE} {tt : TSet} {QS : L2.St → Hp → Prop} (k : to σ H fun o H1 => ti σ H1 fun i H2 => tt o i v H2 fun H3 => QS σ H3) : gSub to ti tt v σ H QS := k
theorem x_setL {p : Addr} {xs : List V} {i : Int} {j : Nat} {QH : Hp → Prop} (h : H p = some (.lst xs)) (hi : ixN xs.length i = some j) (k : QH (upd H p (.lst (xs.set j v)))) : rSetL (.ref p) (.int i) v H QH := ⟨p, xs, i, j, rfl, rfl, h, hi, k⟩
theorem x_setL2 {p : Addr} {xs xs' : List V} {i : Int} {j : Nat} {QH : Hp → Prop} (h : H p = some (.lst xs)) (hi : ixN xs.length i = some j) (hx : xs.set j v = xs') (k : ∀ H2, Ex [p] H H2 → H2 p = some (.lst xs') → QH H2) : rSetL (.ref p) (.int i) v H QH := ⟨p, xs, i, j, rfl, rfl, h, hi, k _ (Ex.wr (List.mem_cons_self ..) (Ex.refl H)) (by rw [upd_same, hx])⟩
theorem x_app2 {l : Addr} {xs : List V} (h : H l = some (.lst xs)) (hz : xs.length < 1000000) (k : ∀ H2, Ex [l] H H2 → H2 l = some (.lst (xs ++ [y])) → Q .non H2) : rAppend (.ref l) [y] H Q := ⟨l, xs, y, rfl, rfl, h, sz_lt hz, k _ (Ex.wr (List.mem_cons_self ..) (Ex.refl H)) upd_same⟩
theorem x_ret (k : te σ H D.rt) : tRet te D σ H := k
theorem x_retN (k : D.rt .non H) : tRetN D σ H := k
theorem x_drop (k : te σ H fun _ H1 => D.nx σ H1) : tDrop te D σ H := k
theorem x_ifS (k : t σ H fun b H1 => if b = true then tu D σ H1 else tw D σ H1) : tIfS t tu tw D σ H := k
theorem x_brk (k : D.bk σ H) : tBreak D σ H := k
theorem x_cnt (k : D.ct σ H) : tCont D σ H := k
theorem x_par {i j : Nat} {ta : TA} (k : ta σ H fun vs H1 => ∃ v w, vs = [v, w] ∧ D.nx ((σ.set i (some v)).set j (some w)) H1) : tPar i j ta D σ H := k
theorem x_par2 {P : V → V → Prop} (k : P x y) : ∃ v w, ([x, y] : List V) = [v, w] ∧ P v w := ⟨x, y, rfl, k⟩
theorem x_gtup {n : Nat} {gs : TGs} {a : Addr} {xs : List V} {QS : L2.St → Hp → Prop} (h : SqT K H a xs) (hl : xs.length = n) (k : gs xs σ H QS) : gTup K n gs (.ref a) σ H QS := ⟨a, xs, rfl, h, hl, k⟩
theorem x_gcons {gs : TGs} {xs : List V} {QS : L2.St → Hp → Prop} (k : g x σ H fun σ' H' => gs xs σ' H' QS) : gCons g gs (x :: xs) σ H QS := ⟨x, xs, rfl, k⟩
theorem x_gnil {QS : L2.St → Hp → Prop} (k : QS σ H) : gNil [] σ H QS := ⟨rfl, k⟩
theorem x_app {l : Addr} {xs : List V} {K : PySem.W.Frag} (h : H l = some (.lst xs)) (hz : xs.length < 1000000) (k : Q .non (upd H l (.lst (xs ++ [y])))) : rAppend (.ref l) [y] H Q := ⟨l, xs, y, rfl, rfl, h, sz_lt hz, k⟩
theorem x_tyL {p : Addr} {xs : List V} {P : Prop} (h : H p = some (.lst xs)) (k : P) : tyV K "list" (.ref p) H ∧ P := ⟨Or.inl ⟨rfl, xs, sql_of h⟩, k⟩
theorem cpow_of {i j : Int} (h0 : 0 ≤ j) (h1 : j ≤ 1000000) (h2 : -18446744073709551616 < i) (h3 : i < 18446744073709551616) : CPow i j := ⟨h0, h1, by
  have e : (2 : Nat) ^ 64 = 18446744073709551616 := by decide
  rw [e]
  omega⟩
theorem cmul_of {i j : Int} (h0 : -18446744073709551616 < i) (h1 : i < 18446744073709551616) (h2 : -18446744073709551616 < j) (h3 : j < 18446744073709551616) : CMulW i j := by
  have e : (2 : Nat) ^ 64 = 18446744073709551616 := by decide
  exact wide_mul (a := 64) (b := 64) (by rw [e]; omega) (by rw [e]; omega) (by decide) (by decide) (by decide)
theorem cdiv_of {i j : Int} (h0 : 0 < j) (h1 : j < 18446744073709551616) : CDivW i j := by
  have e : (2 : Nat) ^ 64 = 18446744073709551616 := by decide
  exact wide_div (b := 64) h0 (by rw [e]; omega) (by decide) (by decide)
theorem atI_ints {ns : List Int} {i : Int} (h0 : 0 ≤ i) (h : i < ((ns.map V.int).length : Int)) : ∃ z, ns[i.toNat]? = some z ∧ atI (ns.map V.int) i = some (.int z) := by
  rw [List.length_map] at h
  have hi : i.toNat < ns.length := by omega
  refine ⟨ns[i.toNat], List.getElem?_eq_getElem hi, ?_⟩
  have e : (ns.map V.int)[i.toNat]? = some (.int ns[i.toNat]) := by rw [List.getElem?_map, List.getElem?_eq_getElem hi]; rfl
  have q := atI_nat e
  rw [Int.toNat_of_nonneg h0] at q
  exact q
/-! tests decided -/
theorem x_ite {c A B : Prop} [Decidable c] (h1 : c → A) (h2 : ¬ c → B) : if decide c = true then A else B := by
  by_cases h : c
  · rw [decide_eq_true h]; exact h1 h
  · rw [decide_eq_false h]; exact h2 h
theorem x_iteN {c A B : Prop} [Decidable c] (h1 : ¬ c → A) (h2 : c → B) : if (!decide c) = true then A else B := by
  by_cases h : c
  · rw [decide_eq_true h]; exact h2 h
  · rw [decide_eq_false h]; exact h1 h
theorem x_iteb {b : Bool} {A B : Prop} (h1 : b = true → A) (h2 : b = false → B) : if b = true then A else B := by
  cases b
  · exact h2 rfl
  · exact h1 rfl
theorem x_itebN {b : Bool} {A B : Prop} (h1 : b = false → A) (h2 : b = true → B) : if (!b) = true then A else B := by
  cases b
  · exact h1 rfl
  · exact h2 rfl
theorem x_iteY {A B : Prop} (h : A) : if true = true then A else B := h
theorem x_iteNo {A B : Prop} (h : B) : if false = true then A else B := h
theorem x_iteT {b : Bool} {A B : Prop} (e : b = true) (h : A) : if b = true then A else B := by rw [e]; exact h
theorem x_iteF {b : Bool} {A B : Prop} (e : b = false) (h : B) : if b = true then A else B := by rw [e]; exact h
end
end BF
/-! ## What the head tells: names, defs, classes -/
namespace BF
open PySem PySem.Spec PyProof.Rows L2
/-- the function object at a place of the text -/
def fdOf (K : PySem.W.Frag) (p : Str × Option Str) : FuncData := match K.lookup (He.fAd K p) with
  | some ⟨_, _, .func fd, _⟩ => fd
  | _ => PySem.W.fnOf "" "" { posonlyargs := [], args := [], vararg := none, kwonlyargs := [], kw_defaults := [], kwarg := none, defaults := [] } [] { kind := .function, names := [], isGenerator := false, isCoroutine := false } .none .none .none .none none .none .none
structure TX (fa : List He.Fa) (fn : List He.DefD) (ex : PySem.W.Frag → Bool) (K : PySem.W.Frag) (mg : Str → Option Value) : Prop where
  d : He.SaysD fa fn K
  more : ex K = true
  gl : ∀ (x : Str) (v : Value), PySem.W.nsIn K mainGlobals x = some (some v) → mg x = some v
  gn : ∀ (x : Str), PySem.W.nsIn K mainGlobals x = some none → mg x = none
section
variable {fa : List He.Fa} {fn : List He.DefD} {ex : PySem.W.Frag → Bool} {K : PySem.W.Frag} {mg : Str → Option Value}
theorem TX.fact (T : TX fa fn ex K mg) (p : He.Fa → Bool) (h : fa.any p = true) : ∃ f, p f = true ∧ f.ok K = true := by
  obtain ⟨f, hf, e⟩ := List.any_eq_true.mp h
  obtain ⟨i, hi, ei⟩ := List.mem_iff_getElem.mp hf
  exact ⟨f, e, T.d.fact i (f := f) (by rw [List.getElem?_eq_getElem hi, ei])⟩
def isFree (x : Str) : He.Fa → Bool
  | .free y => decide (y = x)
  | _ => false
def isGlo (x : Str) : He.Fa → Bool
  | .glo y => decide (y = x)
  | _ => false
def isCls (x : Str) : He.Fa → Bool
  | .cls y => decide (y = x)
  | _ => false
def isMkr (x : Str) : He.Fa → Bool
  | .mkr y => decide (y = x)
  | _ => false
def isNoat (x f : Str) : He.Fa → Bool
  | .noat y g => decide (y = x) && decide (g = f)
  | _ => false
def isMeth (x f : Str) : He.Fa → Bool
  | .meth y g => decide (y = x) && decide (g = f)
  | _ => false
def isExm (x y : Str) (b : Bool) : He.Fa → Bool
  | .exm u v c => decide (u = x) && (decide (v = y) && decide (c = b))
  | _ => false
theorem TX.free (T : TX fa fn ex K mg) (x : Str) (h : fa.any (isFree x) = true) : mg x = none := by
  obtain ⟨f, e, o⟩ := T.fact _ h
  cases f with
  | free y =>
    have q : y = x := of_decide_eq_true e
    rw [← q]
    exact T.gn y (He.eqO_ok o)
  | _ => cases e
theorem TX.glo (T : TX fa fn ex K mg) (x : Str) (h : fa.any (isGlo x) = true) : mg x = some (.ref (He.ga K x)) := by
  obtain ⟨f, e, o⟩ := T.fact _ h
  cases f with
  | glo y =>
    have q : y = x := of_decide_eq_true e
    rw [← q]
    exact T.gl y _ (He.eqO_ok o)
  | _ => cases e
theorem TX.cls (T : TX fa fn ex K mg) (x : Str) (h : fa.any (isCls x) = true) : Cls K (He.ga K x) := by
  obtain ⟨f, e, o⟩ := T.fact _ h
  cases f with
  | cls y =>
    have q : y = x := of_decide_eq_true e
    rw [← q]
    exact He.cls_ok o
  | _ => cases e
theorem TX.mkr (T : TX fa fn ex K mg) (x : Str) (h : fa.any (isMkr x) = true) : Mk K (He.ga K x) (He.ma K (He.ga K x) "__init__") := by
  obtain ⟨f, e, o⟩ := T.fact _ h
  cases f with
  | mkr y =>
    have q : y = x := of_decide_eq_true e
    rw [← q]
    exact He.mkr_ok o
  | _ => cases e
theorem TX.noat (T : TX fa fn ex K mg) (x a : Str) (h : fa.any (isNoat x a) = true) : NoAttr K (He.ga K x) a := by
  obtain ⟨f, e, o⟩ := T.fact _ h
  cases f with
  | noat y g =>
    obtain ⟨q1, q2⟩ := He.ba e
    rw [← (of_decide_eq_true q1 : y = x), ← (of_decide_eq_true q2 : g = a)]
    exact He.noat_ok o
  | _ => cases e
theorem TX.meth (T : TX fa fn ex K mg) (x m : Str) (h : fa.any (isMeth x m) = true) : Meth K (He.ga K x) m (He.ma K (He.ga K x) m) := by
  obtain ⟨f, e, o⟩ := T.fact _ h
  cases f with
  | meth y g =>
    obtain ⟨q1, q2⟩ := He.ba e
    rw [← (of_decide_eq_true q1 : y = x), ← (of_decide_eq_true q2 : g = m)]
    exact He.meth_ok o
  | _ => cases e
theorem TX.exm (T : TX fa fn ex K mg) (x y : Str) (b : Bool) (h : fa.any (isExm x y b) = true) : PySem.W.exmOne K (.ref (He.ga K x)) (.ref (He.ga K y)) = some b := by
  obtain ⟨f, e, o⟩ := T.fact _ h
  cases f with
  | exm u v c =>
    obtain ⟨q1, q2⟩ := He.ba e
    obtain ⟨q2, q3⟩ := He.ba q2
    rw [← (of_decide_eq_true q1 : u = x), ← (of_decide_eq_true q2 : v = y), ← (of_decide_eq_true q3 : c = b)]
    exact He.exm_ok o
  | _ => cases e
theorem TX.fn_ (T : TX fa fn ex K mg) (i : Nat) {d : He.DefD} (h : fn[i]? = some d) : FunD K d.name d.qual d.params d.body d.scope (d.dvs K) (d.kws K) (He.fAd K d.at_) (fdOf K d.at_) := by
  obtain ⟨fd, F⟩ := T.d.def_ i h
  have e : fd = fdOf K d.at_ := by
    obtain ⟨oc, od, dV, kV, doc, pm, an, cdv, ct, osl, h1, h2, _⟩ := F.ex
    unfold fdOf
    rw [h2]
  rw [← e]
  exact F
end
/-! ### exception classes with an __init__ of their own -/
/-- the class object of an exception class over ValueError -/
def oexB (K : PySem.W.Frag) (C : Addr) : Bool := (match K.lookup C with
  | some ⟨.type "type", _, .cls cd, sl⟩ => (match cd.mro, sl.toList with
    | .ref C' :: bm, [_, _, _, _, some (.builtin n), _] => decide (C' = C) && (decide (n = "ValueError.__new__") && (!cd.hasDel && (cd.hasDict && PySem.HandSPX.refsVE bm)))
    | _, _ => false)
  | _ => false) && (decide (PySem.W.findIn K (.ref C) "__setattr__" = some (some (.builtin "object.__setattr__"))) && (decide (PySem.W.subIn K (.ref C) (.type "BaseException") = some true) && (decide (PySem.W.typeIn K (.ref C) = some (.type "type")) && PySem.W.keepIn K (.ref C))))
theorem oexB_ok {K : PySem.W.Frag} {C : Addr} (h : oexB K C = true) : OexC K C := by
  unfold oexB at h
  obtain ⟨h1, h⟩ := He.ba h
  obtain ⟨h2, h⟩ := He.ba h
  obtain ⟨h3, h⟩ := He.ba h
  obtain ⟨h4, h5⟩ := He.ba h
  refine ⟨?_, of_decide_eq_true h2, of_decide_eq_true h3, of_decide_eq_true h4, h5⟩
  split at h1
  · rename_i dd cd sl ho
    split at h1
    · rename_i C' bm k0 k1 k2 k3 n k5 hm hs
      obtain ⟨e1, h1⟩ := He.ba h1
      obtain ⟨e2, h1⟩ := He.ba h1
      obtain ⟨e3, h1⟩ := He.ba h1
      obtain ⟨e4, e5⟩ := He.ba h1
      obtain ⟨nm, bs, mro, ns, qn, hd, sn, sub, ab, col, del⟩ := cd
      dsimp only at hm e3 e4
      have q1 : C' = C := of_decide_eq_true e1
      have q2 : n = "ValueError.__new__" := of_decide_eq_true e2
      subst q1 q2 hm e4
      have q3 : del = false := by simpa using e3
      subst q3
      have hsl : sl = #[k0, k1, k2, k3, some (.builtin "ValueError.__new__"), k5] := by
        obtain ⟨l⟩ := sl
        simp only at hs
        rw [hs]
      subst hsl
      exact ⟨nm, qn, ns, bs, bm, sn, sub, ab, col, dd, k0, k1, k2, k3, k5, ho, e5⟩
    · cases h1
  · cases h1
/-- what an exception class with fields must say: its name in the module, its fields -/
structure ExcD where
  name : Str
  atts : List Str
def ExcD.ok (K : PySem.W.Frag) (e : ExcD) : Bool := oexB K (He.ga K e.name) && (xfB K (He.ga K e.name) && ((e.atts.all fun f => decide (PySem.W.findIn K (.ref (He.ga K e.name)) f = some none)) &&
  (decide (PySem.W.findIn K (.ref (He.ga K e.name)) "__init__" = some (some (.ref (He.ma K (He.ga K e.name) "__init__")))) && decide (PySem.W.typeIn K (.ref (He.ma K (He.ga K e.name) "__init__")) = some (.type "function")))))
structure ExcOk (K : PySem.W.Frag) (x : Str) : Prop where
  oex : OexC K (He.ga K x)
  xf : XfC K (He.ga K x)
  ini : PySem.W.findIn K (.ref (He.ga K x)) "__init__" = some (some (.ref (He.ma K (He.ga K x) "__init__")))
  fun_ : PySem.W.typeIn K (.ref (He.ma K (He.ga K x) "__init__")) = some (.type "function")
theorem ExcD.to {K : PySem.W.Frag} {e : ExcD} (h : e.ok K = true) : ExcOk K e.name ∧ ∀ f ∈ e.atts, PySem.W.findIn K (.ref (He.ga K e.name)) f = some none := by
  obtain ⟨h1, h⟩ := He.ba h
  obtain ⟨h2, h⟩ := He.ba h
  obtain ⟨h3, h⟩ := He.ba h
  obtain ⟨h4, h5⟩ := He.ba h
  exact ⟨⟨oexB_ok h1, xfB_ok h2, of_decide_eq_true h4, of_decide_eq_true h5⟩, fun f hf => of_decide_eq_true (List.all_eq_true.mp h3 f hf)⟩
/-- an instance class whose instances are asked by isinstance -/
def isiB (K : PySem.W.Frag) (C : Addr) : Bool := decide (PySem.W.findIn K (.ref C) "__class__" = some (some (.builtin "object.__class__"))) && (decide (PySem.W.specialIn K (.builtin "object.__class__") "__get__" = some (some (.builtin "getset_descriptor.__get__"))) &&
  (decide (PySem.W.takesIn K (.builtin "object.__class__") = some true) && decide (PySem.W.mroIn K C (.type "object") = some true)))
theorem isiB_ty {K : PySem.W.Frag} {C a dx : Addr} {fs : List (Str × V)} {H : Hp} (h : isiB K C = true) (c : Cls K C) (e : H a = some (.ins C dx fs)) : TyX K H (.ref a) (.ref C) := by
  obtain ⟨h1, h⟩ := He.ba h
  obtain ⟨h2, h⟩ := He.ba h
  obtain ⟨h3, h4⟩ := He.ba h
  exact .base (.ins e c (of_decide_eq_true h1) (of_decide_eq_true h2) (of_decide_eq_true h3) (of_decide_eq_true h4))
theorem kitO {K : PySem.W.Frag} {C : Addr} : PySem.W.kitOne K (.ref C) (.ref C) = some true := by
  unfold PySem.W.kitOne
  rw [if_pos (beq_self_eq_true _)]
end BF
/-! ## Further rules: operators of own classes, calls by keywords alone, exceptions without values -/
namespace BF
open PySem PySem.Spec PyProof.Rows L2
section
variable {X : Cx} {CX : CXT} {k : Nat} {f C : Addr} {fd : FuncData} {ps : List Str} {sp : Sp} {E : XK}
theorem cmpBack_of {pins : List (Addr × Obj)} {σ : L2.St} {Q : VK} {u : Value} {s' : Shared} (h : EP X pins σ Q u s') : PySem.W.CmpBack (EP X pins σ Q) u s' := by
  cases u with
  | notImplemented =>
    obtain ⟨v, H', I, r, q⟩ := h
    cases v with
    | non => cases r
    | bl b => cases r
    | int i => obtain ⟨t, r⟩ := r; cases r
    | str i => obtain ⟨t, r⟩ := r; cases r
    | byt i => obtain ⟨t, r⟩ := r; cases r
    | flt i => obtain ⟨t, r⟩ := r; cases r
    | ref a => cases r
    | ty n => cases r
  | _ => exact h
/-- a op b of two instances of the class at C by its own method -/
def rOwn (C : Addr) (sp : Sp) (E : XK) : R2 := fun x y H Q => ∃ a b dx dy fs gs, x = .ref a ∧ y = .ref b ∧ H a = some (.ins C dx fs) ∧ H b = some (.ins C dy gs) ∧ sp [.ref a, .ref b] H Q E
theorem op_ownB {op : Operator} (F : FnOk X.prog X.w X.K X.mg X.base CX k f fd ps sp) (hr : Room k X.A) (hc : PySem.W.selfFirst X.K C = true) (hs : PySem.W.findIn X.K (.ref C) (PySem.dunder op.info.2) = some (some (.ref f))) (hf : PySem.W.isFn X.K (.ref f) = true)
    (hb : Binds X.K fd ps []) (hx : Passes CX X E) : OpR X (binaryOp op) (rOwn C sp E) := by
  intro pins s σ H x y v u Q I rx ry hq
  obtain ⟨a, b, dx, dy, fs, gs, rfl, rfl, ha, hb', q⟩ := hq
  cases rx
  cases ry
  obtain ⟨mA, J, _⟩ := ins_get I.hok ha
  obtain ⟨mB, J', _⟩ := ins_get I.hok hb'
  obtain ⟨od, J, _⟩ := J.look
  obtain ⟨od', J', _⟩ := J'.look
  obtain ⟨m, hF⟩ := I.fr
  refine PySem.W.binop_K hF I.ok.mod.kin J J'.type hc hs hf ?_
  exact thn (run_fn (us := [.ref a, .ref b]) (vs := [.ref a, .ref b]) F hr hb .nil hx I (.cons rfl (.cons rfl .nil)) q) fun u s' h => cmpBack_of h
theorem op_ownEq (F : FnOk X.prog X.w X.K X.mg X.base CX k f fd ps sp) (hr : Room k X.A) (hs : PySem.W.findIn X.K (.ref C) "__eq__" = some (some (.ref f))) (hf : PySem.W.isFn X.K (.ref f) = true)
    (hb : Binds X.K fd ps []) (hx : Passes CX X E) : OpR X (compareOp .Eq) (rOwn C sp E) := by
  intro pins s σ H x y v u Q I rx ry hq
  obtain ⟨a, b, dx, dy, fs, gs, rfl, rfl, ha, hb', q⟩ := hq
  cases rx
  cases ry
  obtain ⟨mA, J, _⟩ := ins_get I.hok ha
  obtain ⟨mB, J', _⟩ := ins_get I.hok hb'
  obtain ⟨od, J, _⟩ := J.look
  obtain ⟨od', J', _⟩ := J'.look
  obtain ⟨m, hF⟩ := I.fr
  show wpAny (model X.prog X.w) X.A (richCompare .Eq (.ref a) (.ref b)) (EP X pins σ Q) X.xe s
  refine PySem.W.cmp_K (op := .Eq) (tb := .ref C) hr.units0 hF I.ok.mod.kin J J'.type (by simp [PySem.W.notFirst]) hs hf ?_
  exact thn (run_fn (us := [.ref a, .ref b]) (vs := [.ref a, .ref b]) F hr hb .nil hx I (.cons rfl (.cons rfl .nil)) q) fun u s' h => cmpBack_of h
/-- ~a of an instance of the class at C -/
def rOwn1 (C : Addr) (sp : Sp) (E : XK) : V → Hp → VK → Prop := fun x H Q => ∃ a dx fs, x = .ref a ∧ H a = some (.ins C dx fs) ∧ sp [.ref a] H Q E
theorem un_ownInv (F : FnOk X.prog X.w X.K X.mg X.base CX k f fd ps sp) (hr : Room k X.A) (hs : PySem.W.findIn X.K (.ref C) "__invert__" = some (some (.ref f))) (hf : PySem.W.isFn X.K (.ref f) = true)
    (hb : Binds X.K fd ps []) (hx : Passes CX X E) : UnR X (unaryOp .Invert) (rOwn1 C sp E) := by
  intro pins s σ H x v Q I rx hq
  obtain ⟨a, dx, fs, rfl, ha, q⟩ := hq
  cases rx
  obtain ⟨mA, J, _⟩ := ins_get I.hok ha
  obtain ⟨od, J, _⟩ := J.look
  obtain ⟨m, hF⟩ := I.fr
  refine PySem.W.ksp_inv hF I.ok.mod.kin J hs hf ?_
  exact run_fn (us := [.ref a]) (vs := [.ref a]) F hr hb .nil hx I (.cons rfl .nil) q
theorem x_own {sp : Sp} {K : PySem.W.Frag} {H : Hp} {a b dx dy : Addr} {fs gs : List (Str × V)} {Q : VK} (h1 : H a = some (.ins C dx fs)) (h2 : H b = some (.ins C dy gs)) (k : sp [.ref a, .ref b] H Q E) : rOwn C sp E (.ref a) (.ref b) H Q := ⟨a, b, dx, dy, fs, gs, rfl, rfl, h1, h2, k⟩
theorem x_own1 {sp : Sp} {H : Hp} {a dx : Addr} {fs : List (Str × V)} {Q : VK} (h1 : H a = some (.ins C dx fs)) (k : sp [.ref a] H Q E) : rOwn1 C sp E (.ref a) H Q := ⟨a, dx, fs, rfl, h1, k⟩
end
section
variable {X : Cx} {CX : CXT} {k n : Nat} {f : Addr} {fd : FuncData} {ps ks : List Str} {sp : Sp} {E : XK} {x : Str} {p pos : Pos} {kws : List Keyword} {tk : TA} {g : List Value → List Value → List Value} {gV : List V → List V → List V}
/-- f(k = v, ..): keywords alone -/
theorem pe_callN0 (F : FnOk X.prog X.w X.K X.mg X.base CX k f fd ps sp) (hr : Room k X.A) (hg : Gl X x) (hm : X.mg x = some (.ref f)) (hk : PySem.W.keepIn X.K (.ref f) = true) (hb : KBn X.K fd ps 0 ks g gV) (hx : Passes CX X E)
    (hkw : PK X kws tk) (hall : (backToKw pos (keywordEach kws X.env)).all (·.1.isSome) = true := by rfl) (hks : (backToKw pos (keywordEach kws X.env)).filterMap (·.1) = ks := by rfl)
    (hdb : (x == ("__debug__" : Str)) = false := by decide)
    (hpl : ((backTo pos (starEach [] X.env)).any (·.1) || (backToKw pos (keywordEach kws X.env)).any (·.1.isNone)) = false := by rfl) :
    PE X (.Call (.Name x p) [] kws pos) (tCallN 0 ks.length sp gV E tNil tk) := by
  refine ⟨fun pins s σ H Q I h => ?_⟩
  refine wpAny_Call_Name_kw (ld_glob I hg hm ?_ hdb)
  refine PySem.W.callWith_KW0 (h₀ := X.base) I.ok.mod.kin hk hall ?_ hpl
  refine thn (hkw.run pos pins s σ H _ I h) fun ws s2 ⟨zs, H2, I2, rz, l1, l2, q2⟩ => ⟨I2.kIn, ?_⟩
  rw [hks]
  exact run_fnN (us := []) (vs := []) F hr hb hx I2 .nil rz l1 l2 q2
/-- binding by keywords, no defaults: g puts the positional values and the keywords' values in the parameters' order -/
theorem kbn_of {K : PySem.W.Frag} {x qual : Str} {params : Arguments} {body : List Stmt} {scope : Scope} {kws : List (Str × V)} {f : Addr} {fd : FuncData} {ps : List Str} (F : FunD K x qual params body scope [] kws f fd) (n : Nat) (ks : List Str) (g : {α : Type} → List α → List α → List α)
    (hrel : ∀ {vs zs : List V} {us ws : List Value}, Vals vs us → Vals zs ws → Vals (g vs zs) (g us ws))
    (h : ∀ (kV doc pm : Value) (an : Option Addr) (cdv ct : Value) (us ws : List Value), us.length = n → ws.length = ks.length → bindArgs (PySem.W.fnOf x qual params body scope .none kV doc pm an cdv ct) ⟨us, ks.zip ws⟩ = pure (ps.zip (g us ws))) :
    KBn K fd ps n ks (fun us ws => g us ws) (fun vs zs => g vs zs) := by
  obtain ⟨oc, od, dV, kV, doc, pm, an, cdv, ct, osl, rfl, lk, hcd, hD, hK⟩ := F.ex
  rcases hD with ⟨_, rfl⟩ | ⟨e, _⟩
  · exact ⟨fun s us ws _ l1 l2 => .of_eq (h kV doc pm an cdv ct us ws l1 l2), fun r1 r2 => hrel r1 r2⟩
  · exact absurd rfl e
end
section
variable {X : Cx} {CX : CXT} {k : Nat} {fI C : Addr} {fd : FuncData} {ps : List Str} {sp : Sp} {x : Str} {p pos : Pos}
/-- raise C() -/
theorem pmk_oex0 (T : OexC X.K C) (iC : PySem.W.findIn X.K (.ref C) "__init__" = some (some (.ref fI))) (tI : PySem.W.typeIn X.K (.ref fI) = some (.type "function"))
    (F1 : FnOk X.prog X.w X.K X.mg X.base CX k fI fd ps sp) (hr : Room (k + 1) X.A) (hb : Binds X.K fd ps []) (hx : Passes CX X (fun _ _ _ => False)) (hg : Gl X x) (hm : X.mg x = some (.ref C))
    (hdb : (x == ("__debug__" : Str)) = false := by decide) :
    PMk X (.Call (.Name x p) [] [] pos) (tMkO C sp [] tNil) := by
  intro pins s σ H Q I h
  obtain ⟨nm, q, N, bs, bm, sn, sub, ab, col, dd, k0, k1, k2, k3, k5, hC, hbm⟩ := T.cls
  refine wpAny_Call_Name_kw (ld_glob I hg hm ?_ hdb)
  obtain ⟨hz, q1⟩ := h
  refine PySem.W.callWith_K0 I.kIn T.kC ?_
  show wpAny _ _ (call (.ref C) []) _ _ _
  obtain ⟨hp, g, dr, tk, os⟩ := s
  have hsz : hp.objs.size ≤ hp.objs.size + 1 := Nat.le_succ _
  have hn : H (hp.objs.size + 1) = none := I.hok.fresh hsz
  have hq := q1 (hp.objs.size + 1) hn
  have kk : ∀ b o, hp.get? b = some o → ((hp.push (PySem.W.kdv_tup [])).push (PySem.HandSPX.excO C hp.objs.size)).get? b = some o := fun b o e => Heap.get?_push_of_some _ (Heap.get?_push_of_some _ e)
  have hget : ((hp.push (PySem.W.kdv_tup [])).push (PySem.HandSPX.excO C hp.objs.size)).get? (hp.objs.size + 1) = some (PySem.HandSPX.excO C hp.objs.size) := by heap_get
  have I2 : Inv X pins σ (upd H (hp.objs.size + 1) (exo (hp.objs.size + 1) C none)) ⟨(hp.push (PySem.W.kdv_tup [])).push (PySem.HandSPX.excO C hp.objs.size), g, dr, tk, os⟩ :=
    I.laid (t' := tk) (a := hp.objs.size + 1) (o := exo (hp.objs.size + 1) C none) (h' := (hp.push (PySem.W.kdv_tup [])).push (PySem.HandSPX.excO C hp.objs.size)) kk hsz (exo_ok hget)
  have r2 : Vals [V.ref (hp.objs.size + 1)] [Value.ref (hp.objs.size + 1)] := .cons rfl .nil
  have hl : ([Value.ref (hp.objs.size + 1)] ++ ([] : List Value)).length = ps.length := by
    have e := r2.length
    have e2 := F1.len _ _ _ _ hq
    rw [← e2] <;> rfl
  refine wpAny_call (PySem.HandSPX.call_own F.excBase_ValueError (fun Y => PySem.HandSPX.refsVE_contains Y bm hbm) (I.kIn _ _ hC) (PySem.W.looks_findIn I.kIn iC) (fun self => PySem.W.bind_fn I.kIn self tI) (rest := []) (Nat.zero_le _)
    (codeAny_mono (F1.run _ X.stack _ _ ⟨[Value.ref (hp.objs.size + 1)], []⟩ ([Value.ref (hp.objs.size + 1)] ++ []) _ _ (fun _ _ _ => False) (hr.make C [] []) (I2.env0.make C [] []) (hb _ [Value.ref (hp.objs.size + 1)] I2.kIn hl) r2 hq) fun r s' hq' => ?_))
  cases r with
  | error er => exact hx pins σ _ _ er s' I2 hq'
  | ok fl =>
    cases fl with
    | ret u =>
      obtain ⟨v, H2, os2, bare2, un2, hok2, rv, ev, d, fs, ea, ed, hd1, q2⟩ := hq'
      subst ev
      obtain ⟨h2, g2, d2, t2, os'⟩ := s'
      exact ⟨rv, mk_end (raises_own T.exC T.tyC) I hsz kk un2 hok2 os2 bare2 ea ed hd1 q2⟩
    | next => exact False.elim hq'
    | brk => exact False.elim hq'
    | cont => exact False.elim hq'
end
end BF
/-! ## Loops, comprehensions, data, isinstance -/
namespace BF
open PySem PySem.Spec PyProof.Rows L2
section
variable {K : PySem.W.Frag} {σ : L2.St} {H : Hp} {D : Ends} {g : TG} {tb : TS} {xs ys : List V}
theorem x_for {wi : TI} (k : wi σ H fun J H1 => ∃ W : Nat → Nat → L2.St → Hp → Prop, (∃ m, W 0 m σ H1) ∧ ∀ i m σ H, W i m σ H →
    (J.stop i H ∧ D.nx σ H) ∨ (J.go i H ∧ ∃ N : L2.St → Hp → Prop, (∀ σ' H', N σ' H' → ∃ m', m' < m ∧ W (i + 1) m' σ' H') ∧ ∀ x H', J.yld i H x H' → g x σ H' fun σ2 H2 => tb { D with nx := N, ct := N, bk := D.nx } σ2 H2)) : tFor wi g tb D σ H := k
theorem x_ilist {tl : TE} {R : It → Hp → Prop} (k : tl σ H fun x H1 => ∃ a, x = .ref a ∧ (∃ xs, SqL K H1 a xs) ∧ R (Itl K a) H1) : iList K tl σ H R := k
theorem x_itup {tl : TE} {R : It → Hp → Prop} (k : tl σ H fun x H1 => ∃ a, x = .ref a ∧ (∃ xs, SqT K H1 a xs) ∧ R (Itt K a) H1) : iTup K tl σ H R := k
theorem x_irng {ta : TA} {R : It → Hp → Prop} (k : ta σ H fun vs H1 => ∃ j : Int, vs = [.int j] ∧ -(2 ^ 62) ≤ j ∧ j < 2 ^ 62 ∧ R (Itr 0 j.toNat) H1) : iRng1 ta σ H R := k
theorem x_izipA {ta : TA} {R : It → Hp → Prop} (k : ta σ H fun vs H1 => ∃ a b xs ys, vs = [.ref a, .ref b] ∧ ((SqL K H1 a xs ∧ SqL K H1 b ys ∧ R (Itz K a b) H1) ∨ (SqT K H1 a xs ∧ SqT K H1 b ys ∧ R (RZ.ItzT K a b) H1))) : RZ.iZipA K ta σ H R := k
theorem x_onList {a : Addr} {R : Addr → Prop} (h : SqL K H a xs) (k : R a) : ∃ a', V.ref a = .ref a' ∧ (∃ xs, SqL K H a' xs) ∧ R a' := ⟨a, rfl, ⟨xs, h⟩, k⟩
theorem x_onTup {a : Addr} {R : Addr → Prop} (h : SqT K H a xs) (k : R a) : ∃ a', V.ref a = .ref a' ∧ (∃ xs, SqT K H a' xs) ∧ R a' := ⟨a, rfl, ⟨xs, h⟩, k⟩
theorem x_onRng {j : Int} {R : Int → Prop} (h0 : -1000000000000 ≤ j) (h1 : j ≤ 1000000000000) (k : R j) : ∃ j' : Int, [V.int j] = [.int j'] ∧ -(2 ^ 62) ≤ j' ∧ j' < 2 ^ 62 ∧ R j' := ⟨j, rfl, by omega, by omega, k⟩
theorem x_onZipL {a b : Addr} {R R' : Addr → Addr → Prop} (h : SqL K H a xs) (h' : SqL K H b ys) (k : R a b) :
    ∃ a' b' xs ys, [V.ref a, V.ref b] = [.ref a', .ref b'] ∧ ((SqL K H a' xs ∧ SqL K H b' ys ∧ R a' b') ∨ (SqT K H a' xs ∧ SqT K H b' ys ∧ R' a' b')) := ⟨a, b, xs, ys, rfl, .inl ⟨h, h', k⟩⟩
theorem x_onZipT {a b : Addr} {R R' : Addr → Addr → Prop} (h : SqT K H a xs) (h' : SqT K H b ys) (k : R' a b) :
    ∃ a' b' xs ys, [V.ref a, V.ref b] = [.ref a', .ref b'] ∧ ((SqL K H a' xs ∧ SqL K H b' ys ∧ R a' b') ∨ (SqT K H a' xs ∧ SqT K H b' ys ∧ R' a' b')) := ⟨a, b, xs, ys, rfl, .inr ⟨h, h', k⟩⟩
theorem walk_zipT {a b : Addr} {n : Nat} (hn : n = min xs.length ys.length) : Walk (RZ.ItzT K a b) n (fun H => SqT K H a xs ∧ SqT K H b ys) (YPair (fun i => xs[i]?) (fun i => ys[i]?)) := by
  subst hn
  refine ⟨fun i _ hi q => ?_, fun _ q => ⟨xs, ys, q.1, q.2, by omega⟩, fun i H v H' _ q y => ?_⟩
  · have h1 : i < xs.length := by omega
    have h2 : i < ys.length := by omega
    exact ⟨xs, ys, xs[i], ys[i], q.1, q.2, by simp [h1], by simp [h2]⟩
  · obtain ⟨T, x, z, h1, h2, h3, h4, h5⟩ := y
    exact ⟨T, x, z, h1, h2, h3, h4 xs q.1, h5 ys q.2⟩
theorem x_lc {wi : TI} {tt : TT} {te : TE} {vs : List Nat} {Q : VK} (k : wi σ H fun J H1 => ∀ D, H1 D = none → ∃ W : Nat → Nat → Hp → Prop, (∃ m, W 0 m (upd H1 D (.lst []))) ∧ ∀ i m H, W i m H →
  (J.stop i H ∧ Q (.ref D) H) ∨ (J.go i H ∧ ∃ Nx : Hp → Prop, (∀ H', Nx H' → ∃ m', m' < m ∧ W (i + 1) m' H') ∧ ∀ x H', J.yld i H x H' → g x (wipe σ vs) H' fun σ2 H2 => wipe σ2 vs = wipe σ vs ∧ tt σ2 H2 fun b H3 =>
    if b = true then te σ2 H3 fun y H4 => ∃ acc, H4 D = some (.lst acc) ∧ acc.length < sizeLine ∧ Nx (upd H4 D (.lst (acc ++ [y]))) else Nx H3)) : tLc wi g tt te vs σ H Q := k
/-- what is known between a comprehension's turns: D the new list, M what the turns may change, R of the list so far -/
def LCP (M : List Addr) (H1 : Hp) (R : Nat → List V → Hp → Prop) (D : Addr) (i : Nat) (H : Hp) : Prop := ∃ acc, H D = some (.lst acc) ∧ acc.length ≤ i ∧ Ex M H1 H ∧ R i acc H
theorem lc_push {M : List Addr} {H1 H H4 : Hp} {R : Nat → List V → Hp → Prop} {D : Addr} {i : Nat} {acc : List V} {y : V} (hM : Al M H1) (stab : ∀ i acc H o, R i acc H → R i acc (upd H D o)) (hD : H1 D = none) (hi : i < 1000000) (hacc : H D = some (.lst acc)) (hl : acc.length ≤ i)
    (e : Ex M H1 H) (e4 : Ex M H H4) (r : R (i + 1) (acc ++ [y]) H4) : ∃ acc, H4 D = some (.lst acc) ∧ acc.length < sizeLine ∧ LCP M H1 R D (i + 1) (upd H4 D (.lst (acc ++ [y]))) :=
  ⟨acc, e4 D _ (hM.out hD) hacc, sz_lt (by omega), acc ++ [y], upd_same, by rw [List.length_append]; exact Nat.add_le_add_right hl 1, Ex.mut hD (e.tr e4), stab _ _ _ _ r⟩
theorem lc_skip {M : List Addr} {H1 H H3 : Hp} {R : Nat → List V → Hp → Prop} {D : Addr} {i : Nat} {acc : List V} (hM : Al M H1) (hD : H1 D = none) (hacc : H D = some (.lst acc)) (hl : acc.length ≤ i)
    (e : Ex M H1 H) (e3 : Ex M H H3) (r : R (i + 1) acc H3) : LCP M H1 R D (i + 1) H3 := ⟨acc, e3 D _ (hM.out hD) hacc, Nat.le_succ_of_le hl, e.tr e3, r⟩
theorem x_lcW {J : It} {n : Nat} {G : Hp → Prop} {Y : Nat → Hp → V → Hp → Prop} (w : Walk J n G Y) {tt : TT} {te : TE} {vs : List Nat} {H1 : Hp} {Qd : Addr → Hp → Prop} (M : List Addr) (R : Nat → List V → Hp → Prop)
    (h0 : ∀ D o, H1 D = none → R 0 [] (upd H1 D o)) (hG : ∀ H, Ex M H1 H → G H)
    (hs : ∀ D i x H H' acc, H1 D = none → i < n → H D = some (.lst acc) → acc.length ≤ i → Ex M H1 H → R i acc H → Y i H x H' → g x (wipe σ vs) H' fun σ2 H2 => wipe σ2 vs = wipe σ vs ∧ tt σ2 H2 fun b H3 =>
      if b = true then te σ2 H3 fun y H4 => ∃ acc, H4 D = some (.lst acc) ∧ acc.length < sizeLine ∧ LCP M H1 R D (i + 1) (upd H4 D (.lst (acc ++ [y]))) else LCP M H1 R D (i + 1) H3)
    (hd : ∀ D H acc, H1 D = none → H D = some (.lst acc) → acc.length ≤ n → Ex M H1 H → R n acc H → Qd D H) :
    ∀ D, H1 D = none → ∃ W : Nat → Nat → Hp → Prop, (∃ m, W 0 m (upd H1 D (.lst []))) ∧ ∀ i m H, W i m H →
      (J.stop i H ∧ Qd D H) ∨ (J.go i H ∧ ∃ Nx : Hp → Prop, (∀ H', Nx H' → ∃ m', m' < m ∧ W (i + 1) m' H') ∧ ∀ x H', J.yld i H x H' → g x (wipe σ vs) H' fun σ2 H2 => wipe σ2 vs = wipe σ vs ∧ tt σ2 H2 fun b H3 =>
        if b = true then te σ2 H3 fun y H4 => ∃ acc, H4 D = some (.lst acc) ∧ acc.length < sizeLine ∧ Nx (upd H4 D (.lst (acc ++ [y]))) else Nx H3) := by
  intro D hD
  refine lc_it w (LCP M H1 R D) ⟨[], upd_same, Nat.le_refl _, Ex.new hD, h0 D _ hD⟩ (fun i H _ ⟨acc, _, _, e, _⟩ => hG H e) ?_ ?_
  · rintro i x H H' hi ⟨acc, hacc, hl, e, r⟩ y
    exact hs D i x H H' acc hD hi hacc hl e r y
  · rintro H ⟨acc, hacc, hl, e, r⟩
    exact hd D H acc hD hacc hl e r
end

/-! ### data -/
inductive DV where
  | non | bl (b : Bool) | int (i : Int) | str (x : Str) | lst (ds : List DV) | tup (ds : List DV)
mutual
inductive Dat (K : PySem.W.Frag) (M : List Addr) (H : Hp) : V → DV → Prop
  | non : Dat K M H .non .non
  | bl (b : Bool) : Dat K M H (.bl b) (.bl b)
  | int (i : Int) : Dat K M H (.int i) (.int i)
  | str (x : Str) : Dat K M H (.str x) (.str x)
  | lst {a : Addr} {xs : List V} {ds : List DV} : SqL K H a xs → a ∉ M → DatL K M H xs ds → Dat K M H (.ref a) (.lst ds)
  | tup {a : Addr} {xs : List V} {ds : List DV} : SqT K H a xs → a ∉ M → DatL K M H xs ds → Dat K M H (.ref a) (.tup ds)
inductive DatL (K : PySem.W.Frag) (M : List Addr) (H : Hp) : List V → List DV → Prop
  | nil : DatL K M H [] []
  | cons {v : V} {vs : List V} {d : DV} {ds : List DV} : Dat K M H v d → DatL K M H vs ds → DatL K M H (v :: vs) (d :: ds)
end
section
variable {K : PySem.W.Frag} {M M' : List Addr} {H H' : Hp}
mutual
theorem Dat.ex (e : Ex M' H H') (s : ∀ x ∈ M', x ∈ M) : ∀ {v : V} {d : DV}, Dat K M H v d → Dat K M H' v d
  | _, _, .non => .non
  | _, _, .bl b => .bl b
  | _, _, .int i => .int i
  | _, _, .str x => .str x
  | _, _, .lst h n l => .lst (sql_ex e (fun z => n (s _ z)) h) n (DatL.ex e s l)
  | _, _, .tup h n l => .tup (sqt_ex e (fun z => n (s _ z)) h) n (DatL.ex e s l)
theorem DatL.ex (e : Ex M' H H') (s : ∀ x ∈ M', x ∈ M) : ∀ {vs : List V} {ds : List DV}, DatL K M H vs ds → DatL K M H' vs ds
  | _, _, .nil => .nil
  | _, _, .cons h l => .cons (Dat.ex e s h) (DatL.ex e s l)
end
mutual
theorem Dat.sub (s : ∀ x ∈ M', x ∈ M) : ∀ {v : V} {d : DV}, Dat K M H v d → Dat K M' H v d
  | _, _, .non => .non
  | _, _, .bl b => .bl b
  | _, _, .int i => .int i
  | _, _, .str x => .str x
  | _, _, .lst h n l => .lst h (fun z => n (s _ z)) (DatL.sub s l)
  | _, _, .tup h n l => .tup h (fun z => n (s _ z)) (DatL.sub s l)
theorem DatL.sub (s : ∀ x ∈ M', x ∈ M) : ∀ {vs : List V} {ds : List DV}, DatL K M H vs ds → DatL K M' H vs ds
  | _, _, .nil => .nil
  | _, _, .cons h l => .cons (Dat.sub s h) (DatL.sub s l)
end
theorem DatL.length : ∀ {vs : List V} {ds : List DV}, DatL K M H vs ds → vs.length = ds.length
  | _, _, .nil => rfl
  | _, _, .cons _ l => congrArg Nat.succ (DatL.length l)
theorem DatL.get : ∀ {vs : List V} {ds : List DV} {i : Nat} {v : V}, DatL K M H vs ds → vs[i]? = some v → ∃ d, ds[i]? = some d ∧ Dat K M H v d
  | _, _, i, _, .nil, e => by simp at e
  | _, _, 0, _, .cons h _, e => by
    simp at e
    subst e
    exact ⟨_, rfl, h⟩
  | _, _, i + 1, _, .cons _ l, e => by
    obtain ⟨d, h1, h2⟩ := DatL.get (i := i) l (by simpa using e)
    exact ⟨d, by simpa using h1, h2⟩
theorem DatL.at : ∀ {vs : List V} {ds : List DV} {i : Nat} {d : DV}, DatL K M H vs ds → ds[i]? = some d → ∃ v, vs[i]? = some v ∧ Dat K M H v d
  | _, _, i, _, .nil, e => by simp at e
  | _, _, 0, _, .cons h _, e => by
    simp at e
    subst e
    exact ⟨_, rfl, h⟩
  | _, _, i + 1, _, .cons _ l, e => by
    obtain ⟨d, h1, h2⟩ := DatL.at (i := i) l (by simpa using e)
    exact ⟨d, by simpa using h1, h2⟩
theorem DatL.ints : ∀ (ns : List Int), DatL K M H (ns.map V.int) (ns.map DV.int)
  | [] => .nil
  | n :: ns => .cons (.int n) (DatL.ints ns)
theorem DatL.app : ∀ {vs vs' : List V} {ds ds' : List DV}, DatL K M H vs ds → DatL K M H vs' ds' → DatL K M H (vs ++ vs') (ds ++ ds')
  | _, _, _, _, .nil, h => h
  | _, _, _, _, .cons a l, h => .cons a (DatL.app l h)
end
/-- how deep a datum is nested -/
inductive Deep : Nat → DV → Prop
  | non {n} : Deep n .non
  | bl {n} (b : Bool) : Deep n (.bl b)
  | int {n} (i : Int) : Deep n (.int i)
  | str {n} (x : Str) : Deep n (.str x)
  | lst {n} {ds : List DV} : ds.length < 1000000 → (∀ d ∈ ds, Deep n d) → Deep (n + 1) (.lst ds)
  | tup {n} {ds : List DV} : ds.length < 1000000 → (∀ d ∈ ds, Deep n d) → Deep (n + 1) (.tup ds)
/-- its type -/
def DV.ty : DV → String
  | .non => "NoneType" | .bl _ => "bool" | .int _ => "int" | .str _ => "str" | .lst _ => "list" | .tup _ => "tuple"
theorem ty_sqL {K : PySem.W.Frag} {H : Hp} {a : Addr} {xs : List V} (h : SqL K H a xs) : TyX K H (.ref a) (.type "list") := by
  rcases h with (h | ⟨o, h⟩) | ⟨o, its, n, h, hc, _⟩
  · exact .base (.lst h)
  · exact .base (.frz h)
  · exact .kList h hc
theorem ty_sqT {K : PySem.W.Frag} {H : Hp} {a : Addr} {xs : List V} (h : SqT K H a xs) : TyX K H (.ref a) (.type "tuple") := by
  rcases h with (h | ⟨o, h⟩) | ⟨o, its, n, h, hc, _⟩
  · exact .base (.tup h)
  · exact .fTuple h
  · exact .kTuple h hc
theorem Dat.ty {K : PySem.W.Frag} {M : List Addr} {H : Hp} {v : V} {d : DV} (h : Dat K M H v d) : TyX K H v (.type d.ty) := by
  cases h with
  | non => exact .base .non
  | bl b => exact .base (.bl b)
  | int i => exact .base (.int i)
  | str x => exact .base (.str x)
  | lst h _ _ => exact ty_sqL h
  | tup h _ _ => exact ty_sqT h
theorem x_isi {K : PySem.W.Frag} {H : Hp} {Q : VK} {x : V} {a b : String} {r : Bool} (h : TyX K H x (.type a)) (e : kitB a b = some r) (k : Q (.bl r) H) : rIsi K [x, .ty b] H Q := ⟨x, .ty b, .type a, .type b, r, rfl, .ty b, h, kit_ty e, k⟩
theorem kitLT {K : PySem.W.Frag} {a : String} {r1 r2 : Bool} (h1 : kitB a "list" = some r1) (h2 : kitB a "tuple" = some r2) : PySem.W.kitAny K (.type a) [.type "list", .type "tuple"] = some (r1 || r2) := by
  refine kitAny_cons (b := r1) (kit_ty h1) (fun e => ?_) (fun e => by rw [e]; rfl)
  rw [e]
  refine kitAny_cons (b := r2) (kit_ty h2) (fun e => ?_) (fun e => by rw [e]; rfl)
  rw [e]
  exact kitAny_nil
theorem x_isiLT {K : PySem.W.Frag} {H : Hp} {Q : VK} {x : V} {tp : Addr} {a : String} {r1 r2 : Bool} (h : TyX K H x (.type a)) (ht : H tp = some (.tup [.ty "list", .ty "tuple"])) (e1 : kitB a "list" = some r1) (e2 : kitB a "tuple" = some r2) (k : Q (.bl (r1 || r2)) H) :
    rIsiT K [x, .ref tp] H Q := ⟨x, tp, _, .type a, [.type "list", .type "tuple"], r1 || r2, rfl, ht, .cons (.ty _) (.cons (.ty _) .nil), h, kitLT e1 e2, k⟩
theorem fnOk_false {P : Program} {w : World} {K : PySem.W.Frag} {mg : Str → Option Value} {base : Heap} {CX : CXT} {k : Nat} {f : Addr} {fd : FuncData} {ps : List Str} : FnOk P w K mg base CX k f fd ps (fun _ _ _ _ => False) :=
  ⟨fun _ _ _ _ h => h.elim, fun _ _ _ _ _ _ _ _ _ _ _ _ _ h => h.elim⟩
theorem x_yes {σ : L2.St} {H : Hp} {Q : Bool → Hp → Prop} (k : Q true H) : tYes σ H Q := k
theorem x_all {K : PySem.W.Frag} {H : Hp} {Q : VK} {a : Addr} {bs : List Bool} (h : SqL K H a (bs.map V.bl)) (k : Q (.bl (bs.all id)) H) : rAll K [.ref a] H Q := ⟨a, bs, rfl, h, k⟩
end BF
/-! ## isinstance of plain values against plain types, and whether two data are the same -/
namespace BF
open PySem PySem.Spec PyProof.Rows L2
theorem kb_NoneType_list : kitB "NoneType" "list" = some false := by decide +kernel
theorem kb_NoneType_tuple : kitB "NoneType" "tuple" = some false := by decide +kernel
theorem kb_NoneType_bool : kitB "NoneType" "bool" = some false := by decide +kernel
theorem kb_NoneType_str : kitB "NoneType" "str" = some false := by decide +kernel
theorem kb_NoneType_int : kitB "NoneType" "int" = some false := by decide +kernel
theorem kb_bool_list : kitB "bool" "list" = some false := by decide +kernel
theorem kb_bool_tuple : kitB "bool" "tuple" = some false := by decide +kernel
theorem kb_bool_bool : kitB "bool" "bool" = some true := by decide +kernel
theorem kb_bool_str : kitB "bool" "str" = some false := by decide +kernel
theorem kb_bool_int : kitB "bool" "int" = some true := by decide +kernel
theorem kb_int_list : kitB "int" "list" = some false := by decide +kernel
theorem kb_int_tuple : kitB "int" "tuple" = some false := by decide +kernel
theorem kb_int_bool : kitB "int" "bool" = some false := by decide +kernel
theorem kb_int_str : kitB "int" "str" = some false := by decide +kernel
theorem kb_int_int : kitB "int" "int" = some true := by decide +kernel
theorem kb_str_list : kitB "str" "list" = some false := by decide +kernel
theorem kb_str_tuple : kitB "str" "tuple" = some false := by decide +kernel
theorem kb_str_bool : kitB "str" "bool" = some false := by decide +kernel
theorem kb_str_str : kitB "str" "str" = some true := by decide +kernel
theorem kb_str_int : kitB "str" "int" = some false := by decide +kernel
theorem kb_list_list : kitB "list" "list" = some true := by decide +kernel
theorem kb_list_tuple : kitB "list" "tuple" = some false := by decide +kernel
theorem kb_list_bool : kitB "list" "bool" = some false := by decide +kernel
theorem kb_list_str : kitB "list" "str" = some false := by decide +kernel
theorem kb_list_int : kitB "list" "int" = some false := by decide +kernel
theorem kb_tuple_list : kitB "tuple" "list" = some false := by decide +kernel
theorem kb_tuple_tuple : kitB "tuple" "tuple" = some true := by decide +kernel
theorem kb_tuple_bool : kitB "tuple" "bool" = some false := by decide +kernel
theorem kb_tuple_str : kitB "tuple" "str" = some false := by decide +kernel
theorem kb_tuple_int : kitB "tuple" "int" = some false := by decide +kernel
section
variable {X : Cx}
theorem op_addUK (K : PySem.W.Frag) (h : X.K = K := by rfl) : OpR X (binaryOp .Add) (rAddU K) := h ▸ op_addU
theorem ix_LTK (K : PySem.W.Frag) (h : X.K = K := by rfl) : IxR X (rIxLT K) := h ▸ ix_LT
theorem call_lenLTK (K : PySem.W.Frag) (h : X.K = K := by rfl) : CallR X (.builtin "len") (rLenLT K) := h ▸ call_lenLT
theorem call_listLTK (K : PySem.W.Frag) (h : X.K = K := by rfl) : CallR X (.type "list") (rListLT K) := h ▸ call_listLT
theorem call_tupLTK (K : PySem.W.Frag) (h : X.K = K := by rfl) : CallR X (.type "tuple") (rTupLT K) := h ▸ call_tupLT
theorem call_isiK' (K : PySem.W.Frag) (h : X.K = K := by rfl) : CallR X (.builtin "isinstance") (rIsi K) := h ▸ call_isi
theorem call_isiTK (K : PySem.W.Frag) (h : X.K = K := by rfl) : CallR X (.builtin "isinstance") (rIsiT K) := h ▸ call_isiT
theorem op_inK (K : PySem.W.Frag) (h : X.K = K := by rfl) : OpR X (compareOp .In) (rIn K false) := h ▸ op_in_seq
theorem op_notInK (K : PySem.W.Frag) (h : X.K = K := by rfl) : OpR X (compareOp .NotIn) (rIn K true) := h ▸ op_notIn_seq
theorem op_eqDK (K : PySem.W.Frag) (hu : X.A.units + 64 < cLine) (h : X.K = K := by rfl) : OpR X (compareOp .Eq) (rEqD K) := h ▸ op_eqD hu
theorem op_neDK (K : PySem.W.Frag) (hu : X.A.units + 64 < cLine) (h : X.K = K := by rfl) : OpR X (compareOp .NotEq) (rNeD K) := h ▸ op_neD hu
theorem cr_allK (K : PySem.W.Frag) (hc : X.calm = true := by rfl) (h : X.K = K := by rfl) : CallR X (.builtin "all") (rAll K) := h ▸ cr_all hc
theorem sl_listK (K : PySem.W.Frag) (h : X.K = K := by rfl) : SlR X (rSlL K) := h ▸ sl_list
theorem pe_fldK (K : PySem.W.Frag) {o : Expr} {f : Str} {ta : TE} {pos : Pos} (he : PE X o ta) (hb : attributeBase o f X.env (eval o X.env) = eval o X.env := by rfl) (h : X.K = K := by rfl) : PE X (.Attribute o f pos) (tFld K ta f) := h ▸ pe_fld he hb
end
/-! ### new tuples and lists, the heap behind them told by what it keeps -/
section
variable {X : Cx} {es : List Expr} {t : TA} {pos : Pos}
def tW (t : TA) : TA := fun σ H Q => ∃ P : List V → Hp → Prop, t σ H P ∧ ∀ xs H1, P xs H1 → Q xs H1
theorem pa_weak (h : PA X es t) : PA X es (tW t) := ⟨fun pos pins s σ H Q I ⟨P, hp, k⟩ => thn (h.run pos pins s σ H P I hp) fun us s1 ⟨vs, H1, I1, r, q⟩ => ⟨vs, H1, I1, r, k vs H1 q⟩⟩
theorem PE.imp {e : Expr} {t t' : TE} (h : PE X e t) (i : ∀ σ H Q, t' σ H Q → t σ H Q) : PE X e t' := ⟨fun pins s σ H Q I q => h.run pins s σ H Q I (i σ H Q q)⟩
def tTupE (t : TA) : TE := fun σ H Q => t σ H fun xs H1 => xs.length ≤ 1000000 ∧ ∀ p H2, H1 p = none → Ex [] H1 H2 → H2 p = some (.tup xs) → Q (.ref p) H2
def tLstE (t : TA) : TE := fun σ H Q => t σ H fun xs H1 => xs.length ≤ 1000000 ∧ ∀ p H2, H1 p = none → Ex [] H1 H2 → H2 p = some (.lst xs) → Q (.ref p) H2
theorem pe_tupE {x1} (h : PA X es t) : PE X (.Tuple es x1 pos) (tTupE t) := PE.imp (pe_tup (pa_weak h)) fun σ H Q q => ⟨_, q, fun xs H1 ⟨l, k⟩ => ⟨sz_of l, fun p hp => k p _ hp (Ex.new hp) upd_same⟩⟩
theorem pe_lstE (h : PA X es t) : PE X (.List es pos) (tLstE t) := PE.imp (pe_lst (pa_weak h)) fun σ H Q q => ⟨_, q, fun xs H1 ⟨l, k⟩ => ⟨sz_of l, fun p hp => k p _ hp (Ex.new hp) upd_same⟩⟩
theorem x_tupE {σ : L2.St} {H : Hp} {Q : VK} (k : t σ H fun xs H1 => xs.length ≤ 1000000 ∧ ∀ p H2, H1 p = none → Ex [] H1 H2 → H2 p = some (.tup xs) → Q (.ref p) H2) : tTupE t σ H Q := k
theorem x_lstE {σ : L2.St} {H : Hp} {Q : VK} (k : t σ H fun xs H1 => xs.length ≤ 1000000 ∧ ∀ p H2, H1 p = none → Ex [] H1 H2 → H2 p = some (.lst xs) → Q (.ref p) H2) : tLstE t σ H Q := k
theorem x_len1 {xs : List V} {P : Prop} (h : xs.length ≤ 1000000) (k : P) : xs.length ≤ 1000000 ∧ P := ⟨h, k⟩
end
end BF
/-! ## Objects: fields, making, dead branches, membership, wide numbers -/
namespace BF
open PySem PySem.Spec PyProof.Rows L2
section
variable {X : Cx} {CX : CXT} {k : Nat} {f C : Addr} {fd : FuncData} {ps : List Str} {sp : Sp} {dvs : List V} {ds : List Value} {E : XK} {x : Str} {p pos : Pos} {e : Expr} {es : List Expr} {t : TA}
/-- a statement that is never reached -/
theorem ps_dead {s : Stmt} : PS X s (fun _ _ _ => False) := ⟨fun _ _ _ _ _ _ h => h.elim⟩
def tMakeE (C : Addr) (sp : Sp) (dvs : List V) (E : XK) (t : TA) : TE := fun σ H Q => t σ H fun vs H1 => ∀ x dx H', H1 x = none → Ex [] H1 H' → H' x = some (.ins C dx []) → sp (.ref x :: (vs ++ dvs)) H' (fun v H2 => v = .non ∧ Q (.ref x) H2) E
theorem pe_makeE (M : Mk X.K C f) (F : FnOk X.prog X.w X.K X.mg X.base CX k f fd ps sp) (hr : Room (k + 1) X.A) (hg : Gl X x) (hm : X.mg x = some (.ref C)) (hb : Binds X.K fd ps ds) (hd : Vals dvs ds) (hx : Passes CX X E)
    (ha : PA X (e :: es) t) (hdb : (x == ("__debug__" : Str)) = false := by decide) (he : starEach (e :: es) X.env = (false, eval e X.env) :: starEach es X.env := by rfl) (hpl : (backTo pos (starEach es X.env)).any (·.1) = false := by rfl) :
    PE X (.Call (.Name x p) (e :: es) [] pos) (tMakeE C sp dvs E t) :=
  PE.imp (pe_make M F hr hg hm hb hd hx (pa_weak ha) hdb he hpl) fun σ H Q q => ⟨_, q, fun xs H1 k x dx n1 n2 ne => k x dx _ n1 ((Ex.new n2).tr (fun a o _ h => by
    by_cases z : a = x
    · subst z
      rw [upd_ne (Ne.symm ne), n1] at h
      cases h
    · rw [upd_ne z]; exact h)) upd_same⟩
theorem pe_weak {e : Expr} {t : TE} (h : PE X e t) : PE X e (fun σ H Q => ∃ P : V → Hp → Prop, t σ H P ∧ ∀ v H1, P v H1 → Q v H1) := ⟨fun pins s σ H Q I ⟨P, hp, k⟩ => thn (h.run pins s σ H P I hp) fun u s1 ⟨v, H1, I1, r, q⟩ => ⟨v, H1, I1, r, k v H1 q⟩⟩
theorem PS.imp' {s : Stmt} {t t' : TS} (h : PS X s t) (i : ∀ D σ H, t' D σ H → t D σ H) : PS X s t' := ⟨fun pins s σ H D I q => h.run pins s σ H D I (i D σ H q)⟩
theorem pt_weak {e : Expr} {t : L2.TT} (h : PT X e t) : PT X e (fun σ H Q => ∃ P : Bool → Hp → Prop, t σ H P ∧ ∀ v H1, P v H1 → Q v H1) := ⟨fun pins s σ H Q I ⟨P, hp, k⟩ => thn (h.run pins s σ H P I hp) fun b s1 ⟨H1, I1, q⟩ => ⟨H1, I1, k b H1 q⟩⟩
theorem ps_whileE {c : Expr} {body : List Stmt} {tc : L2.TT} {tb : TS} {pos : Pos} (hp : PassesOwn (model X.prog X.w) X.A X.env X.xe) (hc : PT X c tc) (hb : PSs X body tb) : PS X (.While c body [] pos) (tWhile (fun σ H Q => ∃ P : Bool → Hp → Prop, tc σ H P ∧ ∀ v H1, P v H1 → Q v H1) tb) := ps_while hp (pt_weak hc) hb
theorem x_while {c : L2.TT} {tb : TS} {D : Ends} {σ : L2.St} {H : Hp} (Pv : L2.St → Hp → Prop) (μ : L2.St → Hp → Nat) (h0 : Pv σ H)
    (hs : ∀ σ H, Pv σ H → c σ H fun b H1 => if b = true then tb { D with nx := fun σ' H' => Pv σ' H' ∧ μ σ' H' < μ σ H, ct := fun σ' H' => Pv σ' H' ∧ μ σ' H' < μ σ H, bk := D.nx } σ H1 else D.nx σ H1) : tWhile (fun σ H Q => ∃ P : Bool → Hp → Prop, c σ H P ∧ ∀ v H1, P v H1 → Q v H1) tb D σ H :=
  while_by Pv μ h0 (fun σ H h => ⟨_, hs σ H h, fun _ _ q => q⟩) (fun σ H Q Q' m ⟨P, q, k⟩ => ⟨P, q, fun b H1 z => m _ _ (k b H1 z)⟩)
def sFldE (K : PySem.W.Frag) (ta tv : TE) (f : Str) : TS := fun D σ H => tv σ H fun y H1 => ta σ H1 fun x H2 => ∃ a C dx fs gs, x = .ref a ∧ H2 a = some (.ins C dx fs) ∧ Cls K C ∧ NoAttr K C f ∧ fs.length < 1000 ∧ putF f y fs = gs ∧
  ∀ H', Ex [a] H2 H' → H' a = some (.ins C dx gs) → D.nx σ H'
theorem ps_fldE (K : PySem.W.Frag) {o value : Expr} {f : Str} {pos pos' : Pos} {ta tv : TE} (ha : PE X o ta) (hv : PE X value tv) (hs : swapsWith value (some (.Attribute o f pos')) pos.line X.env = pure false := by rfl) (h : X.K = K := by rfl) : PS X (.Assign [.Attribute o f pos'] value pos) (sFldE K ta tv f) :=
  h ▸ PS.imp' (ps_fld (pe_weak ha) (pe_weak hv) hs) fun D σ H q => ⟨_, q, fun y H1 q1 => ⟨_, q1, fun x H2 ⟨a, C, dx, fs, gs, e1, e2, c, n, l, e3, k⟩ => ⟨a, C, dx, fs, e1, e2, c, n, l, by subst e3; exact k _ (Ex.wr (by simp) (Ex.refl H2)) upd_same⟩⟩⟩
end
section
variable {K : PySem.W.Frag} {σ : L2.St} {H : Hp} {Q : VK} {C : Addr} {f : Str} {ta tv : TE} {D : Ends}
theorem x_make {sp : Sp} {dvs : List V} {E : XK} {t : TA} (k : t σ H fun vs H1 => ∀ x dx H', H1 x = none → Ex [] H1 H' → H' x = some (.ins C dx []) → sp (.ref x :: (vs ++ dvs)) H' (fun v H2 => v = .non ∧ Q (.ref x) H2) E) : tMakeE C sp dvs E t σ H Q := k
theorem x_fld (k : ta σ H fun x H1 => ∃ a C dx fs v, x = .ref a ∧ H1 a = some (.ins C dx fs) ∧ Cls K C ∧ NoAttr K C f ∧ fs.lookup f = some v ∧ Q v H1) : tFld K ta f σ H Q := k
theorem x_fldR {a dx : Addr} {fs : List (Str × V)} {v : V} {P : V → Prop} (h : H a = some (.ins C dx fs)) (c : Cls K C) (n : NoAttr K C f) (l : fs.lookup f = some v) (k : P v) : ∃ a' C dx fs v, V.ref a = .ref a' ∧ H a' = some (.ins C dx fs) ∧ Cls K C ∧ NoAttr K C f ∧ fs.lookup f = some v ∧ P v := ⟨a, C, dx, fs, v, rfl, h, c, n, l, k⟩
theorem x_sfld (k : tv σ H fun y H1 => ta σ H1 fun x H2 => ∃ a C dx fs gs, x = .ref a ∧ H2 a = some (.ins C dx fs) ∧ Cls K C ∧ NoAttr K C f ∧ fs.length < 1000 ∧ putF f y fs = gs ∧ ∀ H', Ex [a] H2 H' → H' a = some (.ins C dx gs) → D.nx σ H') : sFldE K ta tv f D σ H := k
theorem x_sfldR {a dx : Addr} {fs gs : List (Str × V)} {y : V} {P : Hp → Prop} (h : H a = some (.ins C dx fs)) (c : Cls K C) (n : NoAttr K C f) (l : fs.length < 1000) (e : putF f y fs = gs) (k : ∀ H', Ex [a] H H' → H' a = some (.ins C dx gs) → P H') :
    ∃ a' C dx fs gs, V.ref a = .ref a' ∧ H a' = some (.ins C dx fs) ∧ Cls K C ∧ NoAttr K C f ∧ fs.length < 1000 ∧ putF f y fs = gs ∧ ∀ H', Ex [a'] H H' → H' a' = some (.ins C dx gs) → P H' := ⟨a, C, dx, fs, gs, rfl, h, c, n, l, e, k⟩
theorem x_meth {m : Str} {sp : Sp} {dvs : List V} {E : XK} {t : TA} (k : ta σ H fun x H1 => ∃ a dx fs, x = .ref a ∧ H1 a = some (.ins C dx fs) ∧ fs.lookup m = none ∧ t σ H1 fun vs H2 => sp (x :: (vs ++ dvs)) H2 Q E) : tMeth C m sp dvs E ta t σ H Q := k
theorem x_methR {a dx : Addr} {m : Str} {fs : List (Str × V)} {P : Prop} (h : H a = some (.ins C dx fs)) (l : fs.lookup m = none) (k : P) : ∃ a' dx fs, V.ref a = .ref a' ∧ H a' = some (.ins C dx fs) ∧ fs.lookup m = none ∧ P := ⟨a, dx, fs, rfl, h, l, k⟩
theorem x_aug {i : Nat} {te : TE} {ti : TIp} {x : V} (h : σ[i]? = some (some x)) (k : te σ H fun y H1 => ti x y H1 fun z H2 => D.nx (σ.set i (some z)) H2) : tAug i te ti D σ H := ⟨x, h, k⟩
theorem x_ipI {f : Int → Int → Int} {i j : Int} (k : Q (.int (f i j)) H) : ipI f (.int i) (.int j) H Q := ⟨i, j, rfl, rfl, k⟩
theorem x_gcd {i j : Int} (k : Q (.int ((Nat.gcd i.natAbs j.natAbs : Nat) : Int)) H) : rGcd [.int i, .int j] H Q := ⟨i, j, rfl, k⟩
theorem inV_ints {ns : List Int} {i : Int} : inV (.int i) (ns.map V.int) = ns.contains i := by
  unfold inV
  rw [List.any_map]
  induction ns with
  | nil => rfl
  | cons n ns ih =>
    rw [List.any_cons, List.contains_cons, ih]
    congr 1
    show (n == i) = (i == n)
    exact Bool.beq_comm
theorem x_inT {ns : List Int} {a : Addr} {i : Int} {neg : Bool} (h : SqT K H a (ns.map V.int)) (k : Q (.bl (if neg then !ns.contains i else ns.contains i)) H) : rIn K neg (.int i) (.ref a) H Q := ⟨a, _, rfl, .inr h, rfl, by rw [List.all_map]; exact List.all_eq_true.mpr fun _ _ => rfl, by rw [inV_ints]; exact k⟩
end
theorem Ex.fresh {H H1 H2 : Hp} {x : Addr} (e1 : Ex [] H H1) (hx : H x = none) (e2 : Ex [x] H1 H2) : Ex [] H H2 := fun a o _ h => e2 a o (by
  intro z
  rw [List.mem_singleton] at z
  subst z
  rw [hx] at h
  cases h) (e1 a o (by simp) h)
theorem Ex.skip {M : List Addr} {H H1 H2 : Hp} {x : Addr} (e1 : Ex M H H1) (hx : H x = none) (e2 : Ex [x] H1 H2) : Ex M H H2 := fun a o m h => e2 a o (by
  intro z
  rw [List.mem_singleton] at z
  subst z
  rw [hx] at h
  cases h) (e1 a o m h)
theorem Ex.skip2 {b : Addr} {H H1 H2 : Hp} {x : Addr} (e1 : Ex [b] H H1) (hx : H x = none) (e2 : Ex [b, x] H1 H2) : Ex [b] H H2 := fun a o m h => e2 a o (by
  intro z
  rcases List.mem_cons.mp z with z | z
  · exact m (by rw [z]; exact List.mem_singleton.mpr rfl)
  · rw [List.mem_singleton] at z
    subst z
    rw [hx] at h
    cases h) (e1 a o m h)
theorem putF_nil {f : Str} {v : V} : putF f v [] = [(f, v)] := rfl
theorem putF_eq {f : Str} {v x : V} {r : List (Str × V)} : putF f v ((f, x) :: r) = (f, v) :: r := if_pos rfl
theorem putF_ne {f g : Str} {v x : V} {r s : List (Str × V)} (h : g ≠ f) (k : putF f v r = s) : putF f v ((g, x) :: r) = (g, x) :: s := by
  rw [← k]
  exact if_neg h
theorem natCast_toNat {i : Int} (h : 0 ≤ i) : ∃ n : Nat, i = n := ⟨i.toNat, by omega⟩
end BF
/-! ## Exceptions with fields -/
namespace BF
open PySem PySem.Spec PyProof.Rows L2
section
variable {X : Cx} {o e : Expr} {es : List Expr} {to te : TE} {ta : TA} {f : Str} {p p' pos : Pos}
def tOstE (K : PySem.W.Frag) (f : Str) (to te : TE) : TS := fun D σ H => te σ H fun y H1 => to σ H1 fun x H2 => ∃ a C : Addr, x = .ref a ∧ OexC K C ∧ PySem.W.findIn K (.ref C) f = some none ∧
  ((H2 a = some (exo a C none) ∧ ∀ dx H', H2 dx = none → dx ≠ a → Ex [a] H2 H' → H' a = some (exo a C (some dx)) → H' dx = some (exd dx [(f, y)]) → D.nx σ H') ∨
    ∃ (dx : Addr) (fs : List (Str × V)), H2 a = some (exo a C (some dx)) ∧ H2 dx = some (exd dx fs) ∧ fs.length ≤ 900 ∧ dx ≠ a ∧ ∀ H', Ex [dx] H2 H' → H' a = some (exo a C (some dx)) → H' dx = some (exd dx ((f, y) :: fs)) → D.nx σ H')
theorem ps_ostE (K : PySem.W.Frag) (ho : PE X o to) (he : PE X e te) (hs : swapsWith e (some (.Attribute o f p')) pos.line X.env = pure false := by rfl) (h : X.K = K := by rfl) : PS X (.Assign [.Attribute o f p'] e pos) (tOstE K f to te) := by
  subst h
  refine PS.imp' (ps_ost (pe_weak ho) (pe_weak he) hs) fun D σ H q => ⟨_, q, fun y H1 q1 => ⟨_, q1, fun x H2 ⟨a, C, e1, c, n, q2⟩ => ⟨a, C, e1, c, n, ?_⟩⟩⟩
  rcases q2 with ⟨ha, k⟩ | ⟨dx, fs, ha, hd, hl, ne, k⟩
  · exact .inl ⟨ha, fun dx n1 ne => k dx _ n1 ne (Ex.wr (by simp) (Ex.new n1)) upd_same (by rw [upd_ne ne]; exact upd_same)⟩
  · exact .inr ⟨dx, fs, ha, hd, hl, k _ (Ex.wr (by simp) (Ex.refl _)) (by rw [upd_ne (Ne.symm ne)]; exact ha) upd_same⟩
/-- what an exception's __init__ of n values keeps: its fields fs -/
def spEx (C : Addr) (n : Nat) (fs : List V → List (Str × V)) : Sp := fun vs H Q _ => ∃ a ws, vs = .ref a :: ws ∧ ws.length = n ∧ H a = some (exo a C none) ∧ ∀ d H', H d = none → d ≠ a → Ex [a] H H' → H' a = some (exo a C (some d)) → H' d = some (exd d (fs ws)) → Q .non H'
/-- a raised exception of the class at C with the fields fs, in what was H -/
def RaisedX (C : Addr) (fs : List (Str × V)) (H : Hp) (Q : XK) : Prop := ∀ d H', H d = none → Ex [] H H' → H' d = some (.xd fs) → Q (.ref C) (some d) H'
def tRs (C : Addr) (n : Nat) (fs : List V → List (Str × V)) (ta : TA) : L2.St → Hp → XK → Prop := fun σ H Q => ta σ H fun vs H1 => vs.length = n ∧ RaisedX C (fs vs) H1 Q
theorem x_rs {C : Addr} {n : Nat} {fs : List V → List (Str × V)} {σ : L2.St} {H : Hp} {Q : XK} (k : ta σ H fun vs H1 => vs.length = n ∧ RaisedX C (fs vs) H1 Q) : tRs C n fs ta σ H Q := k
theorem ex_fin {H1 H2 : Hp} {a d C : Addr} {fs : List (Str × V)} (n1 : H1 a = none) (n2 : H1 d = none) (ne : d ≠ a) (e : Ex [a] (upd H1 a (exo a C none)) H2) : Ex [] H1 (upd (del H2 a) d (.xd fs)) := fun b o _ h => by
  have b1 : b ≠ a := fun z => by subst z; rw [n1] at h; cases h
  have b2 : b ≠ d := fun z => by subst z; rw [n2] at h; cases h
  rw [upd_ne b2]
  have h3 := e b o (by simpa using b1) (by rw [upd_ne b1]; exact h)
  unfold del
  rw [if_neg b1]
  exact h3
section
variable {CX : CXT} {x : Str} {C fI : Addr} {k n : Nat} {fd : FuncData} {ps : List Str} {fs : List V → List (Str × V)}
theorem ex_mk {vs : List V} {H1 : Hp} {Q : XK} (hn : n ≤ 900) (hl : vs.length = n) (q : RaisedX C (fs vs) H1 Q) : vs.length ≤ 1000 ∧ ∀ a, H1 a = none → spEx C n fs (.ref a :: (vs ++ [])) (upd H1 a (exo a C none))
    (fun v H2 => v = .non ∧ ∃ (d : Addr) (gs : List (Str × V)), H2 a = some (exo a C (some d)) ∧ H2 d = some (exd d gs) ∧ H1 d = none ∧ Q (.ref C) (some d) (upd (del H2 a) d (.xd gs))) (fun _ _ _ => False) := by
  refine ⟨by omega, fun a ha => ⟨a, vs, by rw [List.append_nil], hl, upd_same, fun d H2 hd ne e h1 h2 => ⟨rfl, d, fs vs, h1, h2, ?_, ?_⟩⟩⟩
  · rw [upd_ne ne] at hd
    exact hd
  · rw [upd_ne ne] at hd
    exact q d _ hd (ex_fin ha hd ne e) upd_same
theorem pmk_ex (hn : n ≤ 900) (T : OexC X.K C) (iC : PySem.W.findIn X.K (.ref C) "__init__" = some (some (.ref fI))) (tI : PySem.W.typeIn X.K (.ref fI) = some (.type "function"))
    (F1 : FnOk X.prog X.w X.K X.mg X.base CX k fI fd ps (spEx C n fs)) (hr : Room (k + 1) X.A) (hb : Binds X.K fd ps []) (hx : Passes CX X (fun _ _ _ => False)) (hg : Gl X x) (hm : X.mg x = some (.ref C)) (ha : PA X (e :: es) ta)
    (hdb : (x == ("__debug__" : Str)) = false := by decide) (he : starEach (e :: es) X.env = (false, eval e X.env) :: starEach es X.env := by rfl) (hpl : (backTo pos (starEach es X.env)).any (·.1) = false := by rfl) :
    PMk X (.Call (.Name x p) (e :: es) [] pos) (tRs C n fs ta) := fun pins s σ H Q I h =>
  pmk_oex (dvs := []) T iC tI F1 hr hb .nil hx hg hm (pa_weak ha) hdb he hpl pins s σ H Q I ⟨_, h, fun vs H1 ⟨hl, q⟩ => ex_mk hn hl q⟩
theorem pmk_ex0 (T : OexC X.K C) (iC : PySem.W.findIn X.K (.ref C) "__init__" = some (some (.ref fI))) (tI : PySem.W.typeIn X.K (.ref fI) = some (.type "function"))
    (F1 : FnOk X.prog X.w X.K X.mg X.base CX k fI fd ps (spEx C 0 fs)) (hr : Room (k + 1) X.A) (hb : Binds X.K fd ps []) (hx : Passes CX X (fun _ _ _ => False)) (hg : Gl X x) (hm : X.mg x = some (.ref C)) (hdb : (x == ("__debug__" : Str)) = false := by decide) :
    PMk X (.Call (.Name x p) [] [] pos) (fun _ H Q => RaisedX C (fs []) H Q) := fun pins s σ H Q I h =>
  pmk_oex0 T iC tI F1 hr hb hx hg hm hdb pins s σ H Q I (ex_mk (vs := []) (by decide) rfl h)
end
end
section
variable {K : PySem.W.Frag} {σ : L2.St} {H : Hp} {Q : VK} {f : Str} {to te : TE} {D : Ends} {C : Addr}
theorem x_ost (k : te σ H fun y H1 => to σ H1 fun x H2 => ∃ a C : Addr, x = .ref a ∧ OexC K C ∧ PySem.W.findIn K (.ref C) f = some none ∧
  ((H2 a = some (exo a C none) ∧ ∀ dx H', H2 dx = none → dx ≠ a → Ex [a] H2 H' → H' a = some (exo a C (some dx)) → H' dx = some (exd dx [(f, y)]) → D.nx σ H') ∨
    ∃ (dx : Addr) (fs : List (Str × V)), H2 a = some (exo a C (some dx)) ∧ H2 dx = some (exd dx fs) ∧ fs.length ≤ 900 ∧ dx ≠ a ∧ ∀ H', Ex [dx] H2 H' → H' a = some (exo a C (some dx)) → H' dx = some (exd dx ((f, y) :: fs)) → D.nx σ H')) : tOstE K f to te D σ H := k
theorem x_ost1 {a : Addr} {y : V} {P : Hp → Prop} (h : H a = some (exo a C none)) (c : OexC K C) (n : PySem.W.findIn K (.ref C) f = some none) (k : ∀ dx H', H dx = none → dx ≠ a → Ex [a] H H' → H' a = some (exo a C (some dx)) → H' dx = some (exd dx [(f, y)]) → P H') :
    ∃ a' C : Addr, V.ref a = .ref a' ∧ OexC K C ∧ PySem.W.findIn K (.ref C) f = some none ∧
  ((H a' = some (exo a' C none) ∧ ∀ dx H', H dx = none → dx ≠ a' → Ex [a'] H H' → H' a' = some (exo a' C (some dx)) → H' dx = some (exd dx [(f, y)]) → P H') ∨
    ∃ (dx : Addr) (fs : List (Str × V)), H a' = some (exo a' C (some dx)) ∧ H dx = some (exd dx fs) ∧ fs.length ≤ 900 ∧ dx ≠ a' ∧ ∀ H', Ex [dx] H H' → H' a' = some (exo a' C (some dx)) → H' dx = some (exd dx ((f, y) :: fs)) → P H') := ⟨a, C, rfl, c, n, .inl ⟨h, k⟩⟩
theorem x_ost2 {a dx : Addr} {y : V} {fs : List (Str × V)} {P : Hp → Prop} (h : H a = some (exo a C (some dx))) (hd : H dx = some (exd dx fs)) (hl : fs.length ≤ 900) (ne : dx ≠ a) (c : OexC K C) (n : PySem.W.findIn K (.ref C) f = some none)
    (k : ∀ H', Ex [dx] H H' → H' a = some (exo a C (some dx)) → H' dx = some (exd dx ((f, y) :: fs)) → P H') :
    ∃ a' C : Addr, V.ref a = .ref a' ∧ OexC K C ∧ PySem.W.findIn K (.ref C) f = some none ∧
  ((H a' = some (exo a' C none) ∧ ∀ dx H', H dx = none → dx ≠ a' → Ex [a'] H H' → H' a' = some (exo a' C (some dx)) → H' dx = some (exd dx [(f, y)]) → P H') ∨
    ∃ (dx : Addr) (fs : List (Str × V)), H a' = some (exo a' C (some dx)) ∧ H dx = some (exd dx fs) ∧ fs.length ≤ 900 ∧ dx ≠ a' ∧ ∀ H', Ex [dx] H H' → H' a' = some (exo a' C (some dx)) → H' dx = some (exd dx ((f, y) :: fs)) → P H') := ⟨a, C, rfl, c, n, .inr ⟨dx, fs, h, hd, hl, ne, k⟩⟩
theorem x_chain {r r' : R2} {ta tb tc : TE} (k : ta σ H fun x H1 => tb σ H1 fun y H2 => r x y H2 fun z H3 => ∃ k, z = .bl k ∧ (if k = true then tc σ H3 fun w' H4 => r' y w' H4 Q else Q (.bl false) H3)) : tChain r r' ta tb tc σ H Q := k
end
end BF
/-! ## try with two named clauses, both of which take: what is caught is told by wAs2 -/
namespace BF
open PySem PySem.Spec PyProof.Rows L2
abbrev ClS := Addr → Value → Option Addr → TS
/-- the ends of a suite behind which the slot i is unbound -/
def unEnd (i : Nat) (D : Ends) : Ends := { nx := fun t J => D.nx (t.set i none) J, rt := D.rt, bk := fun t J => D.bk (t.set i none) J, ct := fun t J => D.ct (t.set i none) J }
def wAs2 (K : PySem.W.Frag) (c c' : Value) (i : Nat) (ts ts' : ClS) (D : Ends) : WX := fun cls d σ H =>
  ∃ b, PySem.W.exmOne K cls c = some b ∧ (b = true → ∀ a, H a = none → ts a cls d (unEnd i D) (σ.set i (some (.ref a))) H) ∧
    (b = false → PySem.W.exmOne K cls c' = some true ∧ ∀ a, H a = none → ts' a cls d (unEnd i D) (σ.set i (some (.ref a))) H)
section
variable {X : Cx} {pins : List (Addr × Obj)} {σ : L2.St} {H : Hp} {D : Ends}
/-- a raised object is none of the frames -/
theorem fly_out {B h : Heap} {l : List Env} {a : Addr} {Z : Obj → Prop} (f : HandSPX.FlyingZ B l a Z h) : a ∉ frs l ∧ ∃ o vs, h.get? a = some o ∧ Z o ∧ o.data = .fields vs := by
  obtain ⟨o, vs, g, z, fd⟩ := f.there
  refine ⟨fun hm => ?_, o, vs, g, z, fd⟩
  obtain ⟨_, o2, g2, no⟩ := f.2.2.1.mem hm
  cases g.symm.trans g2
  exact no _ fd
theorem fly_suite {sI t : Shared} {B h : Heap} {a : Addr} {cls : Value} {d : Option Addr} (hs : X.stack = X.env :: X.outer) (hf : X.env.frame = some X.env.locals) (J : Inv X pins σ H sI) (nb : ∀ b o, sI.heap.get? b = some o → b ∉ frs X.stack → B.get? b = some o)
    (f : HandSPX.FlyingZ B (X.env :: X.outer) a (Zc cls d) h) (up : sI.heap.UpToSlots h) (na : H a = none) (os : t.os = sI.os) (ag : AllBare t.gens) :
    Inv X pins σ H { t with heap := h } ∧ ∃ o vs, h.get? a = some o ∧ Zc cls d o ∧ o.data = .fields vs ∧ Inv (X.suite a ((a, o) :: (X.pn ++ pins))) [] σ H { t with heap := h } := by
  have J1 : Inv X pins σ H { t with heap := h } := Inv.landed J nb f.1 up os ag
  obtain ⟨out, o, vs, g, z, fd⟩ := fly_out f
  have n1 : a ≠ X.env.locals := fun q => out (by rw [q]; exact List.mem_filterMap.mpr ⟨X.env, List.mem_cons_self, hf⟩)
  have n2 : a ∉ X.fs := fun q => by
    obtain ⟨e, m, k⟩ := List.mem_filterMap.mp q
    exact out (List.mem_filterMap.mpr ⟨e, List.mem_cons_of_mem _ m, k⟩)
  exact ⟨J1, o, vs, g, z, fd, J1.suite g fd na n1 n2⟩
theorem clause_as {sI t : Shared} {B h : Heap} {a : Addr} {cls : Value} {d : Option Addr} {x n : Str} {c : Value} {i : Nat} {b : Bool} {b₀ : Stmt} {suite : List Stmt} {np pos' : Pos} {rest : List ExceptHandler} {ts : ClS} (hs : X.stack = X.env :: X.outer) (hf : X.env.frame = some X.env.locals)
    (hN : X.N.Nodup) (hi : X.N[i]? = some n) (hln : X.env.kindOf n = some .local) (hc : Names X x c)
    (hsu : ∀ (a : Addr) (oe : Obj) (cls : Value) (d : Option Addr) (pn : List (Addr × Obj)), Zc cls d oe → (∃ vs, oe.data = .fields vs) → PSs (X.suite a ((a, oe) :: pn)) (b₀ :: suite) (ts a cls d))
    (J : Inv X pins σ H sI) (nb : ∀ b o, sI.heap.get? b = some o → b ∉ frs X.stack → B.get? b = some o)
    (f : HandSPX.FlyingZ B (X.env :: X.outer) a (Zc cls d) h) (up : sI.heap.UpToSlots h) (na : H a = none) (os : t.os = sI.os) (ag : AllBare t.gens) (hx : PySem.W.exmOne X.K cls c = some b)
    (yes : b = true → ts a cls d (unEnd i D) (σ.set i (some (.ref a))) H) (no : b = false → wpAny (model X.prog X.w) X.A (handleBy (.ref a) X.env rest) (SP X pins D) X.xe { t with heap := h }) :
    wpAny (model X.prog X.w) X.A (handleBy (.ref a) X.env (.ExceptHandler (some (.Name x np)) (some n) (b₀ :: suite) pos' :: rest)) (SP X pins D) X.xe { t with heap := h } := by
  obtain ⟨J1, o, vs, g, z, fd, S⟩ := fly_suite hs hf J nb f up na os ag
  refine wpAny_handleBy_cons (codeAny_handlers_test ?_) (by intro q; cases q)
  have lk : PySem.W.Looks (model X.prog X.w) h (typeOf (.ref a)) cls := fun _ _ _ _ k q => wpAny_typeOf_ref (k _ _ g) (by rw [z.1]; exact q)
  have name : ∀ {R E : Value → Shared → Prop}, R c { t with heap := h } → wpAny (model X.prog X.w) (X.A.mark (some (.ref a))) (eval (.Name x np) X.env) R E { t with heap := h } := fun {R E} q => by
    rcases hc with ⟨gl, dbg, m | ⟨m, v, ne⟩⟩
    · exact ld_glob S gl m q dbg
    · exact ld_blt S gl m v q ne dbg
  refine name (PySem.W.Looks.here (PySem.W.exm_one (M := model X.prog X.w) J1.kIn lk hx) ?_)
  cases b with
  | false => exact no rfl
  | true =>
    refine codeAny_handlers_suite_as (HandSPX.lands_againZ f fun h2 f2 up2 => ?_)
    obtain ⟨_, o2, vs2, g2, z2, fd2, S2⟩ := fly_suite (t := t) hs hf J nb f2 (up.trans up2) na os ag
    refine store_ok (X := X.suite a ((a, o2) :: (X.pn ++ pins))) (v := .ref a) S2 hN hi (.inl hln) rfl (fun u U => ?_) (.inr hln)
    refine wpAny_mono ((hsu a o2 cls d (X.pn ++ pins) z2 ⟨_, fd2⟩).run [] u _ H _ U (yes rfl)) (fun fl u2 r => ?_) (fun _ _ w => w.elim)
    have fin : ∀ {τ : L2.St} {G : Hp} {R : Shared → Prop}, Inv (X.suite a ((a, o2) :: (X.pn ++ pins))) [] τ G u2 → (∀ u3, Inv X pins (τ.set i none) G u3 → R u3) →
        wpAny (model X.prog X.w) X.A (do bindName X.env n .none; unbindBehindTheSuite X.env n pos') (fun _ u3 => R u3) X.xe u2 := fun V k => gone_ok (Inv.unsuite V J.ok) hN hi hln k
    cases fl with
    | ret w =>
      obtain ⟨v, τ, G, V, rv, q⟩ := r
      exact fin V fun _ V3 => ⟨v, _, _, V3, rv, q⟩
    | next =>
      obtain ⟨τ, G, V, q⟩ := r
      exact fin V fun _ V3 => ⟨_, _, V3, q⟩
    | brk =>
      obtain ⟨τ, G, V, q⟩ := r
      exact fin V fun _ V3 => ⟨_, _, V3, q⟩
    | cont =>
      obtain ⟨τ, G, V, q⟩ := r
      exact fin V fun _ V3 => ⟨_, _, V3, q⟩
/-- try: body, except x as n: suite, except x' as n: suite' -/
theorem ps_try_as2 {x x' n : Str} {c c' : Value} {i : Nat} {body suite suite' : List Stmt} {b₀ b₁ : Stmt} {np np' pos pos1 pos2 : Pos} {tb : WX → TS} {ts ts' : ClS} (hs : X.stack = X.env :: X.outer) (hf : X.env.frame = some X.env.locals)
    (hN : X.N.Nodup) (hi : X.N[i]? = some n) (hln : X.env.kindOf n = some .local) (hc : Names X x c) (hc' : Names X x' c')
    (hb : ∀ (W : WX) (pn : List (Addr × Obj)) (xe : Value → Shared → Prop), Takes (X.tr pn xe) W → PassesOwn (model X.prog X.w) X.A X.env xe → PSs (X.tr pn xe) body (tb W))
    (hsu : ∀ (a : Addr) (oe : Obj) (cls : Value) (d : Option Addr) (pn : List (Addr × Obj)), Zc cls d oe → (∃ vs, oe.data = .fields vs) → PSs (X.suite a ((a, oe) :: pn)) (b₀ :: suite) (ts a cls d))
    (hsu' : ∀ (a : Addr) (oe : Obj) (cls : Value) (d : Option Addr) (pn : List (Addr × Obj)), Zc cls d oe → (∃ vs, oe.data = .fields vs) → PSs (X.suite a ((a, oe) :: pn)) (b₁ :: suite') (ts' a cls d)) :
    PS X (.Try body [.ExceptHandler (some (.Name x np)) (some n) (b₀ :: suite) pos1, .ExceptHandler (some (.Name x' np')) (some n) (b₁ :: suite') pos2] [] [] pos) (fun D σ H => tb (wAs2 X.K c c' i ts ts' D) D σ H) := by
  refine ⟨fun pins s σ H D I q => wpAny_Try_except ?_⟩
  refine wpAny_mono ((hb (wAs2 X.K c c' i ts ts' D) (X.pn ++ pins) (fun e s₁ => wpAny (model X.prog X.w) X.A (noteFrame e X.env) (fun _ s₂ => wpAny (model X.prog X.w) X.A (setFlight e none) (fun _ s₃ =>
    wpAny (model X.prog X.w) X.A (handleBy e X.env [.ExceptHandler (some (.Name x np)) (some n) (b₀ :: suite) pos1, .ExceptHandler (some (.Name x' np')) (some n) (b₁ :: suite') pos2]) (SP X pins D) X.xe s₃) X.xe s₂) X.xe s₁) ?_ PassesOwn.looking).run [] s σ H D (I.toTry _) q) ?_ (fun _ _ r => r)
  · rintro u t ⟨a, B, sI, pins1, τ, G, cls, d, rfl, J, nb, up, sky, na, os, ag, b, hx, yes, no⟩
    have J := J.ofTry I.ok
    refine Sky.land (Z := Zc cls d) (B := B) (a := a) Zc.steady (by rw [I.ok.frames, hs]) hf (by rw [← hs]; exact sky) fun h f up' => ?_
    refine clause_as (t := t) hs hf hN hi hln hc hsu J nb f (up.trans up') na os ag hx (fun e => yes e a na) fun e => ?_
    obtain ⟨hx', k⟩ := no e
    exact clause_as (t := t) hs hf hN hi hln hc' hsu' J nb f (up.trans up') na os ag hx' (fun _ => k a na) nofun
  · intro fl t r
    cases fl with
    | ret v =>
      obtain ⟨w, τ, G, V, rv, k⟩ := r
      exact ⟨w, τ, G, V.ofTry I.ok, rv, k⟩
    | next =>
      obtain ⟨τ, G, V, k⟩ := r
      exact wpAny_execs_nil ⟨τ, G, V.ofTry I.ok, k⟩
    | brk =>
      obtain ⟨τ, G, V, k⟩ := r
      exact ⟨τ, G, V.ofTry I.ok, k⟩
    | cont =>
      obtain ⟨τ, G, V, k⟩ := r
      exact ⟨τ, G, V.ofTry I.ok, k⟩
end
end BF
/-! ## what stays where a lambda is made -/
namespace BF
open PySem PySem.Spec PyProof.Rows L2
section
variable {K : PySem.W.Frag} {H H1 : Hp} {a : Addr}
theorem N_at {o : HO} (e : LamX.ExtN H H1) (h : H a = some o) (n : ∀ ps, o ≠ .tbl ps) : H1 a = some o := e a o h n
theorem rd_N {u : HO} (e : LamX.ExtN H H1) (n : ∀ ps, u ≠ .tbl ps) (h : Rd H a u) : Rd H1 a u := by
  rcases h with h | ⟨o, h⟩
  · exact .inl (e _ _ h n)
  · exact .inr ⟨o, e _ _ h nofun⟩
theorem sql_N {xs : List V} (e : LamX.ExtN H H1) (h : SqL K H a xs) : SqL K H1 a xs := by
  rcases h with h | h
  · exact .inl (rd_N e nofun h)
  · exact .inr h
theorem sqt_N {xs : List V} (e : LamX.ExtN H H1) (h : SqT K H a xs) : SqT K H1 a xs := by
  rcases h with h | h
  · exact .inl (rd_N e nofun h)
  · exact .inr h
mutual
theorem Dat.N {M : List Addr} (e : LamX.ExtN H H1) : ∀ {v : V} {d : DV}, Dat K M H v d → Dat K M H1 v d
  | _, _, .non => .non
  | _, _, .bl b => .bl b
  | _, _, .int i => .int i
  | _, _, .str x => .str x
  | _, _, .lst h n l => .lst (sql_N e h) n (DatL.N e l)
  | _, _, .tup h n l => .tup (sqt_N e h) n (DatL.N e l)
theorem DatL.N {M : List Addr} (e : LamX.ExtN H H1) : ∀ {vs : List V} {ds : List DV}, DatL K M H vs ds → DatL K M H1 vs ds
  | _, _, .nil => .nil
  | _, _, .cons h l => .cons (Dat.N e h) (DatL.N e l)
end
/-- items that are data with P -/
def OD (K : PySem.W.Frag) (M : List Addr) (H : Hp) (P : DV → Prop) (xs : List V) : Prop := ∀ v ∈ xs, ∃ d, Dat K M H v d ∧ Deep 1 d ∧ P d
theorem OD.nil {M : List Addr} {P : DV → Prop} : OD K M H P [] := fun _ h => nomatch h
theorem OD.cons {M : List Addr} {P : DV → Prop} {v : V} {xs : List V} {d : DV} (h : Dat K M H v d) (dp : Deep 1 d) (p : P d) (k : OD K M H P xs) : OD K M H P (v :: xs) := fun w hw => by
  rcases List.mem_cons.mp hw with rfl | hw
  · exact ⟨d, h, dp, p⟩
  · exact k w hw
theorem OD.app {M : List Addr} {P : DV → Prop} {xs ys : List V} (h : OD K M H P xs) (k : OD K M H P ys) : OD K M H P (xs ++ ys) := fun w hw => (List.mem_append.mp hw).elim (h w) (k w)
theorem OD.get {M : List Addr} {P : DV → Prop} {xs : List V} {i : Nat} {v : V} (h : OD K M H P xs) (e : xs[i]? = some v) : ∃ d, Dat K M H v d ∧ Deep 1 d ∧ P d := h v (List.mem_of_getElem? e)
theorem OD.ex {M M' : List Addr} {P : DV → Prop} {xs : List V} (h : OD K M H P xs) (e : Ex M' H H1) (s : ∀ x ∈ M', x ∈ M) : OD K M H1 P xs := fun v hv => by
  obtain ⟨d, h1, h2, h3⟩ := h v hv
  exact ⟨d, h1.ex e s, h2, h3⟩
theorem OD.imp {M : List Addr} {P P' : DV → Prop} {xs : List V} (h : OD K M H P xs) (k : ∀ d, P d → P' d) : OD K M H P' xs := fun v hv => by
  obtain ⟨d, h1, h2, h3⟩ := h v hv
  exact ⟨d, h1, h2, k d h3⟩
/-- the tables stay where one list alone may change -/
theorem tabs_ex {T : List (Addr × Str)} {b : Addr} {xs : List V} (hb : H b = some (.lst xs)) (e : Ex [b] H H1) (t : LamX.Tabs T H) : LamX.Tabs T H1 := fun p hp => by
  obtain ⟨ps, h1, h2, h3⟩ := t p hp
  have n : ∀ {c : Addr} {o : HO}, H c = some o → o ≠ .lst xs → c ∉ [b] := fun {c o} hc hne z => by
    rw [List.mem_singleton.mp z, hb] at hc
    exact hne (Option.some.inj hc).symm
  refine ⟨ps, e _ _ (n h1 nofun) h1, h2, fun pos cv hc => ?_⟩
  obtain ⟨c, e1, e2⟩ := h3 pos cv hc
  exact ⟨c, e1, e _ _ (n e2 (by unfold LamX.CodeO; exact nofun)) e2⟩
theorem tabs_ex0 {T : List (Addr × Str)} (e : Ex [] H H1) (t : LamX.Tabs T H) : LamX.Tabs T H1 := t.ext fun b o h => e b o (by simp) h
end
end BF
/-! ## The text by places, what the head tells, the run -/
namespace BF
open PySem PySem.Spec PyProof.Rows L2
def top (i : Nat) : Stmt := PySem.Challenge.pw_borderflow_k18_whole_speeds.main.body.getD i (.Pass ⟨0, 0, 0, 0⟩)
abbrev s_InvalidNumber___init__ : Stmt := inClass (top 3) 0
abbrev s_InvalidFrame___init__ : Stmt := inClass (top 4) 0
abbrev s_NoSpeed___init__ : Stmt := inClass (top 5) 0
abbrev s_Ratio___init__ : Stmt := inClass (top 8) 0
abbrev s_Ratio___eq__ : Stmt := inClass (top 8) 1
abbrev s_Ratio___mul__ : Stmt := inClass (top 8) 2
abbrev s_Ratio___invert__ : Stmt := inClass (top 8) 3
abbrev s_Ratio_raised : Stmt := inClass (top 8) 5
abbrev s_Ratio_power : Stmt := inClass (top 8) 6
abbrev s_power_of : Stmt := top 9
abbrev s_is_whole : Stmt := top 10
abbrev s__times_divided : Stmt := top 11
abbrev s_is_number : Stmt := top 13
abbrev s__least_prime : Stmt := top 16
abbrev s__check_signs : Stmt := top 17
abbrev s__check_frame : Stmt := top 18
abbrev s_speed : Stmt := top 19
abbrev s_framed_flow : Stmt := top 20
abbrev s__law_bag : Stmt := top 22
abbrev s__law_draw : Stmt := top 23
abbrev s__law_of : Stmt := top 24
abbrev s__law_same : Stmt := top 25
abbrev s__law_num : Stmt := top 26
abbrev s__law_power : Stmt := top 27
abbrev s__law_gcd : Stmt := top 28
abbrev s__law_primes : Stmt := top 29
abbrev s__law_exps : Stmt := top 30
abbrev s__law_ratio_of : Stmt := top 31
abbrev s__law_speed : Stmt := top 32
abbrev s__law_try : Stmt := top 33
abbrev s__law_two_signs : Stmt := top 34
abbrev s__law_small_exps : Stmt := top 35
abbrev s__law_two_flows : Stmt := top 36
abbrev s__law_framed_so : Stmt := top 37
abbrev s__law_refused_so : Stmt := top 38
abbrev s__law_turned : Stmt := top 39
abbrev s__law_once : Stmt := top 40
abbrev s_law : Stmt := top 41
def d_InvalidNumber___init__ : He.DefD := ⟨("InvalidNumber", some "__init__"), "__init__", "InvalidNumber.__init__", defArgs s_InvalidNumber___init__, defBody s_InvalidNumber___init__, defScope s_InvalidNumber___init__, [], []⟩
def d_InvalidFrame___init__ : He.DefD := ⟨("InvalidFrame", some "__init__"), "__init__", "InvalidFrame.__init__", defArgs s_InvalidFrame___init__, defBody s_InvalidFrame___init__, defScope s_InvalidFrame___init__, [], []⟩
def d_NoSpeed___init__ : He.DefD := ⟨("NoSpeed", some "__init__"), "__init__", "NoSpeed.__init__", defArgs s_NoSpeed___init__, defBody s_NoSpeed___init__, defScope s_NoSpeed___init__, [], []⟩
def d_Ratio___init__ : He.DefD := ⟨("Ratio", some "__init__"), "__init__", "Ratio.__init__", defArgs s_Ratio___init__, defBody s_Ratio___init__, defScope s_Ratio___init__, [.int 1], []⟩
def d_Ratio___eq__ : He.DefD := ⟨("Ratio", some "__eq__"), "__eq__", "Ratio.__eq__", defArgs s_Ratio___eq__, defBody s_Ratio___eq__, defScope s_Ratio___eq__, [], []⟩
def d_Ratio___mul__ : He.DefD := ⟨("Ratio", some "__mul__"), "__mul__", "Ratio.__mul__", defArgs s_Ratio___mul__, defBody s_Ratio___mul__, defScope s_Ratio___mul__, [], []⟩
def d_Ratio___invert__ : He.DefD := ⟨("Ratio", some "__invert__"), "__invert__", "Ratio.__invert__", defArgs s_Ratio___invert__, defBody s_Ratio___invert__, defScope s_Ratio___invert__, [], []⟩
def d_Ratio_raised : He.DefD := ⟨("Ratio", some "raised"), "raised", "Ratio.raised", defArgs s_Ratio_raised, defBody s_Ratio_raised, defScope s_Ratio_raised, [], []⟩
def d_Ratio_power : He.DefD := ⟨("Ratio", some "power"), "power", "Ratio.power", defArgs s_Ratio_power, defBody s_Ratio_power, defScope s_Ratio_power, [], []⟩
def d_power_of : He.DefD := ⟨("power_of", none), "power_of", "power_of", defArgs s_power_of, defBody s_power_of, defScope s_power_of, [], []⟩
def d_is_whole : He.DefD := ⟨("is_whole", none), "is_whole", "is_whole", defArgs s_is_whole, defBody s_is_whole, defScope s_is_whole, [], []⟩
def d__times_divided : He.DefD := ⟨("_times_divided", none), "_times_divided", "_times_divided", defArgs s__times_divided, defBody s__times_divided, defScope s__times_divided, [], []⟩
def d_is_number : He.DefD := ⟨("is_number", none), "is_number", "is_number", defArgs s_is_number, defBody s_is_number, defScope s_is_number, [], []⟩
def d__least_prime : He.DefD := ⟨("_least_prime", none), "_least_prime", "_least_prime", defArgs s__least_prime, defBody s__least_prime, defScope s__least_prime, [], []⟩
def d__check_signs : He.DefD := ⟨("_check_signs", none), "_check_signs", "_check_signs", defArgs s__check_signs, defBody s__check_signs, defScope s__check_signs, [], []⟩
def d__check_frame : He.DefD := ⟨("_check_frame", none), "_check_frame", "_check_frame", defArgs s__check_frame, defBody s__check_frame, defScope s__check_frame, [], []⟩
def d_speed : He.DefD := ⟨("speed", none), "speed", "speed", defArgs s_speed, defBody s_speed, defScope s_speed, [], []⟩
def d_framed_flow : He.DefD := ⟨("framed_flow", none), "framed_flow", "framed_flow", defArgs s_framed_flow, defBody s_framed_flow, defScope s_framed_flow, [], []⟩
def d__law_bag : He.DefD := ⟨("_law_bag", none), "_law_bag", "_law_bag", defArgs s__law_bag, defBody s__law_bag, defScope s__law_bag, [], []⟩
def d__law_draw : He.DefD := ⟨("_law_draw", none), "_law_draw", "_law_draw", defArgs s__law_draw, defBody s__law_draw, defScope s__law_draw, [], []⟩
def d__law_of : He.DefD := ⟨("_law_of", none), "_law_of", "_law_of", defArgs s__law_of, defBody s__law_of, defScope s__law_of, [], []⟩
def d__law_same : He.DefD := ⟨("_law_same", none), "_law_same", "_law_same", defArgs s__law_same, defBody s__law_same, defScope s__law_same, [], []⟩
def d__law_num : He.DefD := ⟨("_law_num", none), "_law_num", "_law_num", defArgs s__law_num, defBody s__law_num, defScope s__law_num, [], []⟩
def d__law_power : He.DefD := ⟨("_law_power", none), "_law_power", "_law_power", defArgs s__law_power, defBody s__law_power, defScope s__law_power, [], []⟩
def d__law_gcd : He.DefD := ⟨("_law_gcd", none), "_law_gcd", "_law_gcd", defArgs s__law_gcd, defBody s__law_gcd, defScope s__law_gcd, [], []⟩
def d__law_primes : He.DefD := ⟨("_law_primes", none), "_law_primes", "_law_primes", defArgs s__law_primes, defBody s__law_primes, defScope s__law_primes, [], []⟩
def d__law_exps : He.DefD := ⟨("_law_exps", none), "_law_exps", "_law_exps", defArgs s__law_exps, defBody s__law_exps, defScope s__law_exps, [], []⟩
def d__law_ratio_of : He.DefD := ⟨("_law_ratio_of", none), "_law_ratio_of", "_law_ratio_of", defArgs s__law_ratio_of, defBody s__law_ratio_of, defScope s__law_ratio_of, [], []⟩
def d__law_speed : He.DefD := ⟨("_law_speed", none), "_law_speed", "_law_speed", defArgs s__law_speed, defBody s__law_speed, defScope s__law_speed, [], []⟩
def d__law_try : He.DefD := ⟨("_law_try", none), "_law_try", "_law_try", defArgs s__law_try, defBody s__law_try, defScope s__law_try, [], []⟩
def d__law_two_signs : He.DefD := ⟨("_law_two_signs", none), "_law_two_signs", "_law_two_signs", defArgs s__law_two_signs, defBody s__law_two_signs, defScope s__law_two_signs, [], []⟩
def d__law_small_exps : He.DefD := ⟨("_law_small_exps", none), "_law_small_exps", "_law_small_exps", defArgs s__law_small_exps, defBody s__law_small_exps, defScope s__law_small_exps, [], []⟩
def d__law_two_flows : He.DefD := ⟨("_law_two_flows", none), "_law_two_flows", "_law_two_flows", defArgs s__law_two_flows, defBody s__law_two_flows, defScope s__law_two_flows, [], []⟩
def d__law_framed_so : He.DefD := ⟨("_law_framed_so", none), "_law_framed_so", "_law_framed_so", defArgs s__law_framed_so, defBody s__law_framed_so, defScope s__law_framed_so, [], []⟩
def d__law_refused_so : He.DefD := ⟨("_law_refused_so", none), "_law_refused_so", "_law_refused_so", defArgs s__law_refused_so, defBody s__law_refused_so, defScope s__law_refused_so, [], []⟩
def d__law_turned : He.DefD := ⟨("_law_turned", none), "_law_turned", "_law_turned", defArgs s__law_turned, defBody s__law_turned, defScope s__law_turned, [], []⟩
def d__law_once : He.DefD := ⟨("_law_once", none), "_law_once", "_law_once", defArgs s__law_once, defBody s__law_once, defScope s__law_once, [], []⟩
def d_law : He.DefD := ⟨("law", none), "law", "law", defArgs s_law, defBody s_law, defScope s_law, [], []⟩
def fn0 : List He.DefD := [d_InvalidNumber___init__, d_InvalidFrame___init__, d_NoSpeed___init__, d_Ratio___init__, d_Ratio___eq__, d_Ratio___mul__, d_Ratio___invert__, d_Ratio_raised, d_Ratio_power, d_power_of, d_is_whole, d__times_divided]
def fn1 : List He.DefD := [d_is_number, d__least_prime, d__check_signs, d__check_frame, d_speed, d_framed_flow, d__law_bag, d__law_draw, d__law_of, d__law_same, d__law_num, d__law_power]
def fn2 : List He.DefD := [d__law_gcd, d__law_primes, d__law_exps, d__law_ratio_of, d__law_speed, d__law_try, d__law_two_signs, d__law_small_exps, d__law_two_flows, d__law_framed_so, d__law_refused_so, d__law_turned]
def fn3 : List He.DefD := [d__law_once, d_law]
def fn : List He.DefD := fn0 ++ fn1 ++ fn2 ++ fn3
def fa0 : List He.Fa := [.free "ValueError", .free "abs", .free "all", .free "bool", .free "int", .free "isinstance", .free "len", .free "list", .free "range", .free "str", .free "tuple", .free "zip"]
def fa1 : List He.Fa := [.glo "BorderError", .glo "InvalidNumber", .glo "InvalidFrame", .glo "NoSpeed", .glo "Ratio", .glo "power_of", .glo "is_whole", .glo "_times_divided", .glo "is_number", .glo "_least_prime", .glo "_check_signs", .glo "_check_frame"]
def fa2 : List He.Fa := [.glo "speed", .glo "framed_flow", .glo "_law_bag", .glo "_law_draw", .glo "_law_of", .glo "_law_same", .glo "_law_num", .glo "_law_power", .glo "_law_gcd", .glo "_law_primes", .glo "_law_exps", .glo "_law_ratio_of"]
def fa3 : List He.Fa := [.glo "_law_speed", .glo "_law_try", .glo "_law_two_signs", .glo "_law_small_exps", .glo "_law_two_flows", .glo "_law_framed_so", .glo "_law_refused_so", .glo "_law_turned", .glo "_law_once", .glo "law", .glo "PRIMES_ratios", .glo "PRIMES_speeds"]
def fa4 : List He.Fa := [.cls "Ratio", .mkr "Ratio", .noat "Ratio" "top", .noat "Ratio" "bottom", .meth "Ratio" "raised", .meth "Ratio" "power", .exm "InvalidNumber" "InvalidNumber" true, .exm "NoSpeed" "InvalidNumber" false, .exm "NoSpeed" "NoSpeed" true]
def fa : List He.Fa := fa0 ++ fa1 ++ fa2 ++ fa3 ++ fa4
def loose0 : List PySem.Str := ["gcd", "BorderError", "InvalidNumber", "InvalidFrame", "NoSpeed", "PRIMES_ratios", "Ratio", "power_of", "is_whole", "_times_divided"]
def loose1 : List PySem.Str := ["is_number", "PRIMES_speeds", "_least_prime", "_check_signs", "_check_frame", "speed", "framed_flow", "_law_bag", "_law_draw", "_law_of"]
def loose2 : List PySem.Str := ["_law_same", "_law_num", "_law_power", "_law_gcd", "_law_primes", "_law_exps", "_law_ratio_of", "_law_speed", "_law_try", "_law_two_signs"]
def loose3 : List PySem.Str := ["_law_small_exps", "_law_two_flows", "_law_framed_so", "_law_refused_so", "_law_turned", "_law_once"]
def loose : List PySem.Str := loose0 ++ loose1 ++ loose2 ++ loose3
def e_InvalidNumber : ExcD := ⟨"InvalidNumber", ["value", "code"]⟩
def e_InvalidFrame : ExcD := ⟨"InvalidFrame", ["code"]⟩
def e_NoSpeed : ExcD := ⟨"NoSpeed", ["prime", "other", "code"]⟩
def t_PRIMES_ratios : List He.Dv := [.int 2, .int 3, .int 5, .int 7, .int 11, .int 13, .int 17, .int 19, .int 23, .int 29, .int 31, .int 37, .int 41, .int 43, .int 47, .int 53, .int 59, .int 61]
def t_PRIMES_speeds : List He.Dv := [.int 2, .int 3, .int 5, .int 7, .int 11, .int 13, .int 17, .int 19, .int 23, .int 29, .int 31, .int 37, .int 41, .int 43, .int 47, .int 53, .int 59, .int 61]
def more0 (K : PySem.W.Frag) : Bool := e_InvalidNumber.ok K
def more1 (K : PySem.W.Frag) : Bool := e_InvalidFrame.ok K
def more2 (K : PySem.W.Frag) : Bool := e_NoSpeed.ok K
def more3 (K : PySem.W.Frag) : Bool := He.tupB K "PRIMES_ratios" t_PRIMES_ratios
def more4 (K : PySem.W.Frag) : Bool := He.tupB K "PRIMES_speeds" t_PRIMES_speeds
def more5 (K : PySem.W.Frag) : Bool := decide (PySem.W.nsIn K mainGlobals "gcd" = some (some (.builtin "math.gcd")))
def more6 (K : PySem.W.Frag) : Bool := PySem.W.selfFirst K (He.ga K "Ratio")
def more7 (K : PySem.W.Frag) : Bool := isiB K (He.ga K "Ratio")
def more8 (K : PySem.W.Frag) : Bool := decide (PySem.W.typeIn K (.ref (He.ga K "Ratio")) = some (.type "type"))
def more9 (K : PySem.W.Frag) : Bool := (PySem.W.clsIn K (He.ga K "Ratio")).isSome
def more10 (K : PySem.W.Frag) : Bool := decide (PySem.W.findIn K (.ref (He.ga K "Ratio")) "__eq__" = some (some (.ref (He.ma K (He.ga K "Ratio") "__eq__"))))
def more11 (K : PySem.W.Frag) : Bool := PySem.W.isFn K (.ref (He.ma K (He.ga K "Ratio") "__eq__"))
def more12 (K : PySem.W.Frag) : Bool := decide (PySem.W.findIn K (.ref (He.ga K "Ratio")) "__mul__" = some (some (.ref (He.ma K (He.ga K "Ratio") "__mul__"))))
def more13 (K : PySem.W.Frag) : Bool := PySem.W.isFn K (.ref (He.ma K (He.ga K "Ratio") "__mul__"))
def more14 (K : PySem.W.Frag) : Bool := decide (PySem.W.findIn K (.ref (He.ga K "Ratio")) "__invert__" = some (some (.ref (He.ma K (He.ga K "Ratio") "__invert__"))))
def more15 (K : PySem.W.Frag) : Bool := PySem.W.isFn K (.ref (He.ma K (He.ga K "Ratio") "__invert__"))
def more16 (K : PySem.W.Frag) : Bool := !decide ((He.cT K ("_law_refused_so", none)).2 = (He.cT K ("_law_once", none)).2)
def more (K : PySem.W.Frag) : Bool := more0 K && (more1 K && (more2 K && (more3 K && (more4 K && (more5 K && (more6 K && (more7 K && (more8 K && (more9 K && (more10 K && (more11 K && (more12 K && (more13 K && (more14 K && (more15 K && (more16 K))))))))))))))))
def tf : List He.Defn := [("_law_refused_so", none), ("_law_once", none)]
abbrev R : PySem.W.OpenRow := PySem.W.OpenLaw.row PySem.Challenge.rw_borderflow_k18_whole_speeds
abbrev hk : PySem.W.Hook := He.hookX 5 fa fn [] tf more
def ob (s : PySem.W.SharedT) : He.AlX := He.obsX 5 fa fn [] tf more (HandSHeadRun.getT s)
theorem ob_eq (s : PySem.W.SharedT) : ob s = hk.obs s.abs := He.obsX_eq (HandSHeadRun.getT_eq s)
set_option maxHeartbeats 0 in
theorem run (w : World) : HandSHeadRun.RunEqI R (PySem.W.view R.prog [41]) hk ob 4000 loose w := by
  unfold HandSHeadRun.RunEqI
  kernel_rfl
def lawAt : Nat := 41
/-- what is known of the text's own part -/
abbrev TT (K : PySem.W.Frag) (mg : Str → Option Value) : Prop := TX fa fn more K mg
section
variable {K : PySem.W.Frag} {mg : Str → Option Value} (T : TT K mg)
include T
theorem m_0 : more0 K = true := by
  have h := T.more
  unfold more at h
  simp only [Bool.and_eq_true] at h
  exact h.1
theorem m_1 : more1 K = true := by
  have h := T.more
  unfold more at h
  simp only [Bool.and_eq_true] at h
  exact h.2.1
theorem m_2 : more2 K = true := by
  have h := T.more
  unfold more at h
  simp only [Bool.and_eq_true] at h
  exact h.2.2.1
theorem m_3 : more3 K = true := by
  have h := T.more
  unfold more at h
  simp only [Bool.and_eq_true] at h
  exact h.2.2.2.1
theorem m_4 : more4 K = true := by
  have h := T.more
  unfold more at h
  simp only [Bool.and_eq_true] at h
  exact h.2.2.2.2.1
theorem m_5 : more5 K = true := by
  have h := T.more
  unfold more at h
  simp only [Bool.and_eq_true] at h
  exact h.2.2.2.2.2.1
theorem m_6 : more6 K = true := by
  have h := T.more
  unfold more at h
  simp only [Bool.and_eq_true] at h
  exact h.2.2.2.2.2.2.1
theorem m_7 : more7 K = true := by
  have h := T.more
  unfold more at h
  simp only [Bool.and_eq_true] at h
  exact h.2.2.2.2.2.2.2.1
theorem m_8 : more8 K = true := by
  have h := T.more
  unfold more at h
  simp only [Bool.and_eq_true] at h
  exact h.2.2.2.2.2.2.2.2.1
theorem m_9 : more9 K = true := by
  have h := T.more
  unfold more at h
  simp only [Bool.and_eq_true] at h
  exact h.2.2.2.2.2.2.2.2.2.1
theorem m_10 : more10 K = true := by
  have h := T.more
  unfold more at h
  simp only [Bool.and_eq_true] at h
  exact h.2.2.2.2.2.2.2.2.2.2.1
theorem m_11 : more11 K = true := by
  have h := T.more
  unfold more at h
  simp only [Bool.and_eq_true] at h
  exact h.2.2.2.2.2.2.2.2.2.2.2.1
theorem m_12 : more12 K = true := by
  have h := T.more
  unfold more at h
  simp only [Bool.and_eq_true] at h
  exact h.2.2.2.2.2.2.2.2.2.2.2.2.1
theorem m_13 : more13 K = true := by
  have h := T.more
  unfold more at h
  simp only [Bool.and_eq_true] at h
  exact h.2.2.2.2.2.2.2.2.2.2.2.2.2.1
theorem m_14 : more14 K = true := by
  have h := T.more
  unfold more at h
  simp only [Bool.and_eq_true] at h
  exact h.2.2.2.2.2.2.2.2.2.2.2.2.2.2.1
theorem m_15 : more15 K = true := by
  have h := T.more
  unfold more at h
  simp only [Bool.and_eq_true] at h
  exact h.2.2.2.2.2.2.2.2.2.2.2.2.2.2.2.1
theorem m_16 : more16 K = true := by
  have h := T.more
  unfold more at h
  simp only [Bool.and_eq_true] at h
  exact h.2.2.2.2.2.2.2.2.2.2.2.2.2.2.2.2
theorem F_InvalidNumber___init__ : FunD K "__init__" "InvalidNumber.__init__" (defArgs s_InvalidNumber___init__) (defBody s_InvalidNumber___init__) (defScope s_InvalidNumber___init__) (d_InvalidNumber___init__.dvs K) [] (He.ma K (He.ga K "InvalidNumber") "__init__") (fdOf K ("InvalidNumber", some "__init__")) := T.fn_ 0 (d := d_InvalidNumber___init__) rfl
theorem B_InvalidNumber___init__ : Binds K (fdOf K ("InvalidNumber", some "__init__")) ["self", "value"] [] := (F_InvalidNumber___init__ T).bindsN fun _ _ _ _ _ _ us hl => match us, hl with | [_, _], _ => rfl
theorem F_InvalidFrame___init__ : FunD K "__init__" "InvalidFrame.__init__" (defArgs s_InvalidFrame___init__) (defBody s_InvalidFrame___init__) (defScope s_InvalidFrame___init__) (d_InvalidFrame___init__.dvs K) [] (He.ma K (He.ga K "InvalidFrame") "__init__") (fdOf K ("InvalidFrame", some "__init__")) := T.fn_ 1 (d := d_InvalidFrame___init__) rfl
theorem B_InvalidFrame___init__ : Binds K (fdOf K ("InvalidFrame", some "__init__")) ["self"] [] := (F_InvalidFrame___init__ T).bindsN fun _ _ _ _ _ _ us hl => match us, hl with | [_], _ => rfl
theorem F_NoSpeed___init__ : FunD K "__init__" "NoSpeed.__init__" (defArgs s_NoSpeed___init__) (defBody s_NoSpeed___init__) (defScope s_NoSpeed___init__) (d_NoSpeed___init__.dvs K) [] (He.ma K (He.ga K "NoSpeed") "__init__") (fdOf K ("NoSpeed", some "__init__")) := T.fn_ 2 (d := d_NoSpeed___init__) rfl
theorem B_NoSpeed___init__ : Binds K (fdOf K ("NoSpeed", some "__init__")) ["self", "prime", "other"] [] := (F_NoSpeed___init__ T).bindsN fun _ _ _ _ _ _ us hl => match us, hl with | [_, _, _], _ => rfl
theorem F_Ratio___init__ : FunD K "__init__" "Ratio.__init__" (defArgs s_Ratio___init__) (defBody s_Ratio___init__) (defScope s_Ratio___init__) (d_Ratio___init__.dvs K) [] (He.ma K (He.ga K "Ratio") "__init__") (fdOf K ("Ratio", some "__init__")) := T.fn_ 3 (d := d_Ratio___init__) rfl
theorem F_Ratio___eq__ : FunD K "__eq__" "Ratio.__eq__" (defArgs s_Ratio___eq__) (defBody s_Ratio___eq__) (defScope s_Ratio___eq__) (d_Ratio___eq__.dvs K) [] (He.ma K (He.ga K "Ratio") "__eq__") (fdOf K ("Ratio", some "__eq__")) := T.fn_ 4 (d := d_Ratio___eq__) rfl
theorem B_Ratio___eq__ : Binds K (fdOf K ("Ratio", some "__eq__")) ["self", "other"] [] := (F_Ratio___eq__ T).bindsN fun _ _ _ _ _ _ us hl => match us, hl with | [_, _], _ => rfl
theorem F_Ratio___mul__ : FunD K "__mul__" "Ratio.__mul__" (defArgs s_Ratio___mul__) (defBody s_Ratio___mul__) (defScope s_Ratio___mul__) (d_Ratio___mul__.dvs K) [] (He.ma K (He.ga K "Ratio") "__mul__") (fdOf K ("Ratio", some "__mul__")) := T.fn_ 5 (d := d_Ratio___mul__) rfl
theorem B_Ratio___mul__ : Binds K (fdOf K ("Ratio", some "__mul__")) ["self", "other"] [] := (F_Ratio___mul__ T).bindsN fun _ _ _ _ _ _ us hl => match us, hl with | [_, _], _ => rfl
theorem F_Ratio___invert__ : FunD K "__invert__" "Ratio.__invert__" (defArgs s_Ratio___invert__) (defBody s_Ratio___invert__) (defScope s_Ratio___invert__) (d_Ratio___invert__.dvs K) [] (He.ma K (He.ga K "Ratio") "__invert__") (fdOf K ("Ratio", some "__invert__")) := T.fn_ 6 (d := d_Ratio___invert__) rfl
theorem B_Ratio___invert__ : Binds K (fdOf K ("Ratio", some "__invert__")) ["self"] [] := (F_Ratio___invert__ T).bindsN fun _ _ _ _ _ _ us hl => match us, hl with | [_], _ => rfl
theorem F_Ratio_raised : FunD K "raised" "Ratio.raised" (defArgs s_Ratio_raised) (defBody s_Ratio_raised) (defScope s_Ratio_raised) (d_Ratio_raised.dvs K) [] (He.ma K (He.ga K "Ratio") "raised") (fdOf K ("Ratio", some "raised")) := T.fn_ 7 (d := d_Ratio_raised) rfl
theorem B_Ratio_raised : Binds K (fdOf K ("Ratio", some "raised")) ["self", "k"] [] := (F_Ratio_raised T).bindsN fun _ _ _ _ _ _ us hl => match us, hl with | [_, _], _ => rfl
theorem F_Ratio_power : FunD K "power" "Ratio.power" (defArgs s_Ratio_power) (defBody s_Ratio_power) (defScope s_Ratio_power) (d_Ratio_power.dvs K) [] (He.ma K (He.ga K "Ratio") "power") (fdOf K ("Ratio", some "power")) := T.fn_ 8 (d := d_Ratio_power) rfl
theorem B_Ratio_power : Binds K (fdOf K ("Ratio", some "power")) ["self", "prime"] [] := (F_Ratio_power T).bindsN fun _ _ _ _ _ _ us hl => match us, hl with | [_, _], _ => rfl
theorem F_power_of : FunD K "power_of" "power_of" (defArgs s_power_of) (defBody s_power_of) (defScope s_power_of) (d_power_of.dvs K) [] (He.ga K "power_of") (fdOf K ("power_of", none)) := T.fn_ 9 (d := d_power_of) rfl
theorem B_power_of : Binds K (fdOf K ("power_of", none)) ["base", "exponent"] [] := (F_power_of T).bindsN fun _ _ _ _ _ _ us hl => match us, hl with | [_, _], _ => rfl
theorem F_is_whole : FunD K "is_whole" "is_whole" (defArgs s_is_whole) (defBody s_is_whole) (defScope s_is_whole) (d_is_whole.dvs K) [] (He.ga K "is_whole") (fdOf K ("is_whole", none)) := T.fn_ 10 (d := d_is_whole) rfl
theorem B_is_whole : Binds K (fdOf K ("is_whole", none)) ["value"] [] := (F_is_whole T).bindsN fun _ _ _ _ _ _ us hl => match us, hl with | [_], _ => rfl
theorem F__times_divided : FunD K "_times_divided" "_times_divided" (defArgs s__times_divided) (defBody s__times_divided) (defScope s__times_divided) (d__times_divided.dvs K) [] (He.ga K "_times_divided") (fdOf K ("_times_divided", none)) := T.fn_ 11 (d := d__times_divided) rfl
theorem B__times_divided : Binds K (fdOf K ("_times_divided", none)) ["number", "prime"] [] := (F__times_divided T).bindsN fun _ _ _ _ _ _ us hl => match us, hl with | [_, _], _ => rfl
theorem F_is_number : FunD K "is_number" "is_number" (defArgs s_is_number) (defBody s_is_number) (defScope s_is_number) (d_is_number.dvs K) [] (He.ga K "is_number") (fdOf K ("is_number", none)) := T.fn_ 12 (d := d_is_number) rfl
theorem B_is_number : Binds K (fdOf K ("is_number", none)) ["value", "least", "most"] [] := (F_is_number T).bindsN fun _ _ _ _ _ _ us hl => match us, hl with | [_, _, _], _ => rfl
theorem F__least_prime : FunD K "_least_prime" "_least_prime" (defArgs s__least_prime) (defBody s__least_prime) (defScope s__least_prime) (d__least_prime.dvs K) [] (He.ga K "_least_prime") (fdOf K ("_least_prime", none)) := T.fn_ 13 (d := d__least_prime) rfl
theorem B__least_prime : Binds K (fdOf K ("_least_prime", none)) ["ratio"] [] := (F__least_prime T).bindsN fun _ _ _ _ _ _ us hl => match us, hl with | [_], _ => rfl
theorem F__check_signs : FunD K "_check_signs" "_check_signs" (defArgs s__check_signs) (defBody s__check_signs) (defScope s__check_signs) (d__check_signs.dvs K) [] (He.ga K "_check_signs") (fdOf K ("_check_signs", none)) := T.fn_ 14 (d := d__check_signs) rfl
theorem B__check_signs : Binds K (fdOf K ("_check_signs", none)) ["signs"] [] := (F__check_signs T).bindsN fun _ _ _ _ _ _ us hl => match us, hl with | [_], _ => rfl
theorem F__check_frame : FunD K "_check_frame" "_check_frame" (defArgs s__check_frame) (defBody s__check_frame) (defScope s__check_frame) (d__check_frame.dvs K) [] (He.ga K "_check_frame") (fdOf K ("_check_frame", none)) := T.fn_ 15 (d := d__check_frame) rfl
theorem B__check_frame : Binds K (fdOf K ("_check_frame", none)) ["value"] [] := (F__check_frame T).bindsN fun _ _ _ _ _ _ us hl => match us, hl with | [_], _ => rfl
theorem F_speed : FunD K "speed" "speed" (defArgs s_speed) (defBody s_speed) (defScope s_speed) (d_speed.dvs K) [] (He.ga K "speed") (fdOf K ("speed", none)) := T.fn_ 16 (d := d_speed) rfl
theorem B_speed : Binds K (fdOf K ("speed", none)) ["one_flow", "one_signs", "other_flow", "other_signs"] [] := (F_speed T).bindsN fun _ _ _ _ _ _ us hl => match us, hl with | [_, _, _, _], _ => rfl
theorem F_framed_flow : FunD K "framed_flow" "framed_flow" (defArgs s_framed_flow) (defBody s_framed_flow) (defScope s_framed_flow) (d_framed_flow.dvs K) [] (He.ga K "framed_flow") (fdOf K ("framed_flow", none)) := T.fn_ 17 (d := d_framed_flow) rfl
theorem B_framed_flow : Binds K (fdOf K ("framed_flow", none)) ["flow", "signs", "frame"] [] := (F_framed_flow T).bindsN fun _ _ _ _ _ _ us hl => match us, hl with | [_, _, _], _ => rfl
theorem F__law_bag : FunD K "_law_bag" "_law_bag" (defArgs s__law_bag) (defBody s__law_bag) (defScope s__law_bag) (d__law_bag.dvs K) [] (He.ga K "_law_bag") (fdOf K ("_law_bag", none)) := T.fn_ 18 (d := d__law_bag) rfl
theorem B__law_bag : Binds K (fdOf K ("_law_bag", none)) ["_law_script"] [] := (F__law_bag T).bindsN fun _ _ _ _ _ _ us hl => match us, hl with | [_], _ => rfl
theorem F__law_draw : FunD K "_law_draw" "_law_draw" (defArgs s__law_draw) (defBody s__law_draw) (defScope s__law_draw) (d__law_draw.dvs K) [] (He.ga K "_law_draw") (fdOf K ("_law_draw", none)) := T.fn_ 19 (d := d__law_draw) rfl
theorem B__law_draw : Binds K (fdOf K ("_law_draw", none)) ["_law_bag_here", "_law_sides"] [] := (F__law_draw T).bindsN fun _ _ _ _ _ _ us hl => match us, hl with | [_, _], _ => rfl
theorem F__law_of : FunD K "_law_of" "_law_of" (defArgs s__law_of) (defBody s__law_of) (defScope s__law_of) (d__law_of.dvs K) [] (He.ga K "_law_of") (fdOf K ("_law_of", none)) := T.fn_ 20 (d := d__law_of) rfl
theorem B__law_of : Binds K (fdOf K ("_law_of", none)) ["_law_bag_here", "_law_things"] [] := (F__law_of T).bindsN fun _ _ _ _ _ _ us hl => match us, hl with | [_, _], _ => rfl
theorem F__law_same : FunD K "_law_same" "_law_same" (defArgs s__law_same) (defBody s__law_same) (defScope s__law_same) (d__law_same.dvs K) [] (He.ga K "_law_same") (fdOf K ("_law_same", none)) := T.fn_ 21 (d := d__law_same) rfl
theorem B__law_same : Binds K (fdOf K ("_law_same", none)) ["_law_found", "_law_due"] [] := (F__law_same T).bindsN fun _ _ _ _ _ _ us hl => match us, hl with | [_, _], _ => rfl
theorem F__law_num : FunD K "_law_num" "_law_num" (defArgs s__law_num) (defBody s__law_num) (defScope s__law_num) (d__law_num.dvs K) [] (He.ga K "_law_num") (fdOf K ("_law_num", none)) := T.fn_ 22 (d := d__law_num) rfl
theorem B__law_num : Binds K (fdOf K ("_law_num", none)) ["_law_thing", "_law_least_z", "_law_most_z"] [] := (F__law_num T).bindsN fun _ _ _ _ _ _ us hl => match us, hl with | [_, _, _], _ => rfl
theorem F__law_power : FunD K "_law_power" "_law_power" (defArgs s__law_power) (defBody s__law_power) (defScope s__law_power) (d__law_power.dvs K) [] (He.ga K "_law_power") (fdOf K ("_law_power", none)) := T.fn_ 23 (d := d__law_power) rfl
theorem B__law_power : Binds K (fdOf K ("_law_power", none)) ["_law_base", "_law_times"] [] := (F__law_power T).bindsN fun _ _ _ _ _ _ us hl => match us, hl with | [_, _], _ => rfl
theorem F__law_gcd : FunD K "_law_gcd" "_law_gcd" (defArgs s__law_gcd) (defBody s__law_gcd) (defScope s__law_gcd) (d__law_gcd.dvs K) [] (He.ga K "_law_gcd") (fdOf K ("_law_gcd", none)) := T.fn_ 24 (d := d__law_gcd) rfl
theorem B__law_gcd : Binds K (fdOf K ("_law_gcd", none)) ["_law_aa", "_law_bb"] [] := (F__law_gcd T).bindsN fun _ _ _ _ _ _ us hl => match us, hl with | [_, _], _ => rfl
theorem F__law_primes : FunD K "_law_primes" "_law_primes" (defArgs s__law_primes) (defBody s__law_primes) (defScope s__law_primes) (d__law_primes.dvs K) [] (He.ga K "_law_primes") (fdOf K ("_law_primes", none)) := T.fn_ 25 (d := d__law_primes) rfl
theorem B__law_primes : Binds K (fdOf K ("_law_primes", none)) [] [] := (F__law_primes T).bindsN fun _ _ _ _ _ _ us hl => match us, hl with | [], _ => rfl
theorem F__law_exps : FunD K "_law_exps" "_law_exps" (defArgs s__law_exps) (defBody s__law_exps) (defScope s__law_exps) (d__law_exps.dvs K) [] (He.ga K "_law_exps") (fdOf K ("_law_exps", none)) := T.fn_ 26 (d := d__law_exps) rfl
theorem B__law_exps : Binds K (fdOf K ("_law_exps", none)) ["_law_number"] [] := (F__law_exps T).bindsN fun _ _ _ _ _ _ us hl => match us, hl with | [_], _ => rfl
theorem F__law_ratio_of : FunD K "_law_ratio_of" "_law_ratio_of" (defArgs s__law_ratio_of) (defBody s__law_ratio_of) (defScope s__law_ratio_of) (d__law_ratio_of.dvs K) [] (He.ga K "_law_ratio_of") (fdOf K ("_law_ratio_of", none)) := T.fn_ 27 (d := d__law_ratio_of) rfl
theorem B__law_ratio_of : Binds K (fdOf K ("_law_ratio_of", none)) ["_law_exps_z"] [] := (F__law_ratio_of T).bindsN fun _ _ _ _ _ _ us hl => match us, hl with | [_], _ => rfl
theorem F__law_speed : FunD K "_law_speed" "_law_speed" (defArgs s__law_speed) (defBody s__law_speed) (defScope s__law_speed) (d__law_speed.dvs K) [] (He.ga K "_law_speed") (fdOf K ("_law_speed", none)) := T.fn_ 28 (d := d__law_speed) rfl
theorem B__law_speed : Binds K (fdOf K ("_law_speed", none)) ["_law_ea", "_law_na", "_law_eb", "_law_nb"] [] := (F__law_speed T).bindsN fun _ _ _ _ _ _ us hl => match us, hl with | [_, _, _, _], _ => rfl
theorem F__law_try : FunD K "_law_try" "_law_try" (defArgs s__law_try) (defBody s__law_try) (defScope s__law_try) (d__law_try.dvs K) [] (He.ga K "_law_try") (fdOf K ("_law_try", none)) := T.fn_ 29 (d := d__law_try) rfl
theorem B__law_try : Binds K (fdOf K ("_law_try", none)) ["_law_ask"] [] := (F__law_try T).bindsN fun _ _ _ _ _ _ us hl => match us, hl with | [_], _ => rfl
theorem F__law_two_signs : FunD K "_law_two_signs" "_law_two_signs" (defArgs s__law_two_signs) (defBody s__law_two_signs) (defScope s__law_two_signs) (d__law_two_signs.dvs K) [] (He.ga K "_law_two_signs") (fdOf K ("_law_two_signs", none)) := T.fn_ 30 (d := d__law_two_signs) rfl
theorem B__law_two_signs : Binds K (fdOf K ("_law_two_signs", none)) ["_law_bag_here"] [] := (F__law_two_signs T).bindsN fun _ _ _ _ _ _ us hl => match us, hl with | [_], _ => rfl
theorem F__law_small_exps : FunD K "_law_small_exps" "_law_small_exps" (defArgs s__law_small_exps) (defBody s__law_small_exps) (defScope s__law_small_exps) (d__law_small_exps.dvs K) [] (He.ga K "_law_small_exps") (fdOf K ("_law_small_exps", none)) := T.fn_ 31 (d := d__law_small_exps) rfl
theorem B__law_small_exps : Binds K (fdOf K ("_law_small_exps", none)) ["_law_bag_here"] [] := (F__law_small_exps T).bindsN fun _ _ _ _ _ _ us hl => match us, hl with | [_], _ => rfl
theorem F__law_two_flows : FunD K "_law_two_flows" "_law_two_flows" (defArgs s__law_two_flows) (defBody s__law_two_flows) (defScope s__law_two_flows) (d__law_two_flows.dvs K) [] (He.ga K "_law_two_flows") (fdOf K ("_law_two_flows", none)) := T.fn_ 32 (d := d__law_two_flows) rfl
theorem B__law_two_flows : Binds K (fdOf K ("_law_two_flows", none)) ["_law_bag_here", "_law_na", "_law_nb"] [] := (F__law_two_flows T).bindsN fun _ _ _ _ _ _ us hl => match us, hl with | [_, _, _], _ => rfl
theorem F__law_framed_so : FunD K "_law_framed_so" "_law_framed_so" (defArgs s__law_framed_so) (defBody s__law_framed_so) (defScope s__law_framed_so) (d__law_framed_so.dvs K) [] (He.ga K "_law_framed_so") (fdOf K ("_law_framed_so", none)) := T.fn_ 33 (d := d__law_framed_so) rfl
theorem B__law_framed_so : Binds K (fdOf K ("_law_framed_so", none)) ["_law_bag_here", "_law_flow_a", "_law_na", "_law_flow_b", "_law_nb", "_law_ea", "_law_due"] [] := (F__law_framed_so T).bindsN fun _ _ _ _ _ _ us hl => match us, hl with | [_, _, _, _, _, _, _], _ => rfl
theorem F__law_refused_so : FunD K "_law_refused_so" "_law_refused_so" (defArgs s__law_refused_so) (defBody s__law_refused_so) (defScope s__law_refused_so) (d__law_refused_so.dvs K) [] (He.ga K "_law_refused_so") (fdOf K ("_law_refused_so", none)) := T.fn_ 34 (d := d__law_refused_so) rfl
theorem B__law_refused_so : Binds K (fdOf K ("_law_refused_so", none)) ["_law_bag_here", "_law_flow_a", "_law_na", "_law_flow_b", "_law_nb"] [] := (F__law_refused_so T).bindsN fun _ _ _ _ _ _ us hl => match us, hl with | [_, _, _, _, _], _ => rfl
theorem F__law_turned : FunD K "_law_turned" "_law_turned" (defArgs s__law_turned) (defBody s__law_turned) (defScope s__law_turned) (d__law_turned.dvs K) [] (He.ga K "_law_turned") (fdOf K ("_law_turned", none)) := T.fn_ 35 (d := d__law_turned) rfl
theorem B__law_turned : Binds K (fdOf K ("_law_turned", none)) ["_law_due"] [] := (F__law_turned T).bindsN fun _ _ _ _ _ _ us hl => match us, hl with | [_], _ => rfl
theorem F__law_once : FunD K "_law_once" "_law_once" (defArgs s__law_once) (defBody s__law_once) (defScope s__law_once) (d__law_once.dvs K) [] (He.ga K "_law_once") (fdOf K ("_law_once", none)) := T.fn_ 36 (d := d__law_once) rfl
theorem B__law_once : Binds K (fdOf K ("_law_once", none)) ["_law_bag_here"] [] := (F__law_once T).bindsN fun _ _ _ _ _ _ us hl => match us, hl with | [_], _ => rfl
theorem F_law : FunD K "law" "law" (defArgs s_law) (defBody s_law) (defScope s_law) (d_law.dvs K) [] (He.ga K "law") (fdOf K ("law", none)) := T.fn_ 37 (d := d_law) rfl
theorem B_law : Binds K (fdOf K ("law", none)) ["_law_script"] [] := (F_law T).bindsN fun _ _ _ _ _ _ us hl => match us, hl with | [_], _ => rfl
end
end BF
/-! macros: lk (a fact of an earlier heap), nm (not among), st (a step), sts (steps) -/
local macro_rules | `(tactic| walk_at "nm") => `(tactic| first | exact List.not_mem_nil | assumption | (simp only [List.mem_cons, List.not_mem_nil, or_false, not_or]; first | assumption | (refine ⟨?_, ?_⟩ <;> assumption) | (intro h; subst h; simp_all)))
local macro_rules | `(tactic| walk_at "lk") => `(tactic| first
  | assumption
  | (apply BF.sql_of; walk_at "lk1")
  | (apply BF.sqt_of; walk_at "lk1")
  | (refine BF.sql_ex (by assumption) ?_ ?_; (walk_at "nm"); (walk_at "lk"))
  | (refine BF.sqt_ex (by assumption) ?_ ?_; (walk_at "nm"); (walk_at "lk"))
  | (apply BF.sql_ex; (assumption); (walk_at "nm"); (walk_at "lk"))
  | (apply BF.sqt_ex; (assumption); (walk_at "nm"); (walk_at "lk"))
  | walk_at "lk1")
local macro_rules | `(tactic| walk_at "lk1") => `(tactic| first
  | assumption
  | exact L2.upd_same
  | (apply BF.at_ex; (assumption); (walk_at "nm"); (walk_at "lk1"))
  | (rw [L2.upd_ne (by assumption)]; walk_at "lk1")
  | (rw [L2.upd_ne (Ne.symm (by assumption))]; walk_at "lk1"))
local macro_rules | `(tactic| walk_at "ss") => `(tactic| first | (intro _ h; cases h; done) | (intro _ h; assumption) | (intro _ h; exact h) | (intro _ h; simp only [List.mem_cons, List.not_mem_nil, or_false] at h ⊢; simp_all))
local macro_rules | `(tactic| walk_at "ex") => `(tactic| first
  | assumption
  | exact BF.Ex.refl _
  | (refine' BF.Ex.st (by assumption) ?_ ?_; (walk_at "ss"); (walk_at "ex")))
local macro_rules | `(tactic| walk_at "sset") => `(tactic| (first | (simp only [List.set_cons_succ, List.set_cons_zero]; done) | (simp only [List.set_cons_succ, List.set_cons_zero]; rfl) | rfl))
local macro_rules | `(tactic| walk_at "st") => `(tactic| (with_reducible first
  | refine' BF.x_seq ?_
  | refine' BF.x_asg ?_
  | (refine' BF.x_var (by with_unfolding_all rfl) ?_)
  | refine' BF.x_c ?_
  | refine' BF.x_op ?_
  | refine' BF.x_cons ?_
  | refine' BF.x_nil ?_
  | refine' BF.x_addI ?_
  | refine' BF.x_I0 ?_
  | refine' BF.x_intc ?_
  | refine' BF.x_int ?_
  | refine' BF.x_cb ?_
  | refine' BF.x_call ?_
  | refine' BF.x_ret ?_
  | refine' BF.x_ifS ?_
  | refine' BF.x_test ?_
  | refine' BF.x_B ?_
  | refine' BF.x_bl ?_
  | refine' BF.x_blV ?_
  | refine' BF.x_and ?_
  | refine' BF.x_or ?_
  | refine' BF.x_not ?_
  | refine' BF.x_if ?_
  | refine' BF.x_andV ?_
  | refine' BF.x_orV ?_
  | refine' BF.x_notV ?_
  | refine' BF.x_eqI ?_
  | refine' BF.x_neI ?_
  | refine' BF.x_eqB ?_
  | refine' BF.x_eqS ?_
  | refine' BF.x_neS ?_
  | refine' BF.x_neB ?_
  | refine' BF.x_un ?_
  | refine' BF.x_U ?_
  | refine' BF.x_gsub ?_
  | refine' BF.x_sl ?_
  | refine' BF.x_part ?_
  | refine' BF.x_nopart ?_
  | refine' BF.x_tup ?_
  | refine' BF.x_tupE ?_
  | refine' BF.x_lstE ?_
  | refine' BF.x_lst ?_
  | refine' BF.x_next ?_
  | refine' BF.x_drop ?_
  | refine' BF.x_retN ?_
  | refine' BF.x_isNo ?_
  | refine' BF.x_notNo ?_
  | refine' BF.x_abs ?_
  | refine' BF.x_bm ?_
  | refine' BF.x_bm0 ?_
  | refine' BF.x_gcons ?_
  | refine' BF.x_gnil ?_
  | refine' BF.x_par ?_
  | refine' BF.x_par2 ?_
  | refine' BF.x_brk ?_
  | refine' BF.x_cnt ?_
  | refine' BF.x_for ?_
  | refine' BF.x_ilist ?_
  | refine' BF.x_itup ?_
  | refine' BF.x_irng ?_
  | refine' BF.x_izipA ?_
  | refine' BF.x_lc ?_
  | refine' BF.x_yes ?_
  | refine' BF.x_ost ?_
  | refine' BF.x_rs ?_
  | refine' BF.x_chain ?_
  | refine' BF.x_ipI ?_
  | (refine' BF.x_aug (by with_unfolding_all rfl) ?_)
  | refine' BF.x_fld ?_
  | refine' BF.x_sfld ?_
  | refine' BF.x_meth ?_
  | refine' BF.x_make ?_
  | refine' BF.x_gcd ?_
  | refine' BF.x_iteY ?_
  | refine' BF.x_iteNo ?_))
local macro_rules | `(tactic| walk_at "gn") => `(tactic| ((with_reducible apply BF.x_gname); (walk_at "sset")))
local macro_rules | `(tactic| walk_at "go") => `(tactic| repeat (first | walk_at "st" | walk_at "gn"))
local macro_rules | `(tactic| walk_at "in") => `(tactic| (dsimp only [L2.cxOf, L2.Cx.nox, L2.Cx.wish, L2.start]; dsimp only [List.map, List.append_eq, List.append, HAppend.hAppend, Append.append, List.length_cons, List.length_nil, List.cons_append, List.nil_append, List.replicate_succ, List.replicate_zero, Nat.reduceAdd, Nat.reduceSub, List.append_nil, Nat.zero_add]))
local macro_rules | `(tactic| walk_at "il") => `(tactic| first
  | ((with_reducible apply BF.x_ixL); (walk_at "lk"); (with_unfolding_all rfl))
  | ((with_reducible apply BF.x_ixT); (walk_at "lk"); (with_unfolding_all rfl)))
local macro_rules | `(tactic| walk_at "len") => `(tactic| first
  | ((with_reducible apply BF.x_lenL); (walk_at "lk"))
  | ((with_reducible apply BF.x_lenT); (walk_at "lk")))
local macro_rules | `(tactic| walk_at "lset") => `(tactic| first | (simp only [Int.reduceToNat, Int.toNat_zero, Int.toNat_one, List.set_cons_succ, List.set_cons_zero]; done) | (simp only [Int.reduceToNat, Int.toNat_zero, Int.toNat_one, List.set_cons_succ, List.set_cons_zero]; rfl) | rfl)
local macro_rules | `(tactic| walk_at "sl") => `(tactic| ((with_reducible apply BF.x_setL2); (walk_at "lk1"); (with_unfolding_all rfl); (walk_at "lset"); (intro _ _ _)))
local macro_rules | `(tactic| walk_at "al") => `(tactic| ((with_reducible apply BF.x_len1); (simp only [List.length_cons, List.length_nil]; omega); (intro _ _ _ _ _)))
local macro_rules | `(tactic| walk_at "slc") => `(tactic| ((with_reducible apply BF.x_slL); (walk_at "lk"); (intro _ _ _ _ _)))
local macro_rules | `(tactic| walk_at "lst") => `(tactic| first
  | ((with_reducible apply BF.x_listL); (walk_at "lk"); (intro _ _ _ _ _))
  | ((with_reducible apply BF.x_listT); (walk_at "lk"); (intro _ _ _ _ _))
  | ((with_reducible apply BF.x_tupL); (walk_at "lk"); (intro _ _ _ _ _))
  | ((with_reducible apply BF.x_tupT); (walk_at "lk")))
local macro_rules | `(tactic| walk_at "app") => `(tactic| ((with_reducible apply BF.x_tyL); (walk_at "lk1")))
local macro_rules | `(tactic| walk_at "ol") => `(tactic| first
  | ((with_reducible apply BF.x_onList); (walk_at "lk"))
  | ((with_reducible apply BF.x_onTup); (walk_at "lk"))
  | ((with_reducible apply BF.x_onRng); omega; omega)
  | ((with_reducible apply BF.x_onZipL); (walk_at "lk"); (walk_at "lk"))
  | ((with_reducible apply BF.x_onZipT); (walk_at "lk"); (walk_at "lk")))
local macro_rules | `(tactic| walk_at "ty") => `(tactic| first
  | assumption
  | exact L2.TyX.base .non
  | exact L2.TyX.base (.bl _)
  | exact L2.TyX.base (.int _)
  | exact L2.TyX.base (.str _)
  | (refine BF.ty_sqL ?_; walk_at "lk")
  | (refine BF.ty_sqT ?_; walk_at "lk")
  | (apply BF.ty_sqL; walk_at "lk")
  | (apply BF.ty_sqT; walk_at "lk"))
local macro_rules | `(tactic| walk_at "kb") => `(tactic| first
  | exact BF.kb_NoneType_list
  | exact BF.kb_NoneType_tuple
  | exact BF.kb_NoneType_bool
  | exact BF.kb_NoneType_str
  | exact BF.kb_NoneType_int
  | exact BF.kb_bool_list
  | exact BF.kb_bool_tuple
  | exact BF.kb_bool_bool
  | exact BF.kb_bool_str
  | exact BF.kb_bool_int
  | exact BF.kb_int_list
  | exact BF.kb_int_tuple
  | exact BF.kb_int_bool
  | exact BF.kb_int_str
  | exact BF.kb_int_int
  | exact BF.kb_str_list
  | exact BF.kb_str_tuple
  | exact BF.kb_str_bool
  | exact BF.kb_str_str
  | exact BF.kb_str_int
  | exact BF.kb_list_list
  | exact BF.kb_list_tuple
  | exact BF.kb_list_bool
  | exact BF.kb_list_str
  | exact BF.kb_list_int
  | exact BF.kb_tuple_list
  | exact BF.kb_tuple_tuple
  | exact BF.kb_tuple_bool
  | exact BF.kb_tuple_str
  | exact BF.kb_tuple_int)
local macro_rules | `(tactic| walk_at "is") => `(tactic| first
  | ((with_reducible apply BF.x_isi); (walk_at "ty"); (walk_at "kb"))
  | ((with_reducible apply BF.x_isiLT); (walk_at "ty"); (walk_at "lk1"); (walk_at "kb"); (walk_at "kb")))
local macro_rules | `(tactic| walk_at "ar") => `(tactic| first
  | ((with_reducible refine BF.cpow_of ?_ ?_ ?_ ?_) <;> omega)
  | ((with_reducible refine BF.cmul_of ?_ ?_ ?_ ?_) <;> omega)
  | ((with_reducible refine BF.cdiv_of ?_ ?_) <;> omega)
  | (show (0 : Int) < _; omega))
local macro_rules | `(tactic| walk_at "xi") => `(tactic| ((with_reducible refine' BF.x_I ?_ ?_); (walk_at "ar")))
local macro_rules | `(tactic| walk_at "gt") => `(tactic| ((with_reducible apply BF.x_gtup); (walk_at "lk"); (with_unfolding_all rfl)))
local macro_rules | `(tactic| walk_at "dec") => `(tactic| first
  | refine BF.x_iteT (by with_unfolding_all rfl) ?_
  | refine BF.x_iteF (by with_unfolding_all rfl) ?_
  | refine BF.x_iteT (decide_eq_true rfl) ?_)
local macro_rules | `(tactic| walk_at "pf") => `(tactic| first
  | exact BF.putF_nil
  | exact BF.putF_eq
  | (apply BF.putF_ne; (decide); (walk_at "pf")))
local macro_rules | `(tactic| walk_at "ob") => `(tactic| first
  | ((with_reducible apply BF.x_fldR); (walk_at "lk1"); (assumption); (assumption); (with_unfolding_all rfl))
  | ((with_reducible apply BF.x_sfldR); (walk_at "lk1"); (assumption); (assumption); (simp only [List.length_cons, List.length_nil]; omega); (walk_at "pf"); (intro _ _ _))
  | ((with_reducible apply BF.x_methR); (walk_at "lk1"); (with_unfolding_all rfl)))
local macro_rules | `(tactic| walk_at "os") => `(tactic| first
  | ((with_reducible apply BF.x_ost1); (assumption); (assumption); (assumption); (intro _ _ _ _ _ _ _))
  | ((with_reducible apply BF.x_ost2); (assumption); (assumption); (simp only [List.length_cons, List.length_nil]; omega); (assumption); (assumption); (assumption); (intro _ _ _ _)))
local macro_rules | `(tactic| walk_at "gg") => `(tactic| repeat (first | walk_at "st" | walk_at "gn" | walk_at "il" | walk_at "len" | walk_at "sl" | walk_at "al" | walk_at "xi" | walk_at "slc" | walk_at "lst" | walk_at "ol" | walk_at "app" | walk_at "is" | walk_at "gt" | walk_at "dec" | walk_at "ob" | walk_at "os"))
/-! ## The bag -/
namespace BF
open PySem PySem.Spec PyProof.Rows L2
/-- the bag at b: its script at sc; at most n draws so far -/
structure Bag (K : PySem.W.Frag) (b sc : Addr) (ns : List Int) (H : Hp) (n : Int) : Prop where
  scr : H sc = some (.lst (ns.map V.int))
  ne : sc ≠ b
  obj : ∃ i r m c : Int, H b = some (.lst [.ref sc, .int i, .int r, .int m, .int c]) ∧ 0 ≤ i ∧ 0 ≤ r ∧ 0 ≤ m ∧ m < 2305843009213693951 ∧ 0 ≤ c ∧ c ≤ n
theorem Bag.ex {K : PySem.W.Frag} {b sc : Addr} {ns : List Int} {H H' : Hp} {n : Int} {M : List Addr} (h : Bag K b sc ns H n) (e : Ex M H H') (h1 : sc ∉ M) (h2 : b ∉ M) : Bag K b sc ns H' n := by
  obtain ⟨s, ne, i, r, m, c, hb, q⟩ := h
  exact ⟨e _ _ h1 s, ne, i, r, m, c, e _ _ h2 hb, q⟩

def spDraw (K : PySem.W.Frag) : Sp := fun vs H Q _ => ∃ (b sc : Addr) (ns : List Int) (n k : Int), vs = [.ref b, .int k] ∧ Bag K b sc ns H n ∧ n ≤ 1000000 ∧ 0 < k ∧ k < 1073741824 ∧
  ∀ (m : Int) (H' : Hp), 0 ≤ m → m < k → Ex [b] H H' → Bag K b sc ns H' (n + 1) → Q (.int m) H'
section
variable {P : Program} {w : World} {K : PySem.W.Frag} {mg : Str → Option Value} {base : Heap}
theorem sc__law_draw : FnScope ["_law_bag_here", "_law_sides", "_law_item", "_law_digit"] ["_law_bag_here", "_law_sides"] (defScope s__law_draw) := ⟨rfl, rfl, rfl, by decide +kernel, rfl, by decide +kernel, by decide +kernel⟩
theorem ok__law_draw (T : TT K mg) : FnOk P w K mg base CX0 1 (He.ga K "_law_draw") (fdOf K ("_law_draw", none)) ["_law_bag_here", "_law_sides"] (spDraw K) := by
  refine (F__law_draw T).ok sc__law_draw (fun vs H Q E h => ?_) (fun cdv A outer s H vs Q E hr h => ⟨_, PSs.nox ((pss_cons (ps_asg (pe_op (op_addUK K) (pe_ix (ix_LTK K) (pv 0) pe_int (fun _ _ => rfl)) pe_int) (pg_sub (pv 0) pe_int set_list))
  (C8.pss_cut (ps_if (PW.pt (pw_and (pt_cmpR op_eq (pe_ix (ix_LTK K) (pv 0) pe_int (fun _ _ => rfl)) pe_int (nomark _)) (pw_and1 (pt_cmpR op_lt (pe_ix (ix_LTK K) (pv 0) pe_int (fun _ _ => rfl)) (pe_callB (call_lenLTK K) (by rfl) (T.free "len" rfl) boot_len (pa_cons (pe_ix (ix_LTK K) (pv 0) pe_int (fun _ _ => rfl)) pa_nil)) (nomark _))))) (pss_cons (ps_set (i := 2) sc__law_draw.nd rfl (Or.inl rfl) (pe_callTy call_intX (by rfl) (T.free "int" rfl) boot_int (pa_cons (pe_ix (ix_LTK K) (pe_ix (ix_LTK K) (pv 0) pe_int (fun _ _ => rfl)) (pe_ix (ix_LTK K) (pv 0) pe_int (fun _ _ => rfl)) (fun _ _ => rfl)) pa_nil)))
  (pss_cons (ps_asg (pe_op (op_addUK K) (pe_ix (ix_LTK K) (pv 0) pe_int (fun _ _ => rfl)) pe_int) (pg_sub (pv 0) pe_int set_list))
  (pss_one (ps_if (pt_cmpR op_ge (pv 2) (pe_op op_pow pe_int pe_int) (nomark _)) (pss_one (ps_asg (pv 2) (pg_sub (pv 0) pe_int set_list))) (pss_one (ps_asg (pe_op op_mod (pe_callTy call_intX (by rfl) (T.free "int" rfl) boot_int (pa_cons (pe_op op_pow (pe_op (op_addUK K) (pe_op (op_addUK K) (pe_ix (ix_LTK K) (pv 0) pe_int (fun _ _ => rfl)) (pe_op op_mulW (pe_op op_mod (pv 2) pe_int) pe_int)) pe_int) pe_int) pa_nil)) pe_int) (pg_sub (pv 0) pe_int set_list))))))) pss_nil)
  (pss_cons (ps_if (pt_cmpR op_gt (pe_ix (ix_LTK K) (pv 0) pe_int (fun _ _ => rfl)) pe_int (nomark _)) (pss_cons (ps_set (i := 3) sc__law_draw.nd rfl (Or.inl rfl) (pe_op op_mod (pe_callTy call_intX (by rfl) (T.free "int" rfl) boot_int (pa_cons (pe_ix (ix_LTK K) (pv 0) pe_int (fun _ _ => rfl)) pa_nil)) (pv 1)))
  (pss_cons (ps_asg (pe_op op_fdivW (pe_ix (ix_LTK K) (pv 0) pe_int (fun _ _ => rfl)) (pv 1)) (pg_sub (pv 0) pe_int set_list))
  (pss_one (ps_ret (pv 3))))) pss_nil)
  (pss_cons (ps_asg (pe_op op_mod (pe_callTy call_intX (by rfl) (T.free "int" rfl) boot_int (pa_cons (pe_op op_pow (pe_op (op_addUK K) (pe_op (op_addUK K) (pe_ix (ix_LTK K) (pv 0) pe_int (fun _ _ => rfl)) (pe_op op_mulW (pe_ix (ix_LTK K) (pv 0) pe_int (fun _ _ => rfl)) pe_int)) pe_int) pe_int) pa_nil)) pe_int) (pg_sub (pv 0) pe_int set_list))
  (pss_one (ps_ret (pe_op op_mod (pe_callTy call_intX (by rfl) (T.free "int" rfl) boot_int (pa_cons (pe_op op_fdivW (pe_ix (ix_LTK K) (pv 0) pe_int (fun _ _ => rfl)) pe_int) pa_nil)) (pv 1))))))))), ?_⟩)
  · obtain ⟨b, sc, ns, n, k, rfl, _⟩ := h
    rfl
  · obtain ⟨b, sc, ns, n, k, rfl, hb, hn, hk0, hk, hQ⟩ := h
    obtain ⟨hs, ne, i, r, m, c, hob, q1, q2, q3, q4, q5, q6⟩ := hb
    walk_at "in"
    walk_at "gg"
    refine ⟨fun σ' H' => ∃ (o : Option V) (i r m c : Int), σ' = [some (.ref b), some (.int k), o, none] ∧ H' b = some (.lst [.ref sc, .int i, .int r, .int m, .int c]) ∧ 0 ≤ i ∧ 0 ≤ r ∧ 0 ≤ m ∧ m < 2305843009213693951 ∧ 0 ≤ c ∧ c ≤ n + 1 ∧ Ex [b] H H', ?_, ?_⟩
    · walk_at "gg"
      refine x_ite (fun h1 => ?_) (fun h1 => ?_)
      · walk_at "gg"
        refine x_ite (fun h2 => ?_) (fun h2 => ?_)
        · walk_at "gg"
          obtain ⟨z, hz, ha⟩ := atI_ints q1 h2
          refine x_ixL (by walk_at "lk") ha ?_
          walk_at "gg"
          refine x_ite (fun h3 => ?_) (fun h3 => ?_)
          · simp only [Int.reduceToNat, Int.reducePow] at h3
            walk_at "gg"
            exact ⟨some (.int z), i + 1, z, m, c + 1, rfl, by assumption, by omega, by omega, q3, q4, by omega, by omega, by walk_at "ex"⟩
          · walk_at "gg"
            exact ⟨some (.int z), i + 1, r, _, c + 1, rfl, by assumption, by omega, by omega, by omega, by omega, by omega, by omega, by walk_at "ex"⟩
        · walk_at "gg"
          exact ⟨none, i, r, m, c + 1, rfl, by assumption, q1, q2, q3, q4, by omega, by omega, by walk_at "ex"⟩
      · walk_at "gg"
        exact ⟨none, i, r, m, c + 1, rfl, by assumption, q1, q2, q3, q4, by omega, by omega, by walk_at "ex"⟩
    · rintro σ' H' ⟨o, i, r, m, c, rfl, hob', q1, q2, q3, q4, q5, q6, e'⟩
      walk_at "gg"
      refine x_ite (fun h1 => ?_) (fun h1 => ?_)
      · walk_at "gg"
        refine hQ _ _ (Int.emod_nonneg _ (by omega)) (Int.emod_lt_of_pos _ hk0) (by walk_at "ex") ⟨by walk_at "lk1", ne, i, r / k, m, c, by assumption, q1, Int.ediv_nonneg q2 (by omega), q3, q4, q5, q6⟩
      · walk_at "gg"
        refine hQ _ _ (Int.emod_nonneg _ (by omega)) (Int.emod_lt_of_pos _ hk0) (by walk_at "ex") ⟨by walk_at "lk1", ne, i, r, _, c, by assumption, q1, q2, by omega, by omega, q5, q6⟩
/-- the bag's making -/
def spBag (K : PySem.W.Frag) : Sp := fun vs H Q _ => ∃ (a : Addr) (ns : List Int), vs = [.ref a] ∧ SqL K H a (ns.map V.int) ∧
  ∀ (b sc : Addr) (ms : List Int) (H' : Hp), H b = none → H sc = none → Ex [] H H' → Bag K b sc ms H' 0 → Q (.ref b) H'
theorem cut_ints (ns : List Int) (lo hi : Option Int) : ∃ ms : List Int, cutV (ns.map V.int) lo hi = ms.map V.int ∧ ms.length ≤ ns.length := by
  unfold cutV
  rw [← List.map_drop, ← List.map_take]
  refine ⟨_, rfl, ?_⟩
  rw [List.length_take, List.length_drop]
  omega
theorem sc__law_bag : FnScope ["_law_script", "_law_mixed", "_law_item"] ["_law_script"] (defScope s__law_bag) := ⟨rfl, rfl, rfl, by decide +kernel, rfl, by decide +kernel, by decide +kernel⟩
theorem ok__law_bag (T : TT K mg) : FnOk P w K mg base CX0 1 (He.ga K "_law_bag") (fdOf K ("_law_bag", none)) ["_law_script"] (spBag K) := by
  refine (F__law_bag T).ok sc__law_bag (fun vs H Q E h => ?_) (fun cdv A outer s H vs Q E hr h => ⟨_, PSs.nox ((pss_cons (ps_set (i := 1) sc__law_bag.nd rfl (Or.inl rfl) pe_int)
  (pss_cons (ps_for PassesOwn.never rfl (pi_list (pe_slice (sl_listK K) (pv 0) po_none (po_some pe_int))) (pg_name (i := 2) sc__law_bag.nd rfl (Or.inl rfl)) (pss_one (ps_set (i := 1) sc__law_bag.nd rfl (Or.inl rfl) (pe_op op_mod (pe_callTy call_intX (by rfl) (T.free "int" rfl) boot_int (pa_cons (pe_op op_pow (pe_op (op_addUK K) (pe_op (op_addUK K) (pv 1) (pe_op op_mod (pe_callTy call_intX (by rfl) (T.free "int" rfl) boot_int (pa_cons (pv 2) pa_nil)) pe_int)) pe_int) pe_int) pa_nil)) pe_int))))
  (pss_one (ps_ret (pe_lstE (pa_cons (pe_callTy (call_listLTK K) (by rfl) (T.free "list" rfl) boot_list (pa_cons (pe_slice (sl_listK K) (pv 0) po_none (po_some pe_int)) pa_nil)) (pa_cons pe_int (pa_cons pe_int (pa_cons (pv 1) (pa_cons pe_int pa_nil))))))))))), ?_⟩)
  · obtain ⟨a, ns, rfl, _⟩ := h
    rfl
  · obtain ⟨a, ns, rfl, ha, hQ⟩ := h
    walk_at "in"
    walk_at "gg"
    rename_i p H1 hp e1 hl
    obtain ⟨ms, hms, _⟩ := cut_ints ns none (some 63)
    rw [hms] at hl
    refine for_it (walk_list (xs := ms.map V.int)) (fun i σ H' => ∃ (m : Int) (o : Option V), σ = [some (.ref a), some (.int m), o] ∧ 0 ≤ m ∧ m < 2305843009213693951 ∧ Ex [] H1 H') ⟨12046, none, rfl, by decide, by decide, Ex.refl _⟩ ?_ ?_ ?_
    · rintro i σ H' _ ⟨m, o, rfl, h0, h1, e⟩
      exact sql_ex e (by simp) (sql_of hl)
    · rintro i x σ H' H'' hi ⟨m, o, rfl, h0, h1, e⟩ ⟨rfl, hx⟩
      rw [List.getElem?_map] at hx
      obtain ⟨z, hz, rfl⟩ := Option.map_eq_some_iff.mp hx
      walk_at "gg"
      exact ⟨_, _, rfl, Int.emod_nonneg _ (by decide), Int.emod_lt_of_pos _ (by decide), e⟩
    · rintro σ H' ⟨m, o, rfl, h0, h1, e⟩
      have ha' : SqL K H' a (ns.map V.int) := sql_ex e (by simp) (sql_ex e1 (by simp) ha)
      walk_at "gg"
      rename_i p2 H2 hp2 e2 hl2 sc H3 hsc e3 hl3 b H4 hb e4 hl4
      obtain ⟨ms', hms', _⟩ := cut_ints ns none (some 63)
      rw [hms'] at hl3 hl2
      have hne : sc ≠ b := ne_of_none hl3 hb
      have es : Ex [] H H' := by walk_at "ex"
      have es2 : Ex [] H H2 := by walk_at "ex"
      have es3 : Ex [] H H3 := by walk_at "ex"
      exact hQ b sc ms' H4 (es3.free (by simp) hb) (es2.free (by simp) hsc) (by walk_at "ex") ⟨by walk_at "lk1", hne, 0, 0, m, 0, hl4, by decide, by decide, h0, h1, by decide, by decide⟩
/-- an item of a list, or of a tuple: what the bag tells -/
def spOf (K : PySem.W.Frag) : Sp := fun vs H Q _ => ∃ (b sc l : Addr) (ns : List Int) (n : Int) (xs : List V), vs = [.ref b, .ref l] ∧ Bag K b sc ns H n ∧ n ≤ 1000000 ∧ (SqL K H l xs ∨ SqT K H l xs) ∧ l ≠ b ∧ 0 < xs.length ∧ xs.length < 1000000 ∧
  ∀ (i : Nat) (v : V) (H' : Hp), xs[i]? = some v → Ex [b] H H' → Bag K b sc ns H' (n + 1) → Q v H'
theorem sc__law_of : FnScope ["_law_bag_here", "_law_things"] ["_law_bag_here", "_law_things"] (defScope s__law_of) := ⟨rfl, rfl, rfl, by decide +kernel, rfl, by decide +kernel, by decide +kernel⟩
theorem ok__law_of (T : TT K mg) : FnOk P w K mg base CX0 2 (He.ga K "_law_of") (fdOf K ("_law_of", none)) ["_law_bag_here", "_law_things"] (spOf K) := by
  refine (F__law_of T).ok sc__law_of (fun vs H Q E h => ?_) (fun cdv A outer s H vs Q E hr h => ⟨_, PSs.nox ((pss_one (ps_ret (pe_ix (ix_LTK K) (pv 1) (pe_call (ok__law_draw T) (hr.mono (by decide)) (by rfl) (T.glo "_law_draw" rfl) (F__law_draw T).kp (B__law_draw T) .nil pass0 (pa_cons (pv 0) (pa_cons (pe_callB (call_lenLTK K) (by rfl) (T.free "len" rfl) boot_len (pa_cons (pv 1) pa_nil)) pa_nil))) (fun _ _ => rfl))))), ?_⟩)
  · obtain ⟨b, sc, l, ns, n, xs, rfl, _⟩ := h
    rfl
  · obtain ⟨b, sc, l, ns, n, xs, rfl, hb, hn, hl, hlb, h0, h1, hQ⟩ := h
    walk_at "in"
    walk_at "gg"
    refine ⟨l, xs, rfl, hl, ?_⟩
    walk_at "gg"
    refine ⟨b, sc, ns, n, _, rfl, hb, hn, by omega, by omega, fun m H' m0 m1 e hb' => ?_⟩
    have hm : m.toNat < xs.length := by omega
    have ha : atI xs m = some xs[m.toNat] := by
      have q := atI_nat (List.getElem?_eq_getElem hm)
      rw [Int.toNat_of_nonneg m0] at q
      exact q
    rcases hl with hl | hl
    · refine x_ixL (sql_ex e (by simpa using hlb) hl) ha ?_
      exact hQ m.toNat _ H' (List.getElem?_eq_getElem hm) e hb'
    · refine x_ixT (sqt_ex e (by simpa using hlb) hl) ha ?_
      exact hQ m.toNat _ H' (List.getElem?_eq_getElem hm) e hb'
end
end BF
/-! ## whether two things are the same -/
namespace BF
open PySem PySem.Spec PyProof.Rows L2
def spSame (K : PySem.W.Frag) (n : Nat) : Sp := fun vs H Q _ => ∃ (M : List Addr) (v u : V) (d : DV), vs = [v, u] ∧ Dat K M H v d ∧ Dat K M H u d ∧ Deep n d ∧ ∀ H', Ex [] H H' → Q (.bl true) H'
section
variable {P : Program} {w : World} {K : PySem.W.Frag} {mg : Str → Option Value} {base : Heap}
theorem sc__law_same : FnScope ["_law_found", "_law_due", "_law_part_a", "_law_part_b"] ["_law_found", "_law_due"] (defScope s__law_same) := ⟨rfl, rfl, rfl, by decide +kernel, rfl, by decide +kernel, by decide +kernel⟩
theorem same_step (T : TT K mg) {n : Nat} {sp' : Sp} (G : FnOk P w K mg base CX0 n (He.ga K "_law_same") (fdOf K ("_law_same", none)) ["_law_found", "_law_due"] sp') (hG : ∀ m, n = m + 1 → sp' = spSame K m) :
    FnOk P w K mg base CX0 (n + 1) (He.ga K "_law_same") (fdOf K ("_law_same", none)) ["_law_found", "_law_due"] (spSame K n) := by
  refine (F__law_same T).ok sc__law_same (fun vs H Q E h => ?_) (fun cdv A outer s H vs Q E hr h => ⟨_, PSs.nox ((pss_cons (ps_if (pt_val (pe_callB (call_isiTK K) (by rfl) (T.free "isinstance" rfl) boot_isinstance (pa_cons (pv 1) (pa_cons (pe_tupE (pa_cons (pe_bltn (v := .ty "list") (by rfl) (T.free "list" rfl) boot_list rfl) (pa_cons (pe_bltn (v := .ty "tuple") (by rfl) (T.free "tuple" rfl) boot_tuple rfl) pa_nil))) pa_nil)))) (pss_cons (ps_if (PW.pt (pw_or (pt_cmpR op_ne (pe_callB (call_isiK' K) (by rfl) (T.free "isinstance" rfl) boot_isinstance (pa_cons (pv 0) (pa_cons (pe_bltn (v := .ty "list") (by rfl) (T.free "list" rfl) boot_list rfl) pa_nil))) (pe_callB (call_isiK' K) (by rfl) (T.free "isinstance" rfl) boot_isinstance (pa_cons (pv 1) (pa_cons (pe_bltn (v := .ty "list") (by rfl) (T.free "list" rfl) boot_list rfl) pa_nil))) (nomark _)) (pw_or1 (pt_cmpR op_ne (pe_callB (call_isiK' K) (by rfl) (T.free "isinstance" rfl) boot_isinstance (pa_cons (pv 0) (pa_cons (pe_bltn (v := .ty "tuple") (by rfl) (T.free "tuple" rfl) boot_tuple rfl) pa_nil))) (pe_callB (call_isiK' K) (by rfl) (T.free "isinstance" rfl) boot_isinstance (pa_cons (pv 1) (pa_cons (pe_bltn (v := .ty "tuple") (by rfl) (T.free "tuple" rfl) boot_tuple rfl) pa_nil))) (nomark _))))) (pss_one (ps_ret pe_bl)) pss_nil)
  (pss_one (ps_ret (pe_and (pe_cmpR op_eq (pe_callB (call_lenLTK K) (by rfl) (T.free "len" rfl) boot_len (pa_cons (pv 0) pa_nil)) (pe_callB (call_lenLTK K) (by rfl) (T.free "len" rfl) boot_len (pa_cons (pv 1) pa_nil)) (nomark _)) (pe_one (pe_callB (cr_allK K) (by rfl) (T.free "all" rfl) boot_all (pa_cons (pe_lc (own := [("_law_part_a", 2), ("_law_part_b", 3)]) (g := gTup K 2 (gCons (gName 2) (gCons (gName 3) gNil))) (tt := _) rfl sc__law_same.nd (RZ.pi_zipA (by rfl) (T.free "zip" rfl) (pa_cons (pv 0) (pa_cons (pv 1) pa_nil))) (blkOk_by (N := ["_law_found", "_law_due", "_law_part_a", "_law_part_b"]) (sc := defScope s__law_same) (by decide +kernel)) (fun _ _ _ _ _ => (by exact (pg_tup rfl (pgs_cons (pg_name (i := 2) sc__law_same.nd rfl (Or.inl rfl)) (pgs_cons (pg_name (i := 3) sc__law_same.nd rfl (Or.inl rfl)) pgs_nil))))) (fun _ _ _ _ _ => pts_nil) (fun _ _ _ _ _ => (pe_call G hr (by rfl) (T.glo "_law_same" rfl) (F__law_same T).kp (B__law_same T) .nil pass0 (pa_cons (pv 2) (pa_cons (pv 3) pa_nil))))) pa_nil))))))) pss_nil)
  (pss_cons (ps_if (PW.pt (pw_or (pt_cmpR op_isNX (pv 1) pe_non (nomark _)) (pw_or1 (pt_cmpR op_isNX (pv 0) pe_non (nomark _))))) (pss_one (ps_ret (pe_and (pe_cmpR op_isNX (pv 1) pe_non (nomark _)) (pe_one (pe_cmpR op_isNX (pv 0) pe_non (nomark _)))))) pss_nil)
  (pss_cons (ps_if (PW.pt (pw_or (pt_val (pe_callB (call_isiTK K) (by rfl) (T.free "isinstance" rfl) boot_isinstance (pa_cons (pv 0) (pa_cons (pe_tupE (pa_cons (pe_bltn (v := .ty "list") (by rfl) (T.free "list" rfl) boot_list rfl) (pa_cons (pe_bltn (v := .ty "tuple") (by rfl) (T.free "tuple" rfl) boot_tuple rfl) pa_nil))) pa_nil)))) (pw_or1 (pt_cmpR op_ne (pe_callB (call_isiK' K) (by rfl) (T.free "isinstance" rfl) boot_isinstance (pa_cons (pv 0) (pa_cons (pe_bltn (v := .ty "bool") (by rfl) (T.free "bool" rfl) boot_bool rfl) pa_nil))) (pe_callB (call_isiK' K) (by rfl) (T.free "isinstance" rfl) boot_isinstance (pa_cons (pv 1) (pa_cons (pe_bltn (v := .ty "bool") (by rfl) (T.free "bool" rfl) boot_bool rfl) pa_nil))) (nomark _))))) (pss_one (ps_ret pe_bl)) pss_nil)
  (pss_cons (ps_if (PW.pt (pw_or (pt_cmpR op_ne (pe_callB (call_isiK' K) (by rfl) (T.free "isinstance" rfl) boot_isinstance (pa_cons (pv 0) (pa_cons (pe_bltn (v := .ty "str") (by rfl) (T.free "str" rfl) boot_str rfl) pa_nil))) (pe_callB (call_isiK' K) (by rfl) (T.free "isinstance" rfl) boot_isinstance (pa_cons (pv 1) (pa_cons (pe_bltn (v := .ty "str") (by rfl) (T.free "str" rfl) boot_str rfl) pa_nil))) (nomark _)) (pw_or1 (pt_cmpR op_ne (pe_callB (call_isiK' K) (by rfl) (T.free "isinstance" rfl) boot_isinstance (pa_cons (pv 0) (pa_cons (pe_bltn (v := .ty "int") (by rfl) (T.free "int" rfl) boot_int rfl) pa_nil))) (pe_callB (call_isiK' K) (by rfl) (T.free "isinstance" rfl) boot_isinstance (pa_cons (pv 1) (pa_cons (pe_bltn (v := .ty "int") (by rfl) (T.free "int" rfl) boot_int rfl) pa_nil))) (nomark _))))) (pss_one (ps_ret pe_bl)) pss_nil)
  (pss_one (ps_ret (pe_cmpR op_eq (pv 0) (pv 1) (nomark _))))))))), ?_⟩)
  · obtain ⟨M, v, u, d, rfl, _⟩ := h
    rfl
  · obtain ⟨M, v, u, d, rfl, hv, hu, hd, hQ⟩ := h
    walk_at "in"
    cases hv with
    | non =>
      cases hu
      walk_at "gg"
      exact hQ _ (by walk_at "ex")
    | bl b =>
      cases hu
      walk_at "gg"
      simpa using hQ _ (by walk_at "ex")
    | int i =>
      cases hu
      walk_at "gg"
      simpa using hQ _ (by walk_at "ex")
    | str x =>
      cases hu
      walk_at "gg"
      simpa using hQ _ (by walk_at "ex")
    | @lst a xs ds h1 h2 h3 =>
      cases hu with
      | @lst a' xs' _ h1' h2' h3' =>
      have hl : xs.length = xs'.length := by rw [h3.length, h3'.length]
      cases hd with
      | @lst m _ hlen hdd =>
      have es := hG m rfl
      subst es
      walk_at "gg"
      refine x_iteT (decide_eq_true (by rw [hl])) ?_
      walk_at "gg"
      rename_i p H0 hp0 e0 ht0
      refine x_lcW (walk_zip rfl) [] (fun i acc H => acc = List.replicate i (.bl true)) (fun _ _ _ => rfl) (fun H' e => ⟨by walk_at "lk", by walk_at "lk"⟩) ?_ ?_
      · rintro D i x H1 H2 acc hD hi hacc hl' e r ⟨t, y, z, rfl, ht, hH2, hy, hz⟩
        have e3 : Ex [] H1 H2 := by rw [hH2]; exact Ex.new ht
        have ht3 : H2 t = some (.tup [y, z]) := by rw [hH2]; exact upd_same
        clear hH2
        dsimp only [wipe, List.set]
        walk_at "gg"
        refine ⟨rfl, ?_⟩
        walk_at "gg"
        obtain ⟨d, hd1, hd2⟩ := h3.get hy
        obtain ⟨d', hd1', hd2'⟩ := h3'.get hz
        rw [hd1] at hd1'
        cases hd1'
        have ee : Ex [] H H2 := by walk_at "ex"
        refine ⟨M, y, z, d, rfl, hd2.ex ee (by simp), hd2'.ex ee (by simp), hdd d (List.mem_of_getElem? hd1), fun H' e' => ?_⟩
        exact lc_push Al.nil (fun _ _ _ _ r => r) hD (by have := h3.length; omega) hacc hl' e (by walk_at "ex") (by rw [r, List.replicate_succ'])
      · rintro D H1 acc hD hacc hl' e rfl
        walk_at "gg"
        refine x_all (bs := List.replicate (min xs.length xs'.length) true) (sql_of (by rw [List.map_replicate]; exact hacc)) ?_
        have q := hQ H1 (by walk_at "ex")
        simpa using q
    | @tup a xs ds h1 h2 h3 =>
      cases hu with
      | @tup a' xs' _ h1' h2' h3' =>
      have hl : xs.length = xs'.length := by rw [h3.length, h3'.length]
      cases hd with
      | @tup m _ hlen hdd =>
      have es := hG m rfl
      subst es
      walk_at "gg"
      refine x_iteT (decide_eq_true (by rw [hl])) ?_
      walk_at "gg"
      rename_i p H0 hp0 e0 ht0
      refine x_lcW (walk_zipT rfl) [] (fun i acc H => acc = List.replicate i (.bl true)) (fun _ _ _ => rfl) (fun H' e => ⟨by walk_at "lk", by walk_at "lk"⟩) ?_ ?_
      · rintro D i x H1 H2 acc hD hi hacc hl' e r ⟨t, y, z, rfl, ht, hH2, hy, hz⟩
        have e3 : Ex [] H1 H2 := by rw [hH2]; exact Ex.new ht
        have ht3 : H2 t = some (.tup [y, z]) := by rw [hH2]; exact upd_same
        clear hH2
        dsimp only [wipe, List.set]
        walk_at "gg"
        refine ⟨rfl, ?_⟩
        walk_at "gg"
        obtain ⟨d, hd1, hd2⟩ := h3.get hy
        obtain ⟨d', hd1', hd2'⟩ := h3'.get hz
        rw [hd1] at hd1'
        cases hd1'
        have ee : Ex [] H H2 := by walk_at "ex"
        refine ⟨M, y, z, d, rfl, hd2.ex ee (by simp), hd2'.ex ee (by simp), hdd d (List.mem_of_getElem? hd1), fun H' e' => ?_⟩
        exact lc_push Al.nil (fun _ _ _ _ r => r) hD (by have := h3.length; omega) hacc hl' e (by walk_at "ex") (by rw [r, List.replicate_succ'])
      · rintro D H1 acc hD hacc hl' e rfl
        walk_at "gg"
        refine x_all (bs := List.replicate (min xs.length xs'.length) true) (sql_of (by rw [List.map_replicate]; exact hacc)) ?_
        have q := hQ H1 (by walk_at "ex")
        simpa using q
end
end BF
/-! ## Numbers and ratios -/
namespace BF
open PySem PySem.Spec PyProof.Rows L2
def spWhole : Sp := fun vs H Q _ => ∃ i : Int, vs = [.int i] ∧ Q (.bl true) H
def spPowOf : Sp := fun vs H Q _ => ∃ (a k n : Nat), vs = [.int a, .int k] ∧ a < 2 ^ n ∧ 0 < n ∧ n * (k + 1) ≤ 500000 ∧ k ≤ 100000 ∧ Q (.int ((a ^ k : Nat) : Int)) H
def spTimes : Sp := fun vs H Q _ => ∃ (p v r : Nat), vs = [.int ((p ^ v * r : Nat) : Int), .int p] ∧ 1 < p ∧ p ≤ 64 ∧ 0 < r ∧ Nat.Coprime p r ∧ Q (.int v) H
section
variable {P : Program} {w : World} {K : PySem.W.Frag} {mg : Str → Option Value} {base : Heap}
theorem sc_is_whole : FnScope ["value"] ["value"] (defScope s_is_whole) := ⟨rfl, rfl, rfl, by decide +kernel, rfl, by decide +kernel, by decide +kernel⟩
theorem ok_is_whole (T : TT K mg) : FnOk P w K mg base CX0 1 (He.ga K "is_whole") (fdOf K ("is_whole", none)) ["value"] spWhole := by
  refine (F_is_whole T).ok sc_is_whole (fun vs H Q E h => ?_) (fun cdv A outer s H vs Q E hr h => ⟨_, PSs.nox ((pss_one (ps_ret (pe_and (pe_callB (call_isiK' K) (by rfl) (T.free "isinstance" rfl) boot_isinstance (pa_cons (pv 0) (pa_cons (pe_bltn (v := .ty "int") (by rfl) (T.free "int" rfl) boot_int rfl) pa_nil))) (pe_one (pe_not (pe_callB (call_isiK' K) (by rfl) (T.free "isinstance" rfl) boot_isinstance (pa_cons (pv 0) (pa_cons (pe_bltn (v := .ty "bool") (by rfl) (T.free "bool" rfl) boot_bool rfl) pa_nil))))))))), ?_⟩)
  · obtain ⟨i, rfl, _⟩ := h
    rfl
  · obtain ⟨i, rfl, hQ⟩ := h
    walk_at "in"
    walk_at "gg"
    exact hQ
theorem sc_power_of : FnScope ["base", "exponent", "product", "_"] ["base", "exponent"] (defScope s_power_of) := ⟨rfl, rfl, rfl, by decide +kernel, rfl, by decide +kernel, by decide +kernel⟩
theorem ok_power_of (T : TT K mg) : FnOk P w K mg base CX0 1 (He.ga K "power_of") (fdOf K ("power_of", none)) ["base", "exponent"] spPowOf := by
  refine (F_power_of T).ok sc_power_of (fun vs H Q E h => ?_) (fun cdv A outer s H vs Q E hr h => ⟨_, PSs.nox ((pss_cons (ps_set (i := 2) sc_power_of.nd rfl (Or.inl rfl) pe_int)
  (pss_cons (ps_for PassesOwn.never rfl (pi_range1 (by rfl) (T.free "range" rfl) (pa_cons (pv 1) pa_nil)) (pg_name (i := 3) sc_power_of.nd rfl (Or.inl rfl)) (pss_one (ps_set (i := 2) sc_power_of.nd rfl (Or.inl rfl) (pe_op op_mulW (pv 2) (pv 0)))))
  (pss_one (ps_ret (pv 2)))))), ?_⟩)
  · obtain ⟨a, k, n, rfl, _⟩ := h
    rfl
  · obtain ⟨a, k, n, rfl, ha, hn, hk, hk1, hQ⟩ := h
    walk_at "in"
    walk_at "gg"
    refine for_it walk_range (fun i σ H' => H' = H ∧ ∃ o, σ = [some (.int a), some (.int k), some (.int ((a ^ i : Nat) : Int)), o]) ⟨rfl, none, rfl⟩ (fun _ _ _ _ _ => trivial) ?_ ?_
    · rintro i x σ H1 H2 hi ⟨rfl, o, rfl⟩ ⟨rfl, rfl⟩
      have hi' : i ≤ k := by omega
      walk_at "gg"
      refine x_I (wide_mul (a := n * k + 1) (b := n) ?_ ha (by omega) hn (by rw [Nat.mul_succ] at hk; omega)) ?_
      · rw [Int.natAbs_natCast]
        refine Nat.lt_of_le_of_lt (Nat.pow_le_pow_left (Nat.le_of_lt ha) i) ?_
        rw [← Nat.pow_mul]
        exact Nat.pow_lt_pow_right (by decide) (Nat.lt_succ_of_le (Nat.mul_le_mul_left n hi'))
      · walk_at "gg"
        exact ⟨rfl, some (.int (0 + (i : Nat))), by rw [Nat.pow_succ, Int.natCast_mul]⟩
    · rintro σ H1 ⟨rfl, o, rfl⟩
      walk_at "gg"
      rw [Int.toNat_natCast]
      exact hQ
theorem sc__times_divided : FnScope ["number", "prime", "times"] ["number", "prime"] (defScope s__times_divided) := ⟨rfl, rfl, rfl, by decide +kernel, rfl, by decide +kernel, by decide +kernel⟩
theorem ok__times_divided (T : TT K mg) : FnOk P w K mg base CX0 1 (He.ga K "_times_divided") (fdOf K ("_times_divided", none)) ["number", "prime"] spTimes := by
  refine (F__times_divided T).ok sc__times_divided (fun vs H Q E h => ?_) (fun cdv A outer s H vs Q E hr h => ⟨_, PSs.nox ((pss_cons (ps_set (i := 2) sc__times_divided.nd rfl (Or.inl rfl) pe_int)
  (pss_cons (ps_whileE PassesOwn.never (pt_cmpR op_eq (pe_op op_mod (pv 0) (pv 1)) pe_int (nomark _)) (pss_cons (ps_set (i := 0) sc__times_divided.nd rfl (Or.inl rfl) (pe_op op_fdivW (pv 0) (pv 1)))
  (pss_one (ps_aug (i := 2) sc__times_divided.nd rfl (Or.inl rfl) pe_int ip_add))))
  (pss_one (ps_ret (pv 2)))))), ?_⟩)
  · obtain ⟨p, v, r, rfl, _⟩ := h
    rfl
  · obtain ⟨p, v, r, rfl, hp, hp2, hr0, hc, hQ⟩ := h
    walk_at "in"
    walk_at "gg"
    refine x_while (fun σ H' => H' = H ∧ ∃ u t : Nat, σ = [some (.int ((p ^ u * r : Nat) : Int)), some (.int p), some (.int t)] ∧ u + t = v) (fun σ _ => match σ with | [_, _, some (.int t)] => v - t.toNat | _ => 0) ⟨rfl, v, 0, rfl, rfl⟩ ?_
    rintro σ H1 ⟨rfl, u, t, rfl, hu⟩
    · walk_at "gg"
      cases u with
      | zero =>
        rw [show decide (((p ^ 0 * r : Nat) : Int) % (p : Int) = 0) = false from by
          refine decide_eq_false fun h => ?_
          rw [Nat.pow_zero, Nat.one_mul] at h
          have h2 : p ∣ r := Nat.dvd_of_mod_eq_zero (by omega)
          have := Nat.Coprime.eq_one_of_dvd hc h2
          omega]
        walk_at "gg"
        have : t = v := by omega
        subst this
        exact hQ
      | succ u =>
        rw [show decide (((p ^ (u + 1) * r : Nat) : Int) % (p : Int) = 0) = true from by
          refine decide_eq_true ?_
          have h2 : (p ^ (u + 1) * r) % p = 0 := Nat.mod_eq_zero_of_dvd ⟨p ^ u * r, by rw [Nat.pow_succ]; ac_rfl⟩
          omega]
        walk_at "gg"
        have e1 : ((p ^ (u + 1) * r : Nat) : Int) / (p : Int) = ((p ^ u * r : Nat) : Int) := by
          rw [← Int.natCast_ediv, show p ^ (u + 1) * r = p * (p ^ u * r) from by rw [Nat.pow_succ]; ac_rfl, Nat.mul_div_cancel_left _ (by omega)]
        rw [e1]
        refine ⟨⟨rfl, u, t + 1, rfl, by omega⟩, ?_⟩
        show v - ((t : Int) + 1).toNat < v - (t : Int).toNat
        omega
end
end BF
/-! ## Ratio's methods -/
namespace BF
open PySem PySem.Spec PyProof.Rows L2
theorem prs_pc : PC prs := PC.ofb (by decide)
def Bd (m : Nat) (e : List Int) : Prop := ∀ x ∈ e, -(m : Int) ≤ x ∧ x ≤ m
theorem Bd.le {m n : Nat} {e : List Int} (h : Bd m e) (l : m ≤ n) : Bd n e := fun x hx => by have := h x hx; omega
theorem Bd.ng {m : Nat} {e : List Int} (h : Bd m e) : Bd m (ng e) := fun x hx => by
  obtain ⟨y, hy, rfl⟩ := List.mem_map.mp hx
  have := h y hy
  omega
theorem Bd.nu {m b : Nat} {e : List Int} (h : Bd m e) (hb : 108 * m < b) : nu prs e < 2 ^ b := nu_lt prs_pc (fun x hx => (h x hx).2) (by show 6 * (m * 18) < b; omega)
theorem ng_ng (e : List Int) : ng (ng e) = e := by
  unfold ng
  rw [List.map_map]
  conv => rhs; rw [← List.map_id e]
  exact List.map_congr_left fun x _ => by simp
theorem ng_len (e : List Int) : (ng e).length = e.length := List.length_map ..
theorem ad_len (e f : List Int) (h : e.length = f.length) : (ad e f).length = e.length := by simp [ad, h]
theorem sc_len (k : Int) (e : List Int) : (sc k e).length = e.length := List.length_map ..
/-- a ratio at a -/
def Rt (K : PySem.W.Frag) (H : Hp) (a : Addr) (t b : Nat) : Prop := ∃ dx, H a = some (.ins (He.ga K "Ratio") dx [("top", .int t), ("bottom", .int b)])
def Rv (K : PySem.W.Frag) (H : Hp) (a : Addr) (e : List Int) : Prop := e.length = 18 ∧ Rt K H a (nu prs e) (nu prs (ng e))
theorem Rv.ex {K : PySem.W.Frag} {H H' : Hp} {a : Addr} {e : List Int} {M : List Addr} (h : Rv K H a e) (x : Ex M H H') (n : a ∉ M) : Rv K H' a e := by
  obtain ⟨l, dx, h⟩ := h
  exact ⟨l, dx, x _ _ n h⟩
def spRInit (K : PySem.W.Frag) : Sp := fun vs H Q _ => ∃ (x dx : Addr) (g t b : Nat) (i j : Int), vs = [.ref x, .int i, .int j] ∧ i = ((g * t : Nat) : Int) ∧ j = ((g * b : Nat) : Int) ∧ H x = some (.ins (He.ga K "Ratio") dx []) ∧ 0 < g ∧ g < 2 ^ 9000 ∧ 0 < b ∧ Nat.Coprime t b ∧
  ∀ H', Ex [x] H H' → Rt K H' x t b → Q .non H'
def spREq (K : PySem.W.Frag) : Sp := fun vs H Q _ => ∃ (a b : Addr) (e f : List Int), vs = [.ref a, .ref b] ∧ Rv K H a e ∧ Rv K H b f ∧ Q (.bl (decide (e = f))) H
def spRMul (K : PySem.W.Frag) : Sp := fun vs H Q _ => ∃ (a b : Addr) (e f : List Int), vs = [.ref a, .ref b] ∧ Rv K H a e ∧ Rv K H b f ∧ Bd 1000 e ∧ Bd 1000 f ∧ (∀ (i : Nat) (x y : Int), e[i]? = some x → f[i]? = some y → (-(80 : Int) ≤ x ∧ x ≤ 80) ∨ (-(80 : Int) ≤ y ∧ y ≤ 80)) ∧
  ∀ x H', Ex [] H H' → Rv K H' x (ad e f) → Q (.ref x) H'
def spRInv (K : PySem.W.Frag) : Sp := fun vs H Q _ => ∃ (a : Addr) (e : List Int), vs = [.ref a] ∧ Rv K H a e ∧ ∀ x H', Ex [] H H' → Rv K H' x (ng e) → Q (.ref x) H'
def spRRaised (K : PySem.W.Frag) : Sp := fun vs H Q _ => ∃ (a : Addr) (e : List Int) (k : Int) (m : Nat), vs = [.ref a, .int k] ∧ Rv K H a e ∧ Bd m e ∧ 109 * (m + 1) * (k.natAbs + 1) ≤ 500000 ∧ ∀ x H', Ex [] H H' → Rv K H' x (sc k e) → Q (.ref x) H'
def spRPower (K : PySem.W.Frag) : Sp := fun vs H Q _ => ∃ (a : Addr) (e : List Int) (i p : Nat) (x : Int), vs = [.ref a, .int p] ∧ Rv K H a e ∧ prs[i]? = some p ∧ e[i]? = some x ∧ Q (.int x) H
section
variable {P : Program} {w : World} {K : PySem.W.Frag} {mg : Str → Option Value} {base : Heap}
theorem mg_gcd (T : TT K mg) : mg "gcd" = some (.builtin "math.gcd") := T.gl _ _ (of_decide_eq_true (m_5 T))
theorem sq_ratios (T : TT K mg) (H : Hp) : SqT K H (He.ga K "PRIMES_ratios") ((prs.map fun p : Nat => (p : Int)).map V.int) := He.tupB_ok (m_3 T) H
theorem sq_speeds (T : TT K mg) (H : Hp) : SqT K H (He.ga K "PRIMES_speeds") ((prs.map fun p : Nat => (p : Int)).map V.int) := He.tupB_ok (m_4 T) H
theorem x_isiO {C a dx : Addr} {fs : List (Str × V)} {H : Hp} {Q : VK} (h1 : isiB K C = true) (c : Cls K C) (e : H a = some (.ins C dx fs)) (k : Q (.bl true) H) : rIsi K [.ref a, .ref C] H Q := ⟨_, _, _, _, true, rfl, .own C, isiB_ty h1 c e, kitO, k⟩
theorem sc_Ratio___init__ : FnScope ["self", "top", "bottom", "common"] ["self", "top", "bottom"] (defScope s_Ratio___init__) := ⟨rfl, rfl, rfl, by decide +kernel, rfl, by decide +kernel, by decide +kernel⟩
theorem ok_Ratio___init__ (T : TT K mg) : FnOk P w K mg base CX0 2 (He.ma K (He.ga K "Ratio") "__init__") (fdOf K ("Ratio", some "__init__")) ["self", "top", "bottom"] (spRInit K) := by
  refine (F_Ratio___init__ T).ok sc_Ratio___init__ (fun vs H Q E h => ?_) (fun cdv A outer s H vs Q E hr h => ⟨_, PSs.nox ((pss_cons (ps_if (PW.pt (pw_or (pt_not (pt_val (pe_call (ok_is_whole T) (hr.mono (by decide)) (by rfl) (T.glo "is_whole" rfl) (F_is_whole T).kp (B_is_whole T) .nil pass0 (pa_cons (pv 1) pa_nil)))) (pw_or1 (pt_cmpR op_lt (pv 1) pe_int (nomark _))))) (pss_one ps_dead) pss_nil)
  (pss_cons (ps_if (PW.pt (pw_or (pt_not (pt_val (pe_call (ok_is_whole T) (hr.mono (by decide)) (by rfl) (T.glo "is_whole" rfl) (F_is_whole T).kp (B_is_whole T) .nil pass0 (pa_cons (pv 2) pa_nil)))) (pw_or1 (pt_cmpR op_lt (pv 2) pe_int (nomark _))))) (pss_one ps_dead) pss_nil)
  (pss_cons (ps_set (i := 3) sc_Ratio___init__.nd rfl (Or.inl rfl) (pe_callBfun cr_gcd (by rfl) (mg_gcd T) (pa_cons (pv 1) (pa_cons (pv 2) pa_nil))))
  (pss_cons (ps_fldE K (pv 0) (pe_op op_fdivW (pv 1) (pv 3)))
  (pss_one (ps_fldE K (pv 0) (pe_op op_fdivW (pv 2) (pv 3))))))))), ?_⟩)
  · obtain ⟨x, dx, g, t, b, i, j, rfl, _⟩ := h
    rfl
  · obtain ⟨x, dx, g, t, b, i, j, rfl, ei, ej, hx, g0, g1, b0, hc, hQ⟩ := h
    have hC := T.cls "Ratio" rfl
    have hT := T.noat "Ratio" "top" rfl
    have hB := T.noat "Ratio" "bottom" rfl
    have hb : 0 < g * b := Nat.mul_pos g0 b0
    have hg : Nat.gcd i.natAbs j.natAbs = g := by
      rw [ei, ej, Int.natAbs_natCast, Int.natAbs_natCast, Nat.gcd_mul_left, hc.gcd_eq_one, Nat.mul_one]
    walk_at "in"
    walk_at "gg"
    refine ⟨i, rfl, ?_⟩
    walk_at "gg"
    refine x_iteF (decide_eq_false (by omega)) ?_
    walk_at "gg"
    refine ⟨j, rfl, ?_⟩
    walk_at "gg"
    refine x_iteF (decide_eq_false (by omega)) ?_
    walk_at "gg"
    rw [hg]
    have cd : CDivW i (g : Int) := wide_div (by omega) (by rw [Int.natAbs_natCast]; exact g1) (by decide) (by decide)
    have cd2 : CDivW j (g : Int) := wide_div (by omega) (by rw [Int.natAbs_natCast]; exact g1) (by decide) (by decide)
    refine x_I cd ?_
    walk_at "gg"
    refine x_I cd2 ?_
    walk_at "gg"
    rename_i H1 e1 h1 H2 e2 h2
    have q1 : i / (g : Int) = t := by rw [ei, ← Int.natCast_ediv, Nat.mul_div_cancel_left _ g0]
    have q2 : j / (g : Int) = b := by rw [ej, ← Int.natCast_ediv, Nat.mul_div_cancel_left _ g0]
    rw [q1, q2] at h2
    exact hQ H2 (by walk_at "ex") ⟨dx, h2⟩
theorem B_init2 (T : TT K mg) : ∃ ds, Vals ([] : List V) ds ∧ Binds K (fdOf K ("Ratio", some "__init__")) ["self", "top", "bottom"] ds :=
  (F_Ratio___init__ T).binds1 3 1 (by simp [He.DefD.dvs, d_Ratio___init__]) rfl fun _ _ _ _ _ _ _ us its h1 h2 => match us, its, h1, h2 with | [_, _, _], [_], _, _ => ⟨_, rfl, rfl⟩
theorem B_init1 (T : TT K mg) : ∃ ds, Vals [V.int 1] ds ∧ Binds K (fdOf K ("Ratio", some "__init__")) ["self", "top", "bottom"] ds :=
  (F_Ratio___init__ T).binds1 2 0 (by simp [He.DefD.dvs, d_Ratio___init__]) rfl fun _ _ _ _ _ _ _ us its h1 h2 => match us, its, h1, h2 with | [_, _], [_], _, _ => ⟨_, rfl, rfl⟩
theorem sc_Ratio___eq__ : FnScope ["self", "other"] ["self", "other"] (defScope s_Ratio___eq__) := ⟨rfl, rfl, rfl, by decide +kernel, rfl, by decide +kernel, by decide +kernel⟩
theorem ok_Ratio___eq__ (T : TT K mg) : FnOk P w K mg base CX0 1 (He.ma K (He.ga K "Ratio") "__eq__") (fdOf K ("Ratio", some "__eq__")) ["self", "other"] (spREq K) := by
  refine (F_Ratio___eq__ T).ok sc_Ratio___eq__ (fun vs H Q E h => ?_) (fun cdv A outer s H vs Q E hr h => ⟨_, PSs.nox ((pss_one (ps_ret (pe_and (pe_callB (call_isiK' K) (by rfl) (T.free "isinstance" rfl) boot_isinstance (pa_cons (pv 1) (pa_cons (pe_glob (v := .ref _) (by rfl) (T.glo "Ratio" rfl) rfl) pa_nil))) (pe_and (pe_cmpR op_eq (pe_fldK K (pv 0)) (pe_fldK K (pv 1)) (nomark _)) (pe_one (pe_cmpR op_eq (pe_fldK K (pv 0)) (pe_fldK K (pv 1)) (nomark _)))))))), ?_⟩)
  · obtain ⟨a, b, e, f, rfl, _⟩ := h
    rfl
  · obtain ⟨a, b, e, f, rfl, ⟨le, dx, ha⟩, ⟨lf, dy, hb⟩, hQ⟩ := h
    have hC := T.cls "Ratio" rfl
    have hT := T.noat "Ratio" "top" rfl
    have hB := T.noat "Ratio" "bottom" rfl
    walk_at "in"
    walk_at "gg"
    refine x_isiO (m_7 T) hC hb ?_
    walk_at "gg"
    refine x_ite (fun h1 => ?_) (fun h1 => ?_)
    · walk_at "gg"
      have h2 : (decide (V.int (nu prs (ng e) : Int) = V.int (nu prs (ng f) : Int))) = decide (e = f) := by
        refine decide_eq_decide.mpr ⟨fun h => ?_, fun h => by rw [h]⟩
        injection h with h
        exact nu_inj prs_pc le lf (by omega) (by omega)
      first
        | (rw [h2]; exact hQ)
        | (have h3 : (decide ((nu prs (ng e) : Int) = (nu prs (ng f) : Int))) = decide (e = f) := decide_eq_decide.mpr ⟨fun h => nu_inj prs_pc le lf (by omega) (by omega), fun h => by rw [h]⟩
           rw [h3]; exact hQ)
    · walk_at "gg"
      rw [show decide (e = f) = false from decide_eq_false fun h => h1 (by rw [h])] at hQ
      exact hQ
theorem sc_Ratio___mul__ : FnScope ["self", "other"] ["self", "other"] (defScope s_Ratio___mul__) := ⟨rfl, rfl, rfl, by decide +kernel, rfl, by decide +kernel, by decide +kernel⟩
theorem ok_Ratio___mul__ (T : TT K mg) : FnOk P w K mg base CX0 4 (He.ma K (He.ga K "Ratio") "__mul__") (fdOf K ("Ratio", some "__mul__")) ["self", "other"] (spRMul K) := by
  obtain ⟨ds2, v2, b2⟩ := B_init2 T
  refine (F_Ratio___mul__ T).ok sc_Ratio___mul__ (fun vs H Q E h => ?_) (fun cdv A outer s H vs Q E hr h => ⟨_, PSs.nox ((pss_one (ps_ret (pe_makeE (T.mkr "Ratio" rfl) (ok_Ratio___init__ T) (hr.mono (by decide)) (by rfl) (T.glo "Ratio" rfl) b2 v2 pass0 (pa_cons (pe_op op_mulW (pe_fldK K (pv 0)) (pe_fldK K (pv 1))) (pa_cons (pe_op op_mulW (pe_fldK K (pv 0)) (pe_fldK K (pv 1))) pa_nil)))))), ?_⟩)
  · obtain ⟨a, b, e, f, rfl, _⟩ := h
    rfl
  · obtain ⟨a, b, e, f, rfl, ⟨le, dx, ha⟩, ⟨lf, dy, hb⟩, be, bf, hm, hQ⟩ := h
    have hC := T.cls "Ratio" rfl
    have hT := T.noat "Ratio" "top" rfl
    have hB := T.noat "Ratio" "bottom" rfl
    have sz : ∀ {e : List Int}, Bd 1000 e → ((nu prs e : Nat) : Int).natAbs < 2 ^ 108001 := fun h => by
      rw [Int.natAbs_natCast]
      exact h.nu (by decide)
    have mw : ∀ {e f : List Int}, Bd 1000 e → Bd 1000 f → CMulW (nu prs e : Nat) (nu prs f : Nat) := fun h1 h2 => wide_mul (sz h1) (sz h2) (by decide) (by decide) (by decide)
    obtain ⟨g, g0, g1, p1, p2⟩ := nu_mul (m := 80) prs_pc (le.trans lf.symm) hm
    walk_at "in"
    walk_at "gg"
    refine x_I (mw be bf) ?_
    walk_at "gg"
    refine x_I (mw be.ng bf.ng) ?_
    walk_at "gg"
    intro x dx H1 hx e1 hx1
    have g9 : g < 2 ^ 9000 := Nat.lt_of_le_of_lt g1 (by
      rw [show (64 : Nat) = 2 ^ 6 from rfl, ← Nat.pow_mul]
      exact Nat.pow_lt_pow_right (by decide) (by decide))
    refine ⟨x, dx, g, _, _, _, _, rfl, ?_, ?_, hx1, g0, g9, nu_pos prs_pc, nu_cop (e := ad e f) prs_pc, fun H2 e2 h2 => ⟨rfl, hQ x H2 ?_ ⟨by rw [ad_len _ _ (le.trans lf.symm), le], h2⟩⟩⟩
    · rw [← p1, Int.natCast_mul]
    · rw [← p2, Int.natCast_mul]
    · exact Ex.fresh e1 hx e2
theorem sc_Ratio___invert__ : FnScope ["self"] ["self"] (defScope s_Ratio___invert__) := ⟨rfl, rfl, rfl, by decide +kernel, rfl, by decide +kernel, by decide +kernel⟩
theorem ok_Ratio___invert__ (T : TT K mg) : FnOk P w K mg base CX0 4 (He.ma K (He.ga K "Ratio") "__invert__") (fdOf K ("Ratio", some "__invert__")) ["self"] (spRInv K) := by
  obtain ⟨ds2, v2, b2⟩ := B_init2 T
  refine (F_Ratio___invert__ T).ok sc_Ratio___invert__ (fun vs H Q E h => ?_) (fun cdv A outer s H vs Q E hr h => ⟨_, PSs.nox ((pss_cons (ps_if (pt_cmpR op_eq (pe_fldK K (pv 0)) pe_int (nomark _)) (pss_one ps_dead) pss_nil)
  (pss_one (ps_ret (pe_makeE (T.mkr "Ratio" rfl) (ok_Ratio___init__ T) (hr.mono (by decide)) (by rfl) (T.glo "Ratio" rfl) b2 v2 pass0 (pa_cons (pe_fldK K (pv 0)) (pa_cons (pe_fldK K (pv 0)) pa_nil))))))), ?_⟩)
  · obtain ⟨a, e, rfl, _⟩ := h
    rfl
  · obtain ⟨a, e, rfl, ⟨le, dx, ha⟩, hQ⟩ := h
    have hC := T.cls "Ratio" rfl
    have hT := T.noat "Ratio" "top" rfl
    have hB := T.noat "Ratio" "bottom" rfl
    have p0 : 0 < nu prs e := nu_pos prs_pc
    walk_at "in"
    walk_at "gg"
    refine x_iteF (decide_eq_false (by omega)) ?_
    walk_at "gg"
    intro x dx H1 hx e1 hx1
    refine ⟨x, dx, 1, nu prs (ng e), nu prs e, _, _, rfl, by rw [Nat.one_mul], by rw [Nat.one_mul], hx1, by decide, Nat.one_lt_two_pow (by decide), p0, (nu_cop (e := e) prs_pc).symm, fun H2 e2 h2 => ⟨rfl, hQ x H2 (Ex.fresh e1 hx e2) ⟨by rw [ng_len, le], ?_⟩⟩⟩
    rw [ng_ng]
    exact h2
theorem sc_neg {k : Nat} (e : List Int) : sc k (ng e) = sc (-(k : Int)) e := by
  unfold sc ng
  rw [List.map_map]
  exact List.map_congr_left fun x _ => by simp only [Function.comp, Int.mul_neg, Int.neg_mul]
theorem sc_ng {k : Int} (e : List Int) : sc k (ng e) = ng (sc k e) := by
  unfold sc ng
  rw [List.map_map, List.map_map]
  exact List.map_congr_left fun x _ => by simp only [Function.comp, Int.mul_neg, Int.neg_mul]
theorem sc_Ratio_raised : FnScope ["self", "k"] ["self", "k"] (defScope s_Ratio_raised) := ⟨rfl, rfl, rfl, by decide +kernel, rfl, by decide +kernel, by decide +kernel⟩
theorem ok_Ratio_raised (T : TT K mg) : FnOk P w K mg base CX0 4 (He.ma K (He.ga K "Ratio") "raised") (fdOf K ("Ratio", some "raised")) ["self", "k"] (spRRaised K) := by
  obtain ⟨ds2, v2, b2⟩ := B_init2 T
  refine (F_Ratio_raised T).ok sc_Ratio_raised (fun vs H Q E h => ?_) (fun cdv A outer s H vs Q E hr h => ⟨_, PSs.nox ((pss_cons (ps_if (pt_cmpR op_ge (pv 1) pe_int (nomark _)) (pss_one (ps_ret (pe_makeE (T.mkr "Ratio" rfl) (ok_Ratio___init__ T) (hr.mono (by decide)) (by rfl) (T.glo "Ratio" rfl) b2 v2 pass0 (pa_cons (pe_call (ok_power_of T) (hr.mono (by decide)) (by rfl) (T.glo "power_of" rfl) (F_power_of T).kp (B_power_of T) .nil pass0 (pa_cons (pe_fldK K (pv 0)) (pa_cons (pv 1) pa_nil))) (pa_cons (pe_call (ok_power_of T) (hr.mono (by decide)) (by rfl) (T.glo "power_of" rfl) (F_power_of T).kp (B_power_of T) .nil pass0 (pa_cons (pe_fldK K (pv 0)) (pa_cons (pv 1) pa_nil))) pa_nil))))) pss_nil)
  (pss_cons (ps_if (pt_cmpR op_eq (pe_fldK K (pv 0)) pe_int (nomark _)) (pss_one ps_dead) pss_nil)
  (pss_one (ps_ret (pe_makeE (T.mkr "Ratio" rfl) (ok_Ratio___init__ T) (hr.mono (by decide)) (by rfl) (T.glo "Ratio" rfl) b2 v2 pass0 (pa_cons (pe_call (ok_power_of T) (hr.mono (by decide)) (by rfl) (T.glo "power_of" rfl) (F_power_of T).kp (B_power_of T) .nil pass0 (pa_cons (pe_fldK K (pv 0)) (pa_cons (pe_un un_neg (pv 1)) pa_nil))) (pa_cons (pe_call (ok_power_of T) (hr.mono (by decide)) (by rfl) (T.glo "power_of" rfl) (F_power_of T).kp (B_power_of T) .nil pass0 (pa_cons (pe_fldK K (pv 0)) (pa_cons (pe_un un_neg (pv 1)) pa_nil))) pa_nil)))))))), ?_⟩)
  · obtain ⟨a, e, k, m, rfl, _⟩ := h
    rfl
  · obtain ⟨a, e, k, m, rfl, ⟨le, dx, ha⟩, be, hk, hQ⟩ := h
    have hC := T.cls "Ratio" rfl
    have hT := T.noat "Ratio" "top" rfl
    have hB := T.noat "Ratio" "bottom" rfl
    have p0 : 0 < nu prs e := nu_pos prs_pc
    have hk1 : k.natAbs + 1 ≤ 500000 := Nat.le_trans (Nat.le_mul_of_pos_left _ (by omega)) hk
    have hk2 : 109 * (k.natAbs + 1) ≤ 500000 := by
      refine Nat.le_trans ?_ hk
      exact Nat.mul_le_mul_right _ (by omega)
    walk_at "in"
    walk_at "gg"
    refine x_ite (fun h1 => ?_) (fun h1 => ?_)
    · obtain ⟨n, rfl⟩ := natCast_toNat h1
      rw [Int.natAbs_natCast] at hk hk2
      walk_at "gg"
      refine ⟨_, n, 109 * (m + 1), rfl, be.nu (by omega), by omega, hk, by omega, ?_⟩
      walk_at "gg"
      refine ⟨_, n, 109 * (m + 1), rfl, be.ng.nu (by omega), by omega, hk, by omega, ?_⟩
      walk_at "gg"
      intro x dx H1 hx e1 hx1
      refine ⟨x, dx, 1, _, _, _, _, rfl, by rw [Nat.one_mul, nu_pow], by rw [Nat.one_mul, nu_pow, sc_ng], hx1, by decide, Nat.one_lt_two_pow (by decide), nu_pos prs_pc, nu_cop prs_pc, fun H2 e2 h2 => ⟨rfl, hQ x H2 (Ex.fresh e1 hx e2) ⟨by rw [sc_len, le], h2⟩⟩⟩
    · obtain ⟨n, hn⟩ := natCast_toNat (i := -k) (by omega)
      have hn' : k = -(n : Int) := by omega
      subst hn'
      rw [Int.natAbs_neg, Int.natAbs_natCast] at hk hk2
      walk_at "gg"
      refine x_iteF (decide_eq_false (by omega)) ?_
      walk_at "gg"
      rw [Int.neg_neg]
      refine ⟨_, n, 109 * (m + 1), rfl, be.ng.nu (by omega), by omega, hk, by omega, ?_⟩
      walk_at "gg"
      rw [Int.neg_neg]
      refine ⟨_, n, 109 * (m + 1), rfl, be.nu (by omega), by omega, hk, by omega, ?_⟩
      walk_at "gg"
      intro x dx H1 hx e1 hx1
      refine ⟨x, dx, 1, nu prs (sc (-(n : Int)) e), nu prs (ng (sc (-(n : Int)) e)), _, _, rfl, by rw [Nat.one_mul, nu_pow, sc_neg], by rw [Nat.one_mul, nu_pow, ← sc_neg, ← sc_ng, ng_ng], hx1, by decide, Nat.one_lt_two_pow (by decide), nu_pos prs_pc, nu_cop prs_pc, fun H2 e2 h2 => ⟨rfl, hQ x H2 (Ex.fresh e1 hx e2) ⟨by rw [sc_len, le], h2⟩⟩⟩
theorem sc_Ratio_power : FnScope ["self", "prime"] ["self", "prime"] (defScope s_Ratio_power) := ⟨rfl, rfl, rfl, by decide +kernel, rfl, by decide +kernel, by decide +kernel⟩
theorem ok_Ratio_power (T : TT K mg) : FnOk P w K mg base CX0 2 (He.ma K (He.ga K "Ratio") "power") (fdOf K ("Ratio", some "power")) ["self", "prime"] (spRPower K) := by
  refine (F_Ratio_power T).ok sc_Ratio_power (fun vs H Q E h => ?_) (fun cdv A outer s H vs Q E hr h => ⟨_, PSs.nox ((pss_cons (ps_if (PW.pt (pw_or (pt_not (pt_val (pe_call (ok_is_whole T) (hr.mono (by decide)) (by rfl) (T.glo "is_whole" rfl) (F_is_whole T).kp (B_is_whole T) .nil pass0 (pa_cons (pv 1) pa_nil)))) (pw_or1 (pt_cmpR (op_notInK K) (pv 1) (pe_glob (v := .ref _) (by rfl) (T.glo "PRIMES_ratios" rfl) rfl) (by with_unfolding_all rfl))))) (pss_one ps_dead) pss_nil)
  (pss_cons (ps_if (pt_cmpR op_eq (pe_fldK K (pv 0)) pe_int (nomark _)) (pss_one ps_dead) pss_nil)
  (pss_one (ps_ret (pe_op op_sub (pe_call (ok__times_divided T) (hr.mono (by decide)) (by rfl) (T.glo "_times_divided" rfl) (F__times_divided T).kp (B__times_divided T) .nil pass0 (pa_cons (pe_fldK K (pv 0)) (pa_cons (pv 1) pa_nil))) (pe_call (ok__times_divided T) (hr.mono (by decide)) (by rfl) (T.glo "_times_divided" rfl) (F__times_divided T).kp (B__times_divided T) .nil pass0 (pa_cons (pe_fldK K (pv 0)) (pa_cons (pv 1) pa_nil))))))))), ?_⟩)
  · obtain ⟨a, e, i, p, x, rfl, _⟩ := h
    rfl
  · obtain ⟨a, e, i, p, x, rfl, ⟨le, dx, ha⟩, hp, hx, hQ⟩ := h
    have hC := T.cls "Ratio" rfl
    have hT := T.noat "Ratio" "top" rfl
    have hB := T.noat "Ratio" "bottom" rfl
    have p0 : 0 < nu prs e := nu_pos prs_pc
    have q0 : 0 < nu prs (ng e) := nu_pos prs_pc
    have hin : (prs.map fun p : Nat => (p : Int)).contains (p : Int) = true := List.contains_iff_mem.mpr (List.mem_map.mpr ⟨p, List.mem_of_getElem? hp, rfl⟩)
    have hnx : (ng e)[i]? = some (-x) := by rw [ng, List.getElem?_map, hx]; rfl
    obtain ⟨r1, a1, c1⟩ := nu_at prs_pc hp hx
    obtain ⟨r2, a2, c2⟩ := nu_at prs_pc hp hnx
    have pp := PC.at prs_pc hp
    walk_at "in"
    walk_at "gg"
    refine ⟨p, rfl, ?_⟩
    walk_at "gg"
    refine x_inT (sq_ratios T H) ?_
    rw [hin]
    walk_at "gg"
    refine x_iteF (decide_eq_false (by omega)) ?_
    walk_at "gg"
    rw [a1]
    refine ⟨p, x.toNat, r1, rfl, pp.1, pp.2, by rw [a1] at p0; exact Nat.pos_of_mul_pos_left p0, c1, ?_⟩
    walk_at "gg"
    rw [a2]
    refine ⟨p, (-x).toNat, r2, rfl, pp.1, pp.2, by rw [a2] at q0; exact Nat.pos_of_mul_pos_left q0, c2, ?_⟩
    walk_at "gg"
    rw [show ((x.toNat : Int) - ((-x).toNat : Int)) = x from by omega]
    exact hQ
end
end BF
/-! ## Checks and the exceptions' __init__s -/
namespace BF
open PySem PySem.Spec PyProof.Rows L2
def isNum : DV → Int → Int → Bool
  | .int i, lo, hi => decide (lo ≤ i) && decide (i ≤ hi)
  | _, _, _ => false
def fsN : List V → List (Str × V)
  | [v] => [("code", .str "InvalidNumber"), ("value", v)]
  | _ => []
def fsS : List V → List (Str × V)
  | [p, q] => [("code", .str "NoSpeed"), ("other", q), ("prime", p)]
  | _ => []
def spNum (K : PySem.W.Frag) : Sp := fun vs H Q _ => ∃ (M : List Addr) (v : V) (d : DV) (lo hi : Int), vs = [v, .int lo, .int hi] ∧ Dat K M H v d ∧ Q (.bl (isNum d lo hi)) H
def spSigns (K : PySem.W.Frag) : Sp := fun vs H Q E => ∃ (M : List Addr) (v : V) (d : DV), vs = [v] ∧ Dat K M H v d ∧ if isNum d 1 64 = true then Q .non H else RaisedX (He.ga K "InvalidNumber") (fsN [v]) H E
def pvl : Option Nat → V
  | none => .non
  | some i => .int (prs.getD i 0 : Nat)
def spLeast (K : PySem.W.Frag) : Sp := fun vs H Q _ => ∃ (a : Addr) (e : List Int), vs = [.ref a] ∧ Rv K H a e ∧ Q (pvl (fz e)) H
def spFrame (K : PySem.W.Frag) : Sp := fun vs H Q _ => ∃ (a : Addr) (t c : Int), vs = [.ref a] ∧ SqT K H a [.int t, .int c] ∧ 1 ≤ t ∧ t ≤ 12 ∧ -12 ≤ c ∧ c ≤ 12 ∧ Q .non H
section
variable {P : Program} {w : World} {K : PySem.W.Frag} {mg : Str → Option Value} {base : Heap}
theorem xN (T : TT K mg) : ExcOk K "InvalidNumber" := (ExcD.to (m_0 T)).1
theorem xF (T : TT K mg) : ExcOk K "InvalidFrame" := (ExcD.to (m_1 T)).1
theorem xS (T : TT K mg) : ExcOk K "NoSpeed" := (ExcD.to (m_2 T)).1
theorem sc_InvalidNumber___init__ : FnScope ["self", "value"] ["self", "value"] (defScope s_InvalidNumber___init__) := ⟨rfl, rfl, rfl, by decide +kernel, rfl, by decide +kernel, by decide +kernel⟩
theorem ok_InvalidNumber___init__ (T : TT K mg) : FnOk P w K mg base CX0 1 (He.ma K (He.ga K "InvalidNumber") "__init__") (fdOf K ("InvalidNumber", some "__init__")) ["self", "value"] (spEx (He.ga K "InvalidNumber") 1 fsN) := by
  refine (F_InvalidNumber___init__ T).ok sc_InvalidNumber___init__ (fun vs H Q E h => ?_) (fun cdv A outer s H vs Q E hr h => ⟨_, PSs.nox ((pss_cons (ps_ostE K (pv 0) (pv 1))
  (pss_one (ps_ostE K (pv 0) pe_str)))), ?_⟩)
  · obtain ⟨a, ws, rfl, hw, _⟩ := h
    rw [List.length_cons, hw]
    rfl
  · obtain ⟨a, ws, rfl, hw, ha, hQ⟩ := h
    match ws, hw with
    | [v], _ =>
      have hX := (xN T).oex
      have n1 := (ExcD.to (m_0 T)).2 "value" (by decide)
      have n2 := (ExcD.to (m_0 T)).2 "code" (by decide)
      walk_at "in"
      walk_at "gg"
      rename_i d H1 hd ne e1 ha1 hd1 H2 e2 ha2 hd2
      exact hQ d H2 hd ne (Ex.skip e1 hd e2) ha2 hd2
theorem sc_NoSpeed___init__ : FnScope ["self", "prime", "other"] ["self", "prime", "other"] (defScope s_NoSpeed___init__) := ⟨rfl, rfl, rfl, by decide +kernel, rfl, by decide +kernel, by decide +kernel⟩
theorem ok_NoSpeed___init__ (T : TT K mg) : FnOk P w K mg base CX0 1 (He.ma K (He.ga K "NoSpeed") "__init__") (fdOf K ("NoSpeed", some "__init__")) ["self", "prime", "other"] (spEx (He.ga K "NoSpeed") 2 fsS) := by
  refine (F_NoSpeed___init__ T).ok sc_NoSpeed___init__ (fun vs H Q E h => ?_) (fun cdv A outer s H vs Q E hr h => ⟨_, PSs.nox ((pss_cons (ps_ostE K (pv 0) (pv 1))
  (pss_cons (ps_ostE K (pv 0) (pv 2))
  (pss_one (ps_ostE K (pv 0) pe_str))))), ?_⟩)
  · obtain ⟨a, ws, rfl, hw, _⟩ := h
    rw [List.length_cons, hw]
    rfl
  · obtain ⟨a, ws, rfl, hw, ha, hQ⟩ := h
    match ws, hw with
    | [p, q], _ =>
      have hX := (xS T).oex
      have n1 := (ExcD.to (m_2 T)).2 "prime" (by decide)
      have n2 := (ExcD.to (m_2 T)).2 "other" (by decide)
      have n3 := (ExcD.to (m_2 T)).2 "code" (by decide)
      walk_at "in"
      walk_at "gg"
      rename_i d H1 hd ne e1 ha1 hd1 H2 e2 ha2 hd2 H3 e3 ha3 hd3
      exact hQ d H3 hd ne (Ex.skip (Ex.skip e1 hd e2) hd e3) ha3 hd3
theorem sc_is_number : FnScope ["value", "least", "most"] ["value", "least", "most"] (defScope s_is_number) := ⟨rfl, rfl, rfl, by decide +kernel, rfl, by decide +kernel, by decide +kernel⟩
theorem ok_is_number (T : TT K mg) : FnOk P w K mg base CX0 1 (He.ga K "is_number") (fdOf K ("is_number", none)) ["value", "least", "most"] (spNum K) := by
  refine (F_is_number T).ok sc_is_number (fun vs H Q E h => ?_) (fun cdv A outer s H vs Q E hr h => ⟨_, PSs.nox ((pss_one (ps_ret (pe_and (pe_callB (call_isiK' K) (by rfl) (T.free "isinstance" rfl) boot_isinstance (pa_cons (pv 0) (pa_cons (pe_bltn (v := .ty "int") (by rfl) (T.free "int" rfl) boot_int rfl) pa_nil))) (pe_and (pe_not (pe_callB (call_isiK' K) (by rfl) (T.free "isinstance" rfl) boot_isinstance (pa_cons (pv 0) (pa_cons (pe_bltn (v := .ty "bool") (by rfl) (T.free "bool" rfl) boot_bool rfl) pa_nil)))) (pe_one (pe_chain op_le op_le (pv 1) (pv 0) (pv 2)))))))), ?_⟩)
  · obtain ⟨M, v, d, lo, hi, rfl, _⟩ := h
    rfl
  · obtain ⟨M, v, d, lo, hi, rfl, hd, hQ⟩ := h
    walk_at "in"
    cases hd with
    | non => walk_at "gg"; exact hQ
    | bl b => walk_at "gg"; exact hQ
    | int i =>
      walk_at "gg"
      refine x_ite (fun h1 => ?_) (fun h1 => ?_)
      · walk_at "gg"
        rw [show isNum (.int i) lo hi = (decide (lo ≤ i) && decide (i ≤ hi)) from rfl, decide_eq_true h1, Bool.true_and] at hQ
        exact hQ
      · rw [show isNum (.int i) lo hi = (decide (lo ≤ i) && decide (i ≤ hi)) from rfl, decide_eq_false h1, Bool.false_and] at hQ
        exact hQ
    | str x => walk_at "gg"; exact hQ
    | lst h1 h2 h3 => walk_at "gg"; exact hQ
    | tup h1 h2 h3 => walk_at "gg"; exact hQ
theorem sc__law_num : FnScope ["_law_thing", "_law_least_z", "_law_most_z"] ["_law_thing", "_law_least_z", "_law_most_z"] (defScope s__law_num) := ⟨rfl, rfl, rfl, by decide +kernel, rfl, by decide +kernel, by decide +kernel⟩
theorem ok__law_num (T : TT K mg) : FnOk P w K mg base CX0 1 (He.ga K "_law_num") (fdOf K ("_law_num", none)) ["_law_thing", "_law_least_z", "_law_most_z"] (spNum K) := by
  refine (F__law_num T).ok sc__law_num (fun vs H Q E h => ?_) (fun cdv A outer s H vs Q E hr h => ⟨_, PSs.nox ((pss_one (ps_ret (pe_and (pe_callB (call_isiK' K) (by rfl) (T.free "isinstance" rfl) boot_isinstance (pa_cons (pv 0) (pa_cons (pe_bltn (v := .ty "int") (by rfl) (T.free "int" rfl) boot_int rfl) pa_nil))) (pe_and (pe_not (pe_callB (call_isiK' K) (by rfl) (T.free "isinstance" rfl) boot_isinstance (pa_cons (pv 0) (pa_cons (pe_bltn (v := .ty "bool") (by rfl) (T.free "bool" rfl) boot_bool rfl) pa_nil)))) (pe_and (pe_cmpR op_le (pv 1) (pv 0) (nomark _)) (pe_one (pe_cmpR op_le (pv 0) (pv 2) (nomark _))))))))), ?_⟩)
  · obtain ⟨M, v, d, lo, hi, rfl, _⟩ := h
    rfl
  · obtain ⟨M, v, d, lo, hi, rfl, hd, hQ⟩ := h
    walk_at "in"
    cases hd with
    | non => walk_at "gg"; exact hQ
    | bl b => walk_at "gg"; exact hQ
    | int i =>
      walk_at "gg"
      refine x_ite (fun h1 => ?_) (fun h1 => ?_)
      · walk_at "gg"
        rw [show isNum (.int i) lo hi = (decide (lo ≤ i) && decide (i ≤ hi)) from rfl, decide_eq_true h1, Bool.true_and] at hQ
        exact hQ
      · rw [show isNum (.int i) lo hi = (decide (lo ≤ i) && decide (i ≤ hi)) from rfl, decide_eq_false h1, Bool.false_and] at hQ
        exact hQ
    | str x => walk_at "gg"; exact hQ
    | lst h1 h2 h3 => walk_at "gg"; exact hQ
    | tup h1 h2 h3 => walk_at "gg"; exact hQ
theorem sc__check_signs : FnScope ["signs"] ["signs"] (defScope s__check_signs) := ⟨rfl, rfl, rfl, by decide +kernel, rfl, by decide +kernel, by decide +kernel⟩
theorem ok__check_signs (T : TT K mg) : FnOk P w K mg base (L2.CX P w) 3 (He.ga K "_check_signs") (fdOf K ("_check_signs", none)) ["signs"] (spSigns K) := by
  refine (F__check_signs T).ok sc__check_signs (fun vs H Q E h => ?_) (fun cdv A outer s H vs Q E hr h => ⟨_, (pss_one (ps_if (pt_not (pt_val (pe_call (ok_is_number T) (hr.mono (by decide)) (by rfl) (T.glo "is_number" rfl) (F_is_number T).kp (B_is_number T) .nil pass0 (pa_cons (pv 0) (pa_cons pe_int (pa_cons pe_int pa_nil)))))) (pss_one (ps_raise rfl (takes_of rfl rfl rfl rfl) (pmk_ex (by decide) (xN T).oex (xN T).ini (xN T).fun_ (ok_InvalidNumber___init__ T) (hr.mono (by decide)) (B_InvalidNumber___init__ T) pass0 (by rfl) (T.glo "InvalidNumber" rfl) (pa_cons (pv 0) pa_nil)))) pss_nil)), ?_⟩)
  · obtain ⟨M, v, d, rfl, _⟩ := h
    rfl
  · obtain ⟨M, v, d, rfl, hd, hQ⟩ := h
    walk_at "in"
    walk_at "gg"
    refine ⟨M, v, d, 1, 64, rfl, hd, ?_⟩
    by_cases hn : isNum d 1 64 = true
    · rw [if_pos hn] at hQ
      rw [hn]
      walk_at "gg"
      exact hQ
    · rw [if_neg hn] at hQ
      rw [Bool.not_eq_true] at hn
      rw [hn]
      walk_at "gg"
      exact ⟨rfl, hQ⟩
theorem sc__least_prime : FnScope ["ratio", "prime"] ["ratio"] (defScope s__least_prime) := ⟨rfl, rfl, rfl, by decide +kernel, rfl, by decide +kernel, by decide +kernel⟩
theorem ok__least_prime (T : TT K mg) : FnOk P w K mg base CX0 3 (He.ga K "_least_prime") (fdOf K ("_least_prime", none)) ["ratio"] (spLeast K) := by
  refine (F__least_prime T).ok sc__least_prime (fun vs H Q E h => ?_) (fun cdv A outer s H vs Q E hr h => ⟨_, PSs.nox ((pss_cons (ps_for PassesOwn.never rfl (pi_tup (pe_glob (v := .ref _) (by rfl) (T.glo "PRIMES_speeds" rfl) rfl)) (pg_name (i := 1) sc__least_prime.nd rfl (Or.inl rfl)) (pss_one (ps_if (pt_cmpR op_ne (pe_meth (pv 0) (T.cls "Ratio" rfl) (T.meth "Ratio" "power" rfl) (ok_Ratio_power T) (hr.mono (by decide)) (B_Ratio_power T) .nil pass0 (pa_cons (pv 1) pa_nil)) pe_int (nomark _)) (pss_one (ps_ret (pv 1))) pss_nil)))
  (pss_one (ps_ret pe_non)))), ?_⟩)
  · obtain ⟨a, e, rfl, _⟩ := h
    rfl
  · obtain ⟨a, e, rfl, hv, hQ⟩ := h
    obtain ⟨le, dx, ha⟩ := id hv
    have hsp := sq_speeds T H
    walk_at "in"
    walk_at "gg"
    refine for_it (walk_tup (xs := (prs.map fun p : Nat => (p : Int)).map V.int)) (fun i σ H' => H' = H ∧ (∃ o, σ = [some (.ref a), o]) ∧ ∀ k, k < i → gt0 e k = 0) ⟨rfl, ⟨none, rfl⟩, fun k hk => absurd hk (Nat.not_lt_zero k)⟩ ?_ ?_ ?_
    · rintro i σ H' _ ⟨rfl, _⟩
      exact hsp
    · rintro i x σ H1 H2 hi ⟨rfl, ⟨o, rfl⟩, hk⟩ ⟨rfl, hx⟩
      have hi18 : i < 18 := hi
      obtain ⟨p, hp⟩ : ∃ p, prs[i]? = some p := ⟨prs[i]'hi18, List.getElem?_eq_getElem hi18⟩
      have hxp : x = .int p := by
        rw [List.getElem?_map, List.getElem?_map, hp] at hx
        exact (Option.some.inj hx).symm
      subst hxp
      have hei : e[i]? = some (gt0 e i) := by
        unfold gt0
        rw [List.getD_eq_getElem?_getD, List.getElem?_eq_getElem (by omega)]
        rfl
      walk_at "gg"
      refine ⟨a, e, i, p, gt0 e i, rfl, hv, hp, hei, ?_⟩
      walk_at "gg"
      by_cases h0 : gt0 e i = 0
      · rw [h0]
        walk_at "gg"
        refine ⟨rfl, ⟨_, rfl⟩, fun k hk' => ?_⟩
        rcases Nat.lt_or_ge k i with q | q
        · exact hk k q
        · rw [show k = i from by omega, h0]
      · have hf : fz e = some i := find_some hi18 (decide_eq_true h0) fun k hk' => decide_eq_false fun z => z (hk k hk')
        rw [hf] at hQ
        dsimp only [pvl] at hQ
        rw [show (prs.getD i 0 : Nat) = p from by rw [List.getD_eq_getElem?_getD, hp]; rfl] at hQ
        refine x_iteT ?_ ?_
        · simp [h0]
        · walk_at "gg"
          exact hQ
    · rintro σ H' ⟨rfl, ⟨o, rfl⟩, hk⟩
      have hf : fz e = none := find_none.mpr fun k hk' => decide_eq_false fun z => z (hk k hk')
      rw [hf] at hQ
      walk_at "gg"
      exact hQ
theorem sc__check_frame : FnScope ["value"] ["value"] (defScope s__check_frame) := ⟨rfl, rfl, rfl, by decide +kernel, rfl, by decide +kernel, by decide +kernel⟩
theorem ok__check_frame (T : TT K mg) : FnOk P w K mg base CX0 2 (He.ga K "_check_frame") (fdOf K ("_check_frame", none)) ["value"] (spFrame K) := by
  refine (F__check_frame T).ok sc__check_frame (fun vs H Q E h => ?_) (fun cdv A outer s H vs Q E hr h => ⟨_, PSs.nox ((pss_cons (ps_if (PW.pt (pw_or (pt_not (pt_val (pe_callB (call_isiK' K) (by rfl) (T.free "isinstance" rfl) boot_isinstance (pa_cons (pv 0) (pa_cons (pe_bltn (v := .ty "tuple") (by rfl) (T.free "tuple" rfl) boot_tuple rfl) pa_nil))))) (pw_or1 (pt_cmpR op_ne (pe_callB (call_lenLTK K) (by rfl) (T.free "len" rfl) boot_len (pa_cons (pv 0) pa_nil)) pe_int (nomark _))))) (pss_one ps_dead) pss_nil)
  (pss_one (ps_if (PW.pt (pw_or (pt_not (pt_val (pe_call (ok_is_number T) (hr.mono (by decide)) (by rfl) (T.glo "is_number" rfl) (F_is_number T).kp (B_is_number T) .nil pass0 (pa_cons (pe_ix (ix_LTK K) (pv 0) pe_int (fun _ _ => rfl)) (pa_cons pe_int (pa_cons pe_int pa_nil)))))) (pw_or1 (pt_not (pt_val (pe_call (ok_is_number T) (hr.mono (by decide)) (by rfl) (T.glo "is_number" rfl) (F_is_number T).kp (B_is_number T) .nil pass0 (pa_cons (pe_ix (ix_LTK K) (pv 0) pe_int (fun _ _ => rfl)) (pa_cons (pe_un un_neg pe_int) (pa_cons pe_int pa_nil))))))))) (pss_one ps_dead) pss_nil)))), ?_⟩)
  · obtain ⟨a, t, c, rfl, _⟩ := h
    rfl
  · obtain ⟨a, t, c, rfl, hs, h1, h2, h3, h4, hQ⟩ := h
    walk_at "in"
    walk_at "gg"
    refine ⟨[], _, .int t, 1, 12, rfl, .int t, ?_⟩
    rw [show isNum (.int t) 1 12 = true from by simp [isNum, h1, h2]]
    walk_at "gg"
    refine ⟨[], _, .int c, -12, 12, rfl, .int c, ?_⟩
    rw [show isNum (.int c) (-12) 12 = true from by simp [isNum, h3, h4]]
    walk_at "gg"
    exact hQ
end
end BF
/-! ## speed and framed_flow -/
namespace BF
open PySem PySem.Spec PyProof.Rows L2
def prv (i : Nat) : V := .int (prs.getD i 0 : Nat)
theorem RaisedX.ex {C : Addr} {fs : List (Str × V)} {H H1 : Hp} {Q : XK} (h : RaisedX C fs H Q) (e : Ex [] H H1) : RaisedX C fs H1 Q := fun d H' n e' hd => h d H' (e.free (by simp) n) (e.tr e') hd
def SpPost (K : PySem.W.Frag) (e f : List Int) (v v' : V) (d d' : DV) (H : Hp) (Q : VK) (E : XK) : Prop :=
  (isNum d 1 64 = false → RaisedX (He.ga K "InvalidNumber") (fsN [v]) H E) ∧ (isNum d 1 64 = true → isNum d' 1 64 = false → RaisedX (He.ga K "InvalidNumber") (fsN [v']) H E) ∧
  ∀ n m : Nat, d = .int n → d' = .int m → 1 ≤ n → n ≤ 64 → 1 ≤ m → m ≤ 64 →
    (∀ t c, spd (sb e f) (sb (xs n) (xs m)) = .ok t c → ∀ p H', Ex [] H H' → H' p = some (.tup [.int t, .int c]) → Q (.ref p) H') ∧
    (∀ i j, spd (sb e f) (sb (xs n) (xs m)) = .err i j → RaisedX (He.ga K "NoSpeed") (fsS [prv i, prv j]) H E)
def spSpeed (K : PySem.W.Frag) : Sp := fun vs H Q E => ∃ (M : List Addr) (a b : Addr) (v v' : V) (e f : List Int) (d d' : DV), vs = [.ref a, v, .ref b, v'] ∧ Rv K H a e ∧ Rv K H b f ∧ Bd 41 e ∧ Bd 41 f ∧ Dat K M H v d ∧ Dat K M H v' d' ∧ SpPost K e f v v' d d' H Q E
theorem num_of {d : DV} (h : isNum d 1 64 = true) : ∃ n : Nat, d = .int n ∧ 1 ≤ n ∧ n ≤ 64 := by
  cases d with
  | int i =>
    unfold isNum at h
    rw [Bool.and_eq_true] at h
    have h1 := of_decide_eq_true h.1
    have h2 := of_decide_eq_true h.2
    exact ⟨i.toNat, by rw [Int.toNat_of_nonneg (by omega)], by omega, by omega⟩
  | _ => cases h
theorem mk_ratio {n m : Nat} (h1 : 1 ≤ n) (h2 : n ≤ 64) (h3 : 1 ≤ m) (h4 : m ≤ 64) : ∃ g, 0 < g ∧ g < 2 ^ 9000 ∧ n = g * nu prs (sb (xs n) (xs m)) ∧ m = g * nu prs (ng (sb (xs n) (xs m))) := by
  obtain ⟨g, g0, g1, p1, p2⟩ := nu_mul (m := 6) (e := xs n) (f := ng (xs m)) prs_pc (by rw [ng_len, xs_len h1 h2, xs_len h3 h4]) (fun i x y hx _ => .inl (by have := xs_bd h1 h2 x (List.mem_of_getElem? hx); omega))
  have z1 : nu prs (ng (xs n)) = 1 := nu_one fun x hx => by
    obtain ⟨y, hy, rfl⟩ := List.mem_map.mp hx
    have := xs_bd h1 h2 y hy
    omega
  have z2 : nu prs (ng (xs m)) = 1 := nu_one fun x hx => by
    obtain ⟨y, hy, rfl⟩ := List.mem_map.mp hx
    have := xs_bd h3 h4 y hy
    omega
  rw [z2, xs_nu h1 h2, Nat.mul_one] at p1
  rw [ng_ng, z1, xs_nu h3 h4, Nat.one_mul] at p2
  refine ⟨g, g0, Nat.lt_of_le_of_lt g1 ?_, p1, p2⟩
  rw [show (64 : Nat) = 2 ^ 6 from rfl, ← Nat.pow_mul]
  exact Nat.pow_lt_pow_right (by decide) (by decide)
theorem zr_len : zr.length = 18 := by decide
theorem zr_nu : nu prs zr = 1 := nu_one fun x hx => by
  rw [List.eq_of_mem_replicate hx]
  exact Int.le_refl _
theorem zr_ng : ng zr = zr := by decide
theorem bd_at {m : Nat} {e : List Int} {k : Nat} (h : Bd m e) (l : k < e.length) : -(m : Int) ≤ gt0 e k ∧ gt0 e k ≤ m := h _ (List.mem_of_getElem? (gt0_at l))
theorem prs_at {i : Nat} (h : i < 18) : prs[i]? = some (prs.getD i 0) := by
  rw [List.getD_eq_getElem?_getD, List.getElem?_eq_getElem (show i < prs.length from h)]
  rfl
section
variable {P : Program} {w : World} {K : PySem.W.Frag} {mg : Str → Option Value} {base : Heap}
theorem sc_speed : FnScope ["one_flow", "one_signs", "other_flow", "other_signs", "flows", "signs", "prime", "first", "cells", "ticks", "other", "common"] ["one_flow", "one_signs", "other_flow", "other_signs"] (defScope s_speed) := ⟨rfl, rfl, rfl, by decide +kernel, rfl, by decide +kernel, by decide +kernel⟩
theorem ok_speed (T : TT K mg) : FnOk P w K mg base (L2.CX P w) 5 (He.ga K "speed") (fdOf K ("speed", none)) ["one_flow", "one_signs", "other_flow", "other_signs"] (spSpeed K) := by
  obtain ⟨ds2, v2, b2⟩ := B_init2 T
  obtain ⟨ds1, v1, b1⟩ := B_init1 T
  refine (F_speed T).ok sc_speed (fun vs H Q E h => ?_) (fun cdv A outer s H vs Q E hr h => ⟨_, (pss_cons (ps_expr (pe_call (ok__check_signs T) (hr.mono (by decide)) (by rfl) (T.glo "_check_signs" rfl) (F__check_signs T).kp (B__check_signs T) .nil (passes_call (takes_of rfl rfl rfl rfl) (fun _ _ _ _ h => h)) (pa_cons (pv 1) pa_nil)))
  (pss_cons (ps_expr (pe_call (ok__check_signs T) (hr.mono (by decide)) (by rfl) (T.glo "_check_signs" rfl) (F__check_signs T).kp (B__check_signs T) .nil (passes_call (takes_of rfl rfl rfl rfl) (fun _ _ _ _ h => h)) (pa_cons (pv 3) pa_nil)))
  (pss_cons (ps_set (i := 4) sc_speed.nd rfl (Or.inl rfl) (pe_op (op_ownB (C := He.ga K "Ratio") (ok_Ratio___mul__ T) (hr.mono (by decide)) (m_6 T) (of_decide_eq_true (m_12 T)) (m_13 T) (B_Ratio___mul__ T) pass0) (pv 0) (pe_un (un_ownInv (C := He.ga K "Ratio") (ok_Ratio___invert__ T) (hr.mono (by decide)) (of_decide_eq_true (m_14 T)) (m_15 T) (B_Ratio___invert__ T) pass0) (pv 2))))
  (pss_cons (ps_if (pt_cmpR (op_ownEq (C := He.ga K "Ratio") (ok_Ratio___eq__ T) (hr.mono (by decide)) (of_decide_eq_true (m_10 T)) (m_11 T) (B_Ratio___eq__ T) pass0) (pv 4) (pe_makeE (T.mkr "Ratio" rfl) (ok_Ratio___init__ T) (hr.mono (by decide)) (by rfl) (T.glo "Ratio" rfl) b1 v1 pass0 (pa_cons pe_int pa_nil)) (nomark _)) (pss_one (ps_ret (pe_tupE (pa_cons pe_int (pa_cons pe_int pa_nil))))) pss_nil)
  (pss_cons (ps_set (i := 5) sc_speed.nd rfl (Or.inl rfl) (pe_makeE (T.mkr "Ratio" rfl) (ok_Ratio___init__ T) (hr.mono (by decide)) (by rfl) (T.glo "Ratio" rfl) b2 v2 pass0 (pa_cons (pv 1) (pa_cons (pv 3) pa_nil))))
  (pss_cons (ps_set (i := 6) sc_speed.nd rfl (Or.inl rfl) (pe_call (ok__least_prime T) (hr.mono (by decide)) (by rfl) (T.glo "_least_prime" rfl) (F__least_prime T).kp (B__least_prime T) .nil pass0 (pa_cons (pv 5) pa_nil)))
  (pss_cons (ps_if (pt_cmpR op_isNX (pv 6) pe_non (nomark _)) (pss_cons (ps_set (i := 7) sc_speed.nd rfl (Or.inl rfl) (pe_call (ok__least_prime T) (hr.mono (by decide)) (by rfl) (T.glo "_least_prime" rfl) (F__least_prime T).kp (B__least_prime T) .nil pass0 (pa_cons (pv 4) pa_nil)))
  (pss_one (ps_raise rfl (takes_of rfl rfl rfl rfl) (pmk_ex (by decide) (xS T).oex (xS T).ini (xS T).fun_ (ok_NoSpeed___init__ T) (hr.mono (by decide)) (B_NoSpeed___init__ T) pass0 (by rfl) (T.glo "NoSpeed" rfl) (pa_cons (pv 7) (pa_cons (pv 7) pa_nil)))))) pss_nil)
  (pss_cons (ps_set (i := 8) sc_speed.nd rfl (Or.inl rfl) (pe_meth (pv 4) (T.cls "Ratio" rfl) (T.meth "Ratio" "power" rfl) (ok_Ratio_power T) (hr.mono (by decide)) (B_Ratio_power T) .nil pass0 (pa_cons (pv 6) pa_nil)))
  (pss_cons (ps_set (i := 9) sc_speed.nd rfl (Or.inl rfl) (pe_meth (pv 5) (T.cls "Ratio" rfl) (T.meth "Ratio" "power" rfl) (ok_Ratio_power T) (hr.mono (by decide)) (B_Ratio_power T) .nil pass0 (pa_cons (pv 6) pa_nil)))
  (pss_cons (ps_for (passes_of rfl) rfl (pi_tup (pe_glob (v := .ref _) (by rfl) (T.glo "PRIMES_speeds" rfl) rfl)) (pg_name (i := 10) sc_speed.nd rfl (Or.inl rfl)) (pss_one (ps_if (pt_cmpR op_ne (pe_op op_mulW (pe_meth (pv 4) (T.cls "Ratio" rfl) (T.meth "Ratio" "power" rfl) (ok_Ratio_power T) (hr.mono (by decide)) (B_Ratio_power T) .nil pass0 (pa_cons (pv 10) pa_nil)) (pv 9)) (pe_op op_mulW (pe_meth (pv 5) (T.cls "Ratio" rfl) (T.meth "Ratio" "power" rfl) (ok_Ratio_power T) (hr.mono (by decide)) (B_Ratio_power T) .nil pass0 (pa_cons (pv 10) pa_nil)) (pv 8)) (nomark _)) (pss_one (ps_raise rfl (takes_of rfl rfl rfl rfl) (pmk_ex (by decide) (xS T).oex (xS T).ini (xS T).fun_ (ok_NoSpeed___init__ T) (hr.mono (by decide)) (B_NoSpeed___init__ T) pass0 (by rfl) (T.glo "NoSpeed" rfl) (pa_cons (pv 6) (pa_cons (pv 10) pa_nil))))) pss_nil)))
  (pss_cons (ps_set (i := 11) sc_speed.nd rfl (Or.inl rfl) (pe_callBfun cr_gcd (by rfl) (mg_gcd T) (pa_cons (pv 9) (pa_cons (pv 8) pa_nil))))
  (pss_cons (ps_if (pt_cmpR op_lt (pv 9) pe_int (nomark _)) (pss_one (ps_set (i := 11) sc_speed.nd rfl (Or.inl rfl) (pe_un un_neg (pv 11)))) pss_nil)
  (pss_one (ps_ret (pe_tupE (pa_cons (pe_op op_fdivN (pv 9) (pv 11)) (pa_cons (pe_op op_fdivN (pv 8) (pv 11)) pa_nil))))))))))))))))), ?_⟩)
  · obtain ⟨M, a, b, v, v', e, f, d, d', rfl, _⟩ := h
    rfl
  · obtain ⟨M, a, b, v, v', e, f, d, d', rfl, hva, hvb, be, bf, hd, hd', hP1, hP2, hP3⟩ := h
    have la : e.length = 18 := hva.1
    have lb : f.length = 18 := hvb.1
    walk_at "in"
    walk_at "gg"
    refine ⟨M, v, d, rfl, hd, ?_⟩
    by_cases hn : isNum d 1 64 = true
    rotate_left
    · rw [if_neg hn]
      exact hP1 (by simpa using hn)
    rw [if_pos hn]
    walk_at "gg"
    refine ⟨M, v', d', rfl, hd', ?_⟩
    by_cases hm : isNum d' 1 64 = true
    rotate_left
    · rw [if_neg hm]
      exact hP2 hn (by simpa using hm)
    rw [if_pos hm]
    obtain ⟨n, rfl, n1, n2⟩ := num_of hn
    obtain ⟨m, rfl, m1, m2⟩ := num_of hm
    obtain ⟨hok, herr⟩ := hP3 n m rfl rfl n1 n2 m1 m2
    cases hd
    cases hd'
    obtain ⟨_, dxa, ha⟩ := id hva
    obtain ⟨_, dxb, hb⟩ := id hvb
    walk_at "gg"
    refine x_own1 hb ⟨b, f, rfl, hvb, fun y H1 e1 hvy => ?_⟩
    obtain ⟨_, dxy, hy⟩ := id hvy
    refine x_own (K := K) (e1 _ _ (by simp) ha) hy ⟨a, y, e, ng f, rfl, hva.ex e1 (by simp), hvy, be.le (by decide), bf.ng.le (by decide), fun i x z hx _ => .inl (by have := be x (List.mem_of_getElem? hx); omega), fun u H2 e2 hvu => ?_⟩
    obtain ⟨g, g0, g1, hg1, hg2⟩ := mk_ratio n1 n2 m1 m2
    have hvu' : Rv K H2 u (sb e f) := hvu
    obtain ⟨_, dxu, hu⟩ := id hvu'
    walk_at "gg"
    intro o dxo H3 ho e3 ho1
    refine ⟨o, dxo, 1, 1, 1, _, _, rfl, rfl, rfl, ho1, by decide, Nat.one_lt_two_pow (by decide), by decide, rfl, fun H4 e4 h4 => ⟨rfl, ?_⟩⟩
    have e24 : Ex [] H2 H4 := Ex.fresh e3 ho e4
    have hvo : Rv K H4 o zr := ⟨zr_len, by rw [zr_ng, zr_nu]; exact h4⟩
    obtain ⟨_, dxo', ho4⟩ := id hvo
    have hvu4 := hvu'.ex e24 (by simp)
    have lsb : (sb e f).length = 18 := sb_len la lb
    refine x_own (K := K) (e24 _ _ (by simp) hu) ho4 ⟨u, o, sb e f, zr, rfl, hvu4, hvo, ?_⟩
    have e04 : Ex [] H H4 := (e1.tr e2).tr e24
    walk_at "gg"
    by_cases hz : sb e f = zr
    · rw [decide_eq_true hz]
      walk_at "gg"
      rename_i p H5 hp e5 h5
      exact hok 1 0 (spd_zero ((zr_iff lsb).mp hz)) p H5 (e04.tr e5) h5
    · rw [decide_eq_false hz]
      have lsv : (sb (xs n) (xs m)).length = 18 := sb_len (xs_len n1 n2) (xs_len m1 m2)
      walk_at "gg"
      intro sg dxs H5 hs e5 hs1
      refine ⟨sg, dxs, g, _, _, _, _, rfl, congrArg Nat.cast hg1, congrArg Nat.cast hg2, hs1, g0, g1, nu_pos prs_pc, nu_cop prs_pc, fun H6 e6 h6 => ⟨rfl, ?_⟩⟩
      have e46 : Ex [] H4 H6 := Ex.fresh e5 hs e6
      have hvs : Rv K H6 sg (sb (xs n) (xs m)) := ⟨lsv, h6⟩
      have hvu6 := hvu4.ex e46 (by simp)
      have e06 : Ex [] H H6 := e04.tr e46
      obtain ⟨_, dxu6, hu6⟩ := id hvu6
      obtain ⟨_, dxs6, hs6⟩ := id hvs
      walk_at "gg"
      refine ⟨sg, _, rfl, hvs, ?_⟩
      cases hf : fz (sb (xs n) (xs m)) with
      | none =>
        walk_at "gg"
        refine ⟨u, _, rfl, hvu6, ?_⟩
        cases hg : fz (sb e f) with
        | none =>
          exact absurd ((zr_iff lsb).mpr fun k hk => Decidable.not_not.mp (of_decide_eq_false (find_none.mp hg k hk))) hz
        | some j =>
          walk_at "gg"
          exact ⟨rfl, (herr j j (spd_none hf hg)).ex e06⟩
      | some i =>
        have hi := some_find hf
        walk_at "gg"
        refine ⟨u, _, i, prs.getD i 0, gt0 (sb e f) i, rfl, hvu6, prs_at hi.1, gt0_at (by omega), ?_⟩
        walk_at "gg"
        refine ⟨sg, _, i, prs.getD i 0, gt0 (sb (xs n) (xs m)) i, rfl, hvs, prs_at hi.1, gt0_at (by omega), ?_⟩
        walk_at "gg"
        have be1 : ∀ k, k < 18 → -82 ≤ gt0 (sb e f) k ∧ gt0 (sb e f) k ≤ 82 := fun k hk => by
          rw [gt0_sb la lb hk]
          have := bd_at be (k := k) (by omega)
          have := bd_at bf (k := k) (by omega)
          omega
        have bs1 : ∀ k, k < 18 → -6 ≤ gt0 (sb (xs n) (xs m)) k ∧ gt0 (sb (xs n) (xs m)) k ≤ 6 := fun k hk => by
          rw [gt0_sb (xs_len n1 n2) (xs_len m1 m2) hk]
          have := xs_bd n1 n2 _ (List.mem_of_getElem? (gt0_at (l := xs n) (k := k) (by rw [xs_len n1 n2]; exact hk)))
          have := xs_bd m1 m2 _ (List.mem_of_getElem? (gt0_at (l := xs m) (k := k) (by rw [xs_len m1 m2]; exact hk)))
          omega
        have hsp := sq_speeds T H6
        have ui := be1 i hi.1
        have vi := bs1 i hi.1
        refine x_onTup hsp ?_
        refine for_it (walk_tup (xs := (prs.map fun p : Nat => (p : Int)).map V.int)) (fun k σ H' => H' = H6 ∧ (∃ w, σ = [some (.ref a), some (.int n), some (.ref b), some (.int m), some (.ref u), some (.ref sg), some (pvl (some i)), none, some (.int (gt0 (sb e f) i)), some (.int (gt0 (sb (xs n) (xs m)) i)), w, none]) ∧ ∀ j, j < k → gt0 (sb e f) j * gt0 (sb (xs n) (xs m)) i = gt0 (sb e f) i * gt0 (sb (xs n) (xs m)) j) ⟨rfl, ⟨none, rfl⟩, fun j hj => absurd hj (Nat.not_lt_zero j)⟩ ?_ ?_ ?_
        · rintro k σ H' _ ⟨rfl, _⟩
          exact hsp
        · rintro k x σ H' H7 hk ⟨rfl, ⟨w, rfl⟩, hj⟩ ⟨rfl, hx⟩
          have hk18 : k < 18 := hk
          have hxp : x = prv k := by
            rw [List.getElem?_map, List.getElem?_map, prs_at hk18] at hx
            exact (Option.some.inj hx).symm
          subst hxp
          have uk := be1 k hk18
          have vk := bs1 k hk18
          walk_at "gg"
          refine ⟨u, _, k, prs.getD k 0, gt0 (sb e f) k, rfl, hvu6, prs_at hk18, gt0_at (by omega), ?_⟩
          walk_at "gg"
          refine ⟨sg, _, k, prs.getD k 0, gt0 (sb (xs n) (xs m)) k, rfl, hvs, prs_at hk18, gt0_at (by omega), ?_⟩
          walk_at "gg"
          by_cases hq : gt0 (sb e f) k * gt0 (sb (xs n) (xs m)) i = gt0 (sb (xs n) (xs m)) k * gt0 (sb e f) i
          · refine x_iteF (by simp [hq]) ?_
            walk_at "gg"
            refine ⟨rfl, ⟨_, rfl⟩, fun j hj' => ?_⟩
            rcases Nat.lt_or_ge j k with q | q
            · exact hj j q
            · rw [show j = k from by omega, hq, Int.mul_comm]
          · refine x_iteT (by simp [hq]) ?_
            walk_at "gg"
            refine ⟨rfl, (herr i k (spd_bad hf (find_some hk18 (decide_eq_true ?_) fun j hj' => decide_eq_false fun z => z (hj j hj')))).ex e06⟩
            rw [Int.mul_comm (gt0 (sb e f) i)]
            exact hq
        · rintro σ H' ⟨rfl, ⟨w, rfl⟩, hj⟩
          have hb0 : fb (sb e f) (sb (xs n) (xs m)) i = none := find_none.mpr fun k hk => decide_eq_false fun z => z (hj k hk)
          have hout := spd_good hf hb0 (fun z => hz ((zr_iff lsb).mpr z)) _ rfl
          have vne : gt0 (sb (xs n) (xs m)) i ≠ 0 := of_decide_eq_true hi.2.1
          have gn : Nat.gcd (gt0 (sb (xs n) (xs m)) i).natAbs (gt0 (sb e f) i).natAbs ≠ 0 := fun z => by
            have := Nat.eq_zero_of_gcd_eq_zero_left z
            omega
          have gl : Nat.gcd (gt0 (sb (xs n) (xs m)) i).natAbs (gt0 (sb e f) i).natAbs ≤ 6 := Nat.le_trans (Nat.gcd_le_left _ (by omega)) (by omega)
          walk_at "gg"
          refine x_ite (fun hs0 => ?_) (fun hs0 => ?_)
          · rw [if_pos hs0] at hout
            walk_at "gg"
            have cd : ∀ x, CDivN x (-((Nat.gcd (gt0 (sb (xs n) (xs m)) i).natAbs (gt0 (sb e f) i).natAbs : Nat) : Int)) := fun x => ⟨by omega, by omega⟩
            refine x_I (cd _) ?_
            walk_at "gg"
            refine x_I (cd _) ?_
            walk_at "gg"
            rename_i p H8 hp e8 h8
            exact hok _ _ hout p H8 (e06.tr e8) h8
          · rw [if_neg hs0] at hout
            walk_at "gg"
            have cd : ∀ x, CDivN x ((Nat.gcd (gt0 (sb (xs n) (xs m)) i).natAbs (gt0 (sb e f) i).natAbs : Nat) : Int) := fun x => ⟨by omega, by omega⟩
            refine x_I (cd _) ?_
            walk_at "gg"
            refine x_I (cd _) ?_
            walk_at "gg"
            rename_i p H8 hp e8 h8
            exact hok _ _ hout p H8 (e06.tr e8) h8
end
end BF
/-! ## framed_flow and the law's numbers -/
namespace BF
open PySem PySem.Spec PyProof.Rows L2
def spFramed (K : PySem.W.Frag) : Sp := fun vs H Q _ => ∃ (a fr : Addr) (n : Nat) (t c : Int) (e : List Int), vs = [.ref a, .int n, .ref fr] ∧ Rv K H a e ∧ Bd 41 e ∧ 1 ≤ n ∧ n ≤ 64 ∧ SqT K H fr [.int t, .int c] ∧ 1 ≤ t ∧ t ≤ 12 ∧ -12 ≤ c ∧ c ≤ 12 ∧
  ∀ x H', Ex [] H H' → Rv K H' x (ad (sc t e) (sc (-c) (xs n))) → Q (.ref x) H'
def spGcd : Sp := fun vs H Q _ => ∃ (a b : Nat), vs = [.int a, .int b] ∧ b < 1000000 ∧ Q (.int ((Nat.gcd a b : Nat) : Int)) H
def spPrimes : Sp := fun vs H Q _ => vs = [] ∧ ∀ p H', H p = none → Ex [] H H' → H' p = some (.lst ((prs.map fun p : Nat => (p : Int)).map V.int)) → Q (.ref p) H'
def spExps : Sp := fun vs H Q _ => ∃ n : Nat, vs = [.int n] ∧ 1 ≤ n ∧ n ≤ 64 ∧ ∀ p H', H p = none → Ex [] H H' → H' p = some (.lst ((xs n).map V.int)) → Q (.ref p) H'
def spRatioOf (K : PySem.W.Frag) : Sp := fun vs H Q _ => ∃ (l : Addr) (e : List Int), vs = [.ref l] ∧ SqL K H l (e.map V.int) ∧ e.length = 18 ∧ Bd 600 e ∧ ∀ x H', Ex [] H H' → Rv K H' x e → Q (.ref x) H'
theorem sc_at {k : Int} {e : List Int} {i : Nat} {x : Int} (h : (sc k e)[i]? = some x) : ∃ y, e[i]? = some y ∧ x = k * y := by
  unfold sc at h
  rw [List.getElem?_map] at h
  obtain ⟨y, h1, h2⟩ := Option.map_eq_some_iff.mp h
  exact ⟨y, h1, h2.symm⟩
theorem mul_bd {a b m n : Int} (h1 : -m ≤ a) (h2 : a ≤ m) (h3 : -n ≤ b) (h4 : b ≤ n) : -(m * n) ≤ a * b ∧ a * b ≤ m * n := by
  have h5 : a.natAbs ≤ m.natAbs := by omega
  have h6 : b.natAbs ≤ n.natAbs := by omega
  have h7 := Nat.mul_le_mul h5 h6
  rw [← Int.natAbs_mul, ← Int.natAbs_mul] at h7
  have h8 : 0 ≤ m * n := Int.mul_nonneg (by omega) (by omega)
  omega
theorem Bd.sc {k : Int} {m n : Nat} {e : List Int} (h : Bd m e) (h1 : -(n : Int) ≤ k) (h2 : k ≤ n) : Bd (n * m) (sc k e) := fun x hx => by
  obtain ⟨y, hy, rfl⟩ := List.mem_map.mp hx
  have := h y hy
  rw [Int.natCast_mul]
  exact mul_bd h1 h2 this.1 this.2
theorem xs_Bd {n : Nat} (h1 : 1 ≤ n) (h2 : n ≤ 64) : Bd 6 (xs n) := fun x hx => by
  have := xs_bd h1 h2 x hx
  omega
section
variable {P : Program} {w : World} {K : PySem.W.Frag} {mg : Str → Option Value} {base : Heap}
theorem sc_framed_flow : FnScope ["flow", "signs", "frame", "ticks", "cells"] ["flow", "signs", "frame"] (defScope s_framed_flow) := ⟨rfl, rfl, rfl, by decide +kernel, rfl, by decide +kernel, by decide +kernel⟩
theorem ok_framed_flow (T : TT K mg) : FnOk P w K mg base CX0 5 (He.ga K "framed_flow") (fdOf K ("framed_flow", none)) ["flow", "signs", "frame"] (spFramed K) := by
  obtain ⟨ds1, v1, b1⟩ := B_init1 T
  refine (F_framed_flow T).ok sc_framed_flow (fun vs H Q E h => ?_) (fun cdv A outer s H vs Q E hr h => ⟨_, PSs.nox ((pss_cons (ps_expr (pe_call (ok__check_signs T) (hr.mono (by decide)) (by rfl) (T.glo "_check_signs" rfl) (F__check_signs T).kp (B__check_signs T) .nil passL (pa_cons (pv 1) pa_nil)))
  (pss_cons (ps_expr (pe_call (ok__check_frame T) (hr.mono (by decide)) (by rfl) (T.glo "_check_frame" rfl) (F__check_frame T).kp (B__check_frame T) .nil pass0 (pa_cons (pv 2) pa_nil)))
  (pss_cons (ps_asg (pv 2) (pg_tup rfl (pgs_cons (pg_name (i := 3) sc_framed_flow.nd rfl (Or.inl rfl)) (pgs_cons (pg_name (i := 4) sc_framed_flow.nd rfl (Or.inl rfl)) pgs_nil))))
  (pss_one (ps_ret (pe_op (op_ownB (C := He.ga K "Ratio") (ok_Ratio___mul__ T) (hr.mono (by decide)) (m_6 T) (of_decide_eq_true (m_12 T)) (m_13 T) (B_Ratio___mul__ T) pass0) (pe_meth (pv 0) (T.cls "Ratio" rfl) (T.meth "Ratio" "raised" rfl) (ok_Ratio_raised T) (hr.mono (by decide)) (B_Ratio_raised T) .nil pass0 (pa_cons (pv 3) pa_nil)) (pe_meth (pe_makeE (T.mkr "Ratio" rfl) (ok_Ratio___init__ T) (hr.mono (by decide)) (by rfl) (T.glo "Ratio" rfl) b1 v1 pass0 (pa_cons (pv 1) pa_nil)) (T.cls "Ratio" rfl) (T.meth "Ratio" "raised" rfl) (ok_Ratio_raised T) (hr.mono (by decide)) (B_Ratio_raised T) .nil pass0 (pa_cons (pe_un un_neg (pv 4)) pa_nil))))))))), ?_⟩)
  · obtain ⟨a, fr, n, t, c, e, rfl, _⟩ := h
    rfl
  · obtain ⟨a, fr, n, t, c, e, rfl, hva, be, n1, n2, hf, t1, t2, c1, c2, hQ⟩ := h
    walk_at "in"
    walk_at "gg"
    refine ⟨[], _, .int n, rfl, .int _, ?_⟩
    rw [show isNum (.int n) 1 64 = true from by simp [isNum]; omega]
    walk_at "gg"
    refine ⟨fr, t, c, rfl, hf, t1, t2, c1, c2, ?_⟩
    obtain ⟨_, dxa, ha⟩ := id hva
    walk_at "gg"
    refine ⟨a, e, t, 41, rfl, hva, be, ?_, fun y H1 e1 hvy => ?_⟩
    · obtain ⟨k, rfl⟩ := natCast_toNat (i := t) (by omega)
      rw [Int.natAbs_natCast]
      omega
    walk_at "gg"
    intro o dxo H3 ho e3 ho1
    obtain ⟨g, g0, g1, hg1, hg2⟩ := mk_ratio n1 n2 (Nat.le_refl 1) (by decide)
    have z1 : sb (xs n) (xs 1) = xs n := by
      have : xs 1 = zr := by decide +kernel
      rw [this]
      unfold sb
      rw [zr_ng]
      exact ad_zr (xs_len n1 n2)
    rw [z1] at hg1 hg2
    refine ⟨o, dxo, g, _, _, _, _, rfl, congrArg Nat.cast hg1, congrArg Nat.cast hg2, ho1, g0, g1, nu_pos prs_pc, nu_cop prs_pc, fun H4 e4 h4 => ⟨rfl, ?_⟩⟩
    have hvo : Rv K H4 o (xs n) := ⟨xs_len n1 n2, h4⟩
    have e14 : Ex [] H1 H4 := Ex.fresh e3 ho e4
    obtain ⟨_, dxo4, ho4⟩ := id hvo
    walk_at "gg"
    refine ⟨o, xs n, -c, 6, rfl, hvo, xs_Bd n1 n2, ?_, fun z H5 e5 hvz => ?_⟩
    · omega
    have hvy5 := (hvy.ex e14 (by simp)).ex e5 (by simp)
    obtain ⟨_, dxy, hy5⟩ := id hvy5
    obtain ⟨_, dxz, hz5⟩ := id hvz
    refine x_own (K := K) hy5 hz5 ⟨y, z, _, _, rfl, hvy5, hvz, (be.sc (n := 12) (by omega) (by omega)).le (by decide), ((xs_Bd n1 n2).sc (n := 12) (by omega) (by omega)).le (by decide), fun i x w hx hw => .inr ?_, fun x H6 e6 hv6 => hQ x H6 ((e1.tr e14).tr (e5.tr e6)) hv6⟩
    have := ((xs_Bd n1 n2).sc (n := 12) (k := -c) (by omega) (by omega)) w (List.mem_of_getElem? hw)
    omega
theorem sc__law_power : FnScope ["_law_base", "_law_times", "_law_found", "_law_k"] ["_law_base", "_law_times"] (defScope s__law_power) := ⟨rfl, rfl, rfl, by decide +kernel, rfl, by decide +kernel, by decide +kernel⟩
theorem ok__law_power (T : TT K mg) : FnOk P w K mg base CX0 1 (He.ga K "_law_power") (fdOf K ("_law_power", none)) ["_law_base", "_law_times"] spPowOf := by
  refine (F__law_power T).ok sc__law_power (fun vs H Q E h => ?_) (fun cdv A outer s H vs Q E hr h => ⟨_, PSs.nox ((pss_cons (ps_set (i := 2) sc__law_power.nd rfl (Or.inl rfl) pe_int)
  (pss_cons (ps_for PassesOwn.never rfl (pi_range1 (by rfl) (T.free "range" rfl) (pa_cons (pv 1) pa_nil)) (pg_name (i := 3) sc__law_power.nd rfl (Or.inl rfl)) (pss_one (ps_set (i := 2) sc__law_power.nd rfl (Or.inl rfl) (pe_op op_mulW (pv 2) (pv 0)))))
  (pss_one (ps_ret (pv 2)))))), ?_⟩)
  · obtain ⟨a, k, n, rfl, _⟩ := h
    rfl
  · obtain ⟨a, k, n, rfl, ha, hn, hk, hk1, hQ⟩ := h
    walk_at "in"
    walk_at "gg"
    refine for_it walk_range (fun i σ H' => H' = H ∧ ∃ o, σ = [some (.int a), some (.int k), some (.int ((a ^ i : Nat) : Int)), o]) ⟨rfl, none, rfl⟩ (fun _ _ _ _ _ => trivial) ?_ ?_
    · rintro i x σ H1 H2 hi ⟨rfl, o, rfl⟩ ⟨rfl, rfl⟩
      have hi' : i ≤ k := by omega
      walk_at "gg"
      refine x_I (wide_mul (a := n * k + 1) (b := n) ?_ ha (by omega) hn (by rw [Nat.mul_succ] at hk; omega)) ?_
      · rw [Int.natAbs_natCast]
        refine Nat.lt_of_le_of_lt (Nat.pow_le_pow_left (Nat.le_of_lt ha) i) ?_
        rw [← Nat.pow_mul]
        exact Nat.pow_lt_pow_right (by decide) (Nat.lt_succ_of_le (Nat.mul_le_mul_left n hi'))
      · walk_at "gg"
        exact ⟨rfl, some (.int (0 + (i : Nat))), by rw [Nat.pow_succ, Int.natCast_mul]⟩
    · rintro σ H1 ⟨rfl, o, rfl⟩
      walk_at "gg"
      rw [Int.toNat_natCast]
      exact hQ
theorem sc__law_gcd : FnScope ["_law_aa", "_law_bb"] ["_law_aa", "_law_bb"] (defScope s__law_gcd) := ⟨rfl, rfl, rfl, by decide +kernel, rfl, by decide +kernel, by decide +kernel⟩
theorem ok__law_gcd (T : TT K mg) : FnOk P w K mg base CX0 1 (He.ga K "_law_gcd") (fdOf K ("_law_gcd", none)) ["_law_aa", "_law_bb"] spGcd := by
  refine (F__law_gcd T).ok sc__law_gcd (fun vs H Q E h => ?_) (fun cdv A outer s H vs Q E hr h => ⟨_, PSs.nox ((pss_cons (ps_whileE PassesOwn.never (pt_cmpR op_gt (pv 1) pe_int (nomark _)) (pss_one (ps_par (i := 0) (j := 1) rfl sc__law_gcd.nd rfl rfl (by decide) rfl rfl (pa_cons (pv 1) (pa_cons (pe_op op_mod (pe_callTy call_intX (by rfl) (T.free "int" rfl) boot_int (pa_cons (pv 0) pa_nil)) (pv 1)) pa_nil)) rfl)))
  (pss_one (ps_ret (pv 0))))), ?_⟩)
  · obtain ⟨a, b, rfl, _⟩ := h
    rfl
  · obtain ⟨a, b, rfl, hb, hQ⟩ := h
    walk_at "in"
    walk_at "gg"
    refine x_while (fun σ H' => H' = H ∧ ∃ x y : Nat, σ = [some (.int x), some (.int y)] ∧ Nat.gcd x y = Nat.gcd a b) (fun σ _ => match σ with | [_, some (.int y)] => y.toNat | _ => 0) ⟨rfl, a, b, rfl, rfl⟩ ?_
    rintro σ H1 ⟨rfl, x, y, rfl, hxy⟩
    walk_at "gg"
    refine x_ite (fun h1 => ?_) (fun h1 => ?_)
    · walk_at "gg"
      refine ⟨⟨rfl, y, x % y, by rw [Int.natCast_emod]; rfl, ?_⟩, ?_⟩
      · rw [← hxy, Nat.gcd_comm x y, Nat.gcd_rec y x, Nat.gcd_comm]
      · show ((x : Int) % (y : Int)).toNat < (y : Int).toNat
        have := Int.emod_lt_of_pos (x : Int) h1
        have := Int.emod_nonneg (x : Int) (b := (y : Int)) (by omega)
        omega
    · walk_at "gg"
      rw [show y = 0 from by omega, Nat.gcd_zero_right] at hxy
      rw [hxy]
      exact hQ
theorem sc__law_primes : FnScope [] [] (defScope s__law_primes) := ⟨rfl, rfl, rfl, by decide +kernel, rfl, by decide +kernel, by decide +kernel⟩
theorem ok__law_primes (T : TT K mg) : FnOk P w K mg base CX0 1 (He.ga K "_law_primes") (fdOf K ("_law_primes", none)) [] spPrimes := by
  refine (F__law_primes T).ok sc__law_primes (fun vs H Q E h => ?_) (fun cdv A outer s H vs Q E hr h => ⟨_, PSs.nox ((pss_one (ps_ret (pe_lstE (pa_cons pe_int (pa_cons pe_int (pa_cons pe_int (pa_cons pe_int (pa_cons pe_int (pa_cons pe_int (pa_cons pe_int (pa_cons pe_int (pa_cons pe_int (pa_cons pe_int (pa_cons pe_int (pa_cons pe_int (pa_cons pe_int (pa_cons pe_int (pa_cons pe_int (pa_cons pe_int (pa_cons pe_int (pa_cons pe_int pa_nil)))))))))))))))))))))), ?_⟩)
  · rw [h.1]
    rfl
  · obtain ⟨rfl, hQ⟩ := h
    walk_at "in"
    walk_at "gg"
    rename_i p H1 hp e1 h1
    exact hQ p H1 hp e1 h1
theorem it_le {p : Nat} (hp : 1 < p) : ∀ {k n c : Nat}, (it p k (n, c)).1 ≤ n
  | 0, _, _ => Nat.le_refl _
  | k + 1, n, c => by
    show (stp p (it p k (n, c))).1 ≤ n
    unfold stp
    split
    · exact Nat.le_trans (Nat.div_le_self ..) (it_le hp)
    · exact it_le hp
theorem it_cnt {p : Nat} : ∀ {k n c : Nat}, (it p k (n, c)).2 ≤ c + k
  | 0, _, _ => Nat.le_refl _
  | k + 1, n, c => by
    have := it_cnt (p := p) (k := k) (n := n) (c := c)
    show (stp p (it p k (n, c))).2 ≤ c + (k + 1)
    unfold stp
    split
    · show (it p k (n, c)).2 + 1 ≤ c + (k + 1)
      omega
    · omega
theorem sc__law_exps : FnScope ["_law_number", "_law_found", "_law_prime_z", "_law_often", "_law_k"] ["_law_number"] (defScope s__law_exps) := ⟨rfl, rfl, rfl, by decide +kernel, rfl, by decide +kernel, by decide +kernel⟩
theorem ok__law_exps (T : TT K mg) : FnOk P w K mg base CX0 2 (He.ga K "_law_exps") (fdOf K ("_law_exps", none)) ["_law_number"] spExps := by
  refine (F__law_exps T).ok sc__law_exps (fun vs H Q E h => ?_) (fun cdv A outer s H vs Q E hr h => ⟨_, PSs.nox ((pss_cons (ps_set (i := 1) sc__law_exps.nd rfl (Or.inl rfl) (pe_lstE pa_nil))
  (pss_cons (ps_for PassesOwn.never rfl (pi_list (pe_call0 (ok__law_primes T) (hr.mono (by decide)) (by rfl) (T.glo "_law_primes" rfl) (F__law_primes T).kp (B__law_primes T) .nil pass0)) (pg_name (i := 2) sc__law_exps.nd rfl (Or.inl rfl)) (pss_cons (ps_set (i := 3) sc__law_exps.nd rfl (Or.inl rfl) pe_int)
  (pss_cons (ps_for PassesOwn.never rfl (pi_range1 (by rfl) (T.free "range" rfl) (pa_cons pe_int pa_nil)) (pg_name (i := 4) sc__law_exps.nd rfl (Or.inl rfl)) (pss_one (ps_if (pt_cmpR op_eq (pe_op op_mod (pe_callTy call_intX (by rfl) (T.free "int" rfl) boot_int (pa_cons (pv 0) pa_nil)) (pv 2)) pe_int (nomark _)) (pss_one (ps_par (i := 0) (j := 3) rfl sc__law_exps.nd rfl rfl (by decide) rfl rfl (pa_cons (pe_op op_fdivW (pv 0) (pv 2)) (pa_cons (pe_op (op_addUK K) (pv 3) pe_int) pa_nil)) rfl)) pss_nil)))
  (pss_one (ps_expr (pe_bm PySem.F.plainAttrs_list PySem.F.slot_list_append PySem.F.type_list_append mt_append (pv 1) (pa_cons (pv 3) pa_nil)))))))
  (pss_one (ps_ret (pv 1)))))), ?_⟩)
  · obtain ⟨n, rfl, _⟩ := h
    rfl
  · obtain ⟨n, rfl, n1, n2, hQ⟩ := h
    walk_at "in"
    walk_at "gg"
    rename_i fd H1 hfd e1 hf1
    refine ⟨rfl, fun pl H2 hpl e2 hp2 => ?_⟩
    have ne : pl ≠ fd := (ne_of_none hf1 hpl).symm
    refine x_onList (sql_of hp2) ?_
    refine for_it (walk_list (xs := (prs.map fun p : Nat => (p : Int)).map V.int)) (fun i σ H' => (∃ r : Nat, r = rem (prs.take i) n ∧ r ≤ 64 ∧ ∃ o1 o2 o3, σ = [some (.int r), some (.ref fd), o1, o2, o3]) ∧ H' fd = some (.lst (((xs n).take i).map V.int)) ∧ Ex [fd] H2 H') ⟨⟨n, rfl, n2, none, none, none, rfl⟩, e2 _ _ (by simp) hf1, Ex.refl _⟩ ?_ ?_ ?_
    · rintro i σ H' _ ⟨_, _, e⟩
      exact sql_ex e (by simpa using ne) (sql_of hp2)
    · rintro i x σ H3 H4 hi ⟨⟨r, hr1, hr2, o1, o2, o3, rfl⟩, hf3, e3⟩ ⟨rfl, hx⟩
      have hi18 : i < 18 := hi
      have hxp : x = .int (prs.getD i 0 : Nat) := by
        rw [List.getElem?_map, List.getElem?_map, prs_at hi18] at hx
        exact (Option.some.inj hx).symm
      have pp := PC.at prs_pc (prs_at hi18)
      obtain ⟨x1, x2⟩ := xsl_at (n := n) (prs_at hi18)
      rw [← hr1] at x1 x2
      generalize prs.getD i 0 = p at *
      subst hxp
      walk_at "gg"
      refine for_it walk_range (fun k σ H' => H' = H4 ∧ ∃ o, σ = [some (.int ((it p k (r, 0)).1 : Nat)), some (.ref fd), some (.int p), some (.int ((it p k (r, 0)).2 : Nat)), o]) ⟨rfl, o3, rfl⟩ (fun _ _ _ _ _ => trivial) ?_ ?_
      · rintro k x σ H5 H6 hk ⟨rfl, o, rfl⟩ ⟨rfl, rfl⟩
        have b1 := it_le pp.1 (k := k) (n := r) (c := 0)
        have es : it p (k + 1) (r, 0) = stp p (it p k (r, 0)) := rfl
        rw [es]
        generalize it p k (r, 0) = q at *
        obtain ⟨q1, q2⟩ := q
        walk_at "gg"
        have hd : decide ((q1 : Int) % (p : Int) = 0) = decide (q1 % p = 0) := decide_eq_decide.mpr (by omega)
        rw [hd]
        unfold stp
        refine x_ite (fun h1 => ?_) (fun h1 => ?_)
        · rw [if_pos h1]
          walk_at "gg"
          exact ⟨rfl, some (.int (0 + (k : Nat))), by rw [Int.natCast_ediv]; rfl⟩
        · rw [if_neg h1]
          walk_at "gg"
          exact ⟨rfl, some (.int (0 + (k : Nat))), rfl⟩
      · rintro σ H5 ⟨rfl, o, rfl⟩
        walk_at "gg"
        have hl : ((xs n).take i).map V.int ++ [V.int ((it p 6 (r, 0)).2 : Nat)] = ((xs n).take (i + 1)).map V.int := by
          rw [List.take_succ, show (xs n)[i]? = some _ from x1, List.map_append]
          rfl
        refine x_app2 hf3 (by rw [List.length_map, List.length_take, xs_len n1 n2]; omega) fun H6 e6 h6 => ?_
        rw [show Int.toNat 6 = 6 from rfl, hl] at h6
        walk_at "gg"
        exact ⟨⟨_, x2.symm, Nat.le_trans (it_le pp.1) hr2, _, _, _, rfl⟩, h6, e3.tr e6⟩
    · rintro σ H3 ⟨⟨r, hr1, hr2, o1, o2, o3, rfl⟩, hf3, e3⟩
      walk_at "gg"
      rw [List.take_of_length_le (by rw [xs_len n1 n2]; decide)] at hf3
      exact hQ fd H3 hfd (Ex.skip (e1.tr e2) hfd e3) hf3
theorem one_init {H : Hp} {K : PySem.W.Frag} {x dx : Addr} (h : H x = some (.ins (He.ga K "Ratio") dx [("top", .int (1 : Nat)), ("bottom", .int (1 : Nat))])) : Rv K H x zr := ⟨zr_len, dx, by rw [zr_ng, zr_nu]; exact h⟩
theorem sc__law_ratio_of : FnScope ["_law_exps_z", "_law_found", "_law_prime_z", "_law_often"] ["_law_exps_z"] (defScope s__law_ratio_of) := ⟨rfl, rfl, rfl, by decide +kernel, rfl, by decide +kernel, by decide +kernel⟩
theorem ok__law_ratio_of (T : TT K mg) : FnOk P w K mg base CX0 5 (He.ga K "_law_ratio_of") (fdOf K ("_law_ratio_of", none)) ["_law_exps_z"] (spRatioOf K) := by
  obtain ⟨ds1, v1, b1⟩ := B_init1 T
  refine (F__law_ratio_of T).ok sc__law_ratio_of (fun vs H Q E h => ?_) (fun cdv A outer s H vs Q E hr h => ⟨_, PSs.nox ((pss_cons (ps_set (i := 1) sc__law_ratio_of.nd rfl (Or.inl rfl) (pe_makeE (T.mkr "Ratio" rfl) (ok_Ratio___init__ T) (hr.mono (by decide)) (by rfl) (T.glo "Ratio" rfl) b1 v1 pass0 (pa_cons pe_int pa_nil)))
  (pss_cons (ps_for PassesOwn.never rfl (RZ.pi_zipA (by rfl) (T.free "zip" rfl) (pa_cons (pe_call0 (ok__law_primes T) (hr.mono (by decide)) (by rfl) (T.glo "_law_primes" rfl) (F__law_primes T).kp (B__law_primes T) .nil pass0) (pa_cons (pv 0) pa_nil))) (pg_tup rfl (pgs_cons (pg_name (i := 2) sc__law_ratio_of.nd rfl (Or.inl rfl)) (pgs_cons (pg_name (i := 3) sc__law_ratio_of.nd rfl (Or.inl rfl)) pgs_nil))) (pss_one (ps_if (pt_cmpR op_ne (pv 3) pe_int (nomark _)) (pss_one (ps_set (i := 1) sc__law_ratio_of.nd rfl (Or.inl rfl) (pe_op (op_ownB (C := He.ga K "Ratio") (ok_Ratio___mul__ T) (hr.mono (by decide)) (m_6 T) (of_decide_eq_true (m_12 T)) (m_13 T) (B_Ratio___mul__ T) pass0) (pv 1) (pe_meth (pe_makeE (T.mkr "Ratio" rfl) (ok_Ratio___init__ T) (hr.mono (by decide)) (by rfl) (T.glo "Ratio" rfl) b1 v1 pass0 (pa_cons (pv 2) pa_nil)) (T.cls "Ratio" rfl) (T.meth "Ratio" "raised" rfl) (ok_Ratio_raised T) (hr.mono (by decide)) (B_Ratio_raised T) .nil pass0 (pa_cons (pv 3) pa_nil))))) pss_nil)))
  (pss_one (ps_ret (pv 1)))))), ?_⟩)
  · obtain ⟨l, e, rfl, _⟩ := h
    rfl
  · obtain ⟨l, e, rfl, hl, le, be, hQ⟩ := h
    walk_at "in"
    walk_at "gg"
    intro o dxo H1 ho e1 ho1
    refine ⟨o, dxo, 1, 1, 1, _, _, rfl, rfl, rfl, ho1, by decide, Nat.one_lt_two_pow (by decide), by decide, rfl, fun H2 e2 h2 => ⟨rfl, ?_⟩⟩
    have e02 : Ex [] H H2 := Ex.fresh e1 ho e2
    have hvo : Rv K H2 o zr := ⟨zr_len, by rw [zr_ng, zr_nu]; exact h2⟩
    walk_at "gg"
    refine ⟨rfl, fun pl H3 hpl e3 hp3 => ?_⟩
    have hl3 : SqL K H3 l (e.map V.int) := sql_ex (e02.tr e3) (by simp) hl
    walk_at "gg"
    refine for_it (walk_zip (xs := (prs.map fun p : Nat => (p : Int)).map V.int) (ys := e.map V.int) rfl) (fun i σ H' => (∃ r o1 o2, σ = [some (.ref l), some (.ref r), o1, o2] ∧ Rv K H' r (part i e)) ∧ Ex [] H3 H') ⟨⟨o, none, none, rfl, hvo.ex e3 (by simp)⟩, Ex.refl _⟩ ?_ ?_ ?_
    · rintro i σ H' _ ⟨_, e'⟩
      exact ⟨sql_ex e' (by simp) (sql_of hp3), sql_ex e' (by simp) hl3⟩
    · rintro i x σ H4 H5 hi ⟨⟨r, o1, o2, rfl, hvr⟩, e4⟩ ⟨t, y, z, rfl, ht, hH5, hy, hz⟩
      have e5 : Ex [] H4 H5 := by rw [hH5]; exact Ex.new ht
      have ht5 : H5 t = some (.tup [y, z]) := by rw [hH5]; exact upd_same
      clear hH5
      dsimp only at hy hz
      have hi18 : i < 18 := Nat.lt_of_lt_of_le hi (Nat.min_le_left ..)
      have hyp : y = .int (prs.getD i 0 : Nat) := by
        rw [List.getElem?_map, List.getElem?_map, prs_at hi18] at hy
        exact (Option.some.inj hy).symm
      have hzp : z = .int (gt0 e i) := by
        rw [List.getElem?_map, gt0_at (by omega)] at hz
        exact (Option.some.inj hz).symm
      subst hyp hzp
      walk_at "gg"
      by_cases h0 : gt0 e i = 0
      · refine x_iteF (by simp [h0]) ?_
        walk_at "gg"
        exact ⟨⟨r, _, _, rfl, (part_same le hi18 h0 ▸ hvr).ex e5 (by simp)⟩, e4.tr e5⟩
      · refine x_iteT (by simp [h0]) ?_
        walk_at "gg"
        intro q dxq H6 hq e6 hq6
        obtain ⟨u1, u2⟩ := ut_nu i hi18
        refine ⟨q, dxq, 1, nu prs (ut i 1), nu prs (ng (ut i 1)), _, _, rfl, by rw [Nat.one_mul, u1], by rw [u2]; rfl, hq6, by decide, Nat.one_lt_two_pow (by decide), nu_pos prs_pc, nu_cop prs_pc, fun H7 e7 h7 => ⟨rfl, ?_⟩⟩
        have e57 : Ex [] H5 H7 := Ex.fresh e6 hq e7
        have hvq : Rv K H7 q (ut i 1) := ⟨ut_len, h7⟩
        obtain ⟨_, dxq7, hq7⟩ := id hvq
        have bu : Bd 1 (ut i 1) := fun x hx => by
          unfold ut at hx
          rcases List.mem_or_eq_of_mem_set hx with h | h
          · rw [List.eq_of_mem_replicate h]
            decide
          · rw [h]
            decide
        have bei := bd_at be (k := i) (by omega)
        walk_at "gg"
        refine ⟨q, ut i 1, gt0 e i, 1, rfl, hvq, bu, by omega, fun y H8 e8 hvy => ?_⟩
        rw [ut_sc] at hvy
        have hvr8 := ((hvr.ex e5 (by simp)).ex e57 (by simp)).ex e8 (by simp)
        obtain ⟨_, dxr, hr8⟩ := id hvr8
        obtain ⟨_, dxy, hy8⟩ := id hvy
        have bp : Bd 600 (part i e) := fun x hx => by
          obtain ⟨k, hk, hx⟩ := List.mem_iff_getElem.mp hx
          have hk18 : k < 18 := by rw [part_len le (by omega)] at hk; exact hk
          have h1 := part_at le (i := i) (by omega) hk18
          rw [List.getElem?_eq_getElem hk, hx] at h1
          have h2 := Option.some.inj h1
          have := bd_at be (k := k) (by omega)
          rw [h2]
          split <;> omega
        have bu2 : Bd 600 (ut i (gt0 e i)) := fun x hx => by
          unfold ut at hx
          rcases List.mem_or_eq_of_mem_set hx with h | h
          · rw [List.eq_of_mem_replicate h]
            omega
          · rw [h]
            exact bei
        refine x_own (K := K) hr8 hy8 ⟨r, y, _, _, rfl, hvr8, hvy, bp.le (by decide), bu2.le (by decide), fun k a b ha hb => ?_, fun x H9 e9 hv9 => ?_⟩
        · have hk18 : k < 18 := by
            have := (List.getElem?_eq_some_iff.mp ha).1
            rw [part_len le (by omega)] at this
            exact this
          rw [part_at le (by omega) hk18] at ha
          rw [ut_at hk18] at hb
          have a1 := Option.some.inj ha
          have b1 := Option.some.inj hb
          by_cases q : i = k
          · left
            rw [if_neg (by omega)] at a1
            omega
          · right
            rw [if_neg q] at b1
            omega
        · rw [part_succ le hi18] at hv9
          walk_at "gg"
          exact ⟨⟨x, _, _, rfl, hv9⟩, e4.tr (e5.tr (e57.tr (e8.tr e9)))⟩
    · rintro σ H4 ⟨⟨r, o1, o2, rfl, hvr⟩, e4⟩
      walk_at "gg"
      have hmin : min ((prs.map fun p : Nat => (p : Int)).map V.int).length (e.map V.int).length = 18 := by
        rw [List.length_map, List.length_map, List.length_map, le]
        rfl
      rw [hmin, part_18 le] at hvr
      exact hQ r H4 (e02.tr (e3.tr e4)) hvr
end
end BF
/-! ## what is due -/
namespace BF
open PySem PySem.Spec PyProof.Rows L2
def Due (H : Hp) (p : Addr) : Out → Prop
  | .ok t c => ∃ q, H p = some (.tup [.str "", .ref q]) ∧ H q = some (.tup [.int t, .int c])
  | .err i j => H p = some (.tup [.str "NoSpeed", prv i, prv j])
def spDue (K : PySem.W.Frag) : Sp := fun vs H Q _ => ∃ (la lb : Addr) (n m : Nat) (e f : List Int), vs = [.ref la, .int n, .ref lb, .int m] ∧ SqL K H la (e.map V.int) ∧ SqL K H lb (f.map V.int) ∧ e.length = 18 ∧ f.length = 18 ∧ Bd 41 e ∧ Bd 41 f ∧ 1 ≤ n ∧ n ≤ 64 ∧ 1 ≤ m ∧ m ≤ 64 ∧
  ∀ p H', Ex [] H H' → Due H' p (spd (sb e f) (sb (xs n) (xs m))) → Q (.ref p) H'
theorem dp_ints {K : PySem.W.Frag} {H : Hp} : ∀ ns : List Int, DpAll K H (ns.map V.int) (ns.map PyData.int)
  | [] => .nil
  | n :: ns => .cons (.int n) (dp_ints ns)
theorem eqv_nil (ns : List Int) : PyData.eqv (.list (ns.map PyData.int)) (.list []) = decide (ns = []) := by
  cases ns with
  | nil => rfl
  | cons a b => rfl
theorem x_eqNil {K : PySem.W.Frag} {H : Hp} {Q : VK} {a b : Addr} {ns : List Int} (h : SqL K H a (ns.map V.int)) (hb : SqL K H b []) (k : Q (.bl (decide (ns = []))) H) : rEqD K (.ref a) (.ref b) H Q :=
  ⟨_, _, .lst h (dp_ints ns), .lst hb .nil, PySem.W.ke_shaped_ints ns, PySem.W.ke_shaped_ints [], by rw [eqv_nil]; exact k⟩
theorem x_neNil {K : PySem.W.Frag} {H : Hp} {Q : VK} {a b : Addr} {ns : List Int} (h : SqL K H a (ns.map V.int)) (hb : SqL K H b []) (k : Q (.bl (!decide (ns = []))) H) : rNeD K (.ref a) (.ref b) H Q :=
  ⟨_, _, .lst h (dp_ints ns), .lst hb .nil, PySem.W.ke_shaped_ints ns, PySem.W.ke_shaped_ints [], by rw [eqv_nil]; exact k⟩
def fl (p : Nat → Bool) (n : Nat) : List Int := ((List.range n).filter p).map fun k : Nat => (k : Int)
theorem fl_yes {p : Nat → Bool} {n : Nat} (h : p n = true) : fl p (n + 1) = fl p n ++ [(n : Int)] := by
  unfold fl
  rw [List.range_succ, List.filter_append, List.map_append, List.filter_cons_of_pos h]
  rfl
theorem fl_no {p : Nat → Bool} {n : Nat} (h : ¬ p n = true) : fl p (n + 1) = fl p n := by
  unfold fl
  rw [List.range_succ, List.filter_append, List.map_append, List.filter_cons_of_neg h]
  exact List.append_nil _
theorem fl_find {p : Nat → Bool} {n : Nat} : (fl p n)[0]? = ((List.range n).find? p).map fun k : Nat => (k : Int) := by
  unfold fl
  rw [List.getElem?_map, ← List.head?_eq_getElem?, List.head?_filter]
theorem fl_nil {p : Nat → Bool} {n : Nat} : fl p n = [] ↔ (List.range n).find? p = none := by
  rw [← List.length_eq_zero_iff, ← Option.map_eq_none_iff (f := fun k : Nat => (k : Int)), ← fl_find, List.getElem?_eq_none_iff]
  omega
theorem fl_ne {l : List Int} {i : Nat} (h : fz l = some i) : ¬ fl (fun k => decide (gt0 l k ≠ 0)) 18 = [] := fun z => by
  have q : fz l = none := fl_nil.mp z
  rw [q] at h
  cases h
theorem fl_neB {u v : List Int} {i k : Nat} (h : fb u v i = some k) : ¬ fl (fun k => decide (gt0 u k * gt0 v i ≠ gt0 u i * gt0 v k)) 18 = [] := fun z => by
  have q : fb u v i = none := fl_nil.mp z
  rw [q] at h
  cases h
theorem take_snoc {l : List Int} {i : Nat} {x : Int} (h : l[i]? = some x) : (l.take (i + 1)).map V.int = (l.take i).map V.int ++ [.int x] := by
  rw [List.take_succ, h, List.map_append]
  rfl
theorem at_v {l : List Int} {i : Nat} (h : i < l.length) : atI (l.map V.int) ((0 : Int) + (i : Nat)) = some (.int (gt0 l i)) := by
  rw [Int.zero_add]
  exact atI_nat (by rw [List.getElem?_map, gt0_at h]; rfl)
theorem at_v' {l : List Int} {i : Nat} (h : i < l.length) : atI (l.map V.int) (i : Nat) = some (.int (gt0 l i)) := atI_nat (by rw [List.getElem?_map, gt0_at h]; rfl)
theorem at_fl {p : Nat → Bool} {n i : Nat} (h : (List.range n).find? p = some i) : atI ((fl p n).map V.int) 0 = some (.int (i : Nat)) := atI_nat (j := 0) (by rw [List.getElem?_map, fl_find, h]; rfl)
theorem at_pr {i : Nat} (h : i < 18) : atI ((prs.map fun p : Nat => (p : Int)).map V.int) (i : Nat) = some (prv i) := atI_nat (by rw [List.getElem?_map, List.getElem?_map, prs_at h]; rfl)
section
variable {P : Program} {w : World} {K : PySem.W.Frag} {mg : Str → Option Value} {base : Heap}
theorem sc__law_speed : FnScope ["_law_ea", "_law_na", "_law_eb", "_law_nb", "_law_u", "_law_v", "_law_split", "_law_bad", "_law_i", "_law_share", "_law_turn_z", "_law_x", "_law_y", "_law_k"] ["_law_ea", "_law_na", "_law_eb", "_law_nb"] (defScope s__law_speed) := ⟨rfl, rfl, rfl, by decide +kernel, rfl, by decide +kernel, by decide +kernel⟩
theorem ok__law_speed (T : TT K mg) : FnOk P w K mg base CX0 3 (He.ga K "_law_speed") (fdOf K ("_law_speed", none)) ["_law_ea", "_law_na", "_law_eb", "_law_nb"] (spDue K) := by
  refine (F__law_speed T).ok sc__law_speed (fun vs H Q E h => ?_) (fun cdv A outer s H vs Q E hr h => ⟨_, PSs.nox ((pss_cons (ps_asg (pe_tupE (pa_cons (pe_lc (own := [("_law_x", 11), ("_law_y", 12)]) (g := gTup K 2 (gCons (gName 11) (gCons (gName 12) gNil))) (tt := _) rfl sc__law_speed.nd (RZ.pi_zipA (by rfl) (T.free "zip" rfl) (pa_cons (pv 0) (pa_cons (pv 2) pa_nil))) (blkOk_by (N := ["_law_ea", "_law_na", "_law_eb", "_law_nb", "_law_u", "_law_v", "_law_split", "_law_bad", "_law_i", "_law_share", "_law_turn_z", "_law_x", "_law_y", "_law_k"]) (sc := defScope s__law_speed) (by decide +kernel)) (fun _ _ _ _ _ => (by exact (pg_tup rfl (pgs_cons (pg_name (i := 11) sc__law_speed.nd rfl (Or.inl rfl)) (pgs_cons (pg_name (i := 12) sc__law_speed.nd rfl (Or.inl rfl)) pgs_nil))))) (fun _ _ _ _ _ => pts_nil) (fun _ _ _ _ _ => (pe_op op_sub (pv 11) (pv 12)))) (pa_cons (pe_lc (own := [("_law_x", 11), ("_law_y", 12)]) (g := gTup K 2 (gCons (gName 11) (gCons (gName 12) gNil))) (tt := _) rfl sc__law_speed.nd (RZ.pi_zipA (by rfl) (T.free "zip" rfl) (pa_cons (pe_call (ok__law_exps T) (hr.mono (by decide)) (by rfl) (T.glo "_law_exps" rfl) (F__law_exps T).kp (B__law_exps T) .nil pass0 (pa_cons (pv 1) pa_nil)) (pa_cons (pe_call (ok__law_exps T) (hr.mono (by decide)) (by rfl) (T.glo "_law_exps" rfl) (F__law_exps T).kp (B__law_exps T) .nil pass0 (pa_cons (pv 3) pa_nil)) pa_nil))) (blkOk_by (N := ["_law_ea", "_law_na", "_law_eb", "_law_nb", "_law_u", "_law_v", "_law_split", "_law_bad", "_law_i", "_law_share", "_law_turn_z", "_law_x", "_law_y", "_law_k"]) (sc := defScope s__law_speed) (by decide +kernel)) (fun _ _ _ _ _ => (by exact (pg_tup rfl (pgs_cons (pg_name (i := 11) sc__law_speed.nd rfl (Or.inl rfl)) (pgs_cons (pg_name (i := 12) sc__law_speed.nd rfl (Or.inl rfl)) pgs_nil))))) (fun _ _ _ _ _ => pts_nil) (fun _ _ _ _ _ => (pe_op op_sub (pv 11) (pv 12)))) pa_nil))) (pg_tup rfl (pgs_cons (pg_name (i := 4) sc__law_speed.nd rfl (Or.inr rfl)) (pgs_cons (pg_name (i := 5) sc__law_speed.nd rfl (Or.inr rfl)) pgs_nil))))
  (pss_cons (ps_setLc (i := 6) (own := [("_law_k", 13)]) (g := gName 13) (tt := _) rfl sc__law_speed.nd rfl rfl (sw_true rfl rfl rfl (by decide +kernel)) (pi_range1 (by rfl) (T.free "range" rfl) (pa_cons pe_int pa_nil)) (blkOk_by (N := ["_law_ea", "_law_na", "_law_eb", "_law_nb", "_law_u", "_law_v", "_law_split", "_law_bad", "_law_i", "_law_share", "_law_turn_z", "_law_x", "_law_y", "_law_k"]) (sc := defScope s__law_speed) (by decide +kernel)) (fun _ _ _ _ _ => (pg_name (i := 13) sc__law_speed.nd rfl (Or.inl rfl))) (fun _ _ _ _ _ => (pts_one (pt_cmpR op_ne (pe_ix (ix_LTK K) (pv 5) (pv 13) (fun _ _ => rfl)) pe_int (nomark _)))) (fun _ _ _ _ _ => (pv 13)))
  (pss_cons (ps_if (pt_cmpR (op_eqDK K hr.units) (pv 6) (pe_lstE pa_nil) (nomark _)) (pss_cons (ps_setLc (i := 7) (own := [("_law_k", 13)]) (g := gName 13) (tt := _) rfl sc__law_speed.nd rfl rfl (sw_true rfl rfl rfl (by decide +kernel)) (pi_range1 (by rfl) (T.free "range" rfl) (pa_cons pe_int pa_nil)) (blkOk_by (N := ["_law_ea", "_law_na", "_law_eb", "_law_nb", "_law_u", "_law_v", "_law_split", "_law_bad", "_law_i", "_law_share", "_law_turn_z", "_law_x", "_law_y", "_law_k"]) (sc := defScope s__law_speed) (by decide +kernel)) (fun _ _ _ _ _ => (pg_name (i := 13) sc__law_speed.nd rfl (Or.inl rfl))) (fun _ _ _ _ _ => (pts_one (pt_cmpR op_ne (pe_ix (ix_LTK K) (pv 4) (pv 13) (fun _ _ => rfl)) pe_int (nomark _)))) (fun _ _ _ _ _ => (pv 13)))
  (pss_one (ps_ret (pe_ifExp (pt_cmpR (op_eqDK K hr.units) (pv 7) (pe_lstE pa_nil) (nomark _)) (pe_tupE (pa_cons pe_str (pa_cons (pe_tupE (pa_cons pe_int (pa_cons pe_int pa_nil))) pa_nil))) (pe_tupE (pa_cons pe_str (pa_cons (pe_ix (ix_LTK K) (pe_call0 (ok__law_primes T) (hr.mono (by decide)) (by rfl) (T.glo "_law_primes" rfl) (F__law_primes T).kp (B__law_primes T) .nil pass0) (pe_ix (ix_LTK K) (pv 7) pe_int (fun _ _ => rfl)) (fun _ _ => rfl)) (pa_cons (pe_ix (ix_LTK K) (pe_call0 (ok__law_primes T) (hr.mono (by decide)) (by rfl) (T.glo "_law_primes" rfl) (F__law_primes T).kp (B__law_primes T) .nil pass0) (pe_ix (ix_LTK K) (pv 7) pe_int (fun _ _ => rfl)) (fun _ _ => rfl)) pa_nil)))))))) pss_nil)
  (pss_cons (ps_set (i := 8) sc__law_speed.nd rfl (Or.inr rfl) (pe_ix (ix_LTK K) (pv 6) pe_int (fun _ _ => rfl)))
  (pss_cons (ps_setLc (i := 7) (own := [("_law_k", 13)]) (g := gName 13) (tt := _) rfl sc__law_speed.nd rfl rfl (sw_true rfl rfl rfl (by decide +kernel)) (pi_range1 (by rfl) (T.free "range" rfl) (pa_cons pe_int pa_nil)) (blkOk_by (N := ["_law_ea", "_law_na", "_law_eb", "_law_nb", "_law_u", "_law_v", "_law_split", "_law_bad", "_law_i", "_law_share", "_law_turn_z", "_law_x", "_law_y", "_law_k"]) (sc := defScope s__law_speed) (by decide +kernel)) (fun _ _ _ _ _ => (pg_name (i := 13) sc__law_speed.nd rfl (Or.inl rfl))) (fun _ _ _ _ _ => (pts_one (pt_cmpR op_ne (pe_op op_mulW (pe_ix (ix_LTK K) (pv 4) (pv 13) (fun _ _ => rfl)) (pe_ix (ix_LTK K) (pv 5) (pv 8) (fun _ _ => rfl))) (pe_op op_mulW (pe_ix (ix_LTK K) (pv 4) (pv 8) (fun _ _ => rfl)) (pe_ix (ix_LTK K) (pv 5) (pv 13) (fun _ _ => rfl))) (nomark _)))) (fun _ _ _ _ _ => (pv 13)))
  (pss_cons (ps_if (pt_cmpR (op_neDK K hr.units) (pv 7) (pe_lstE pa_nil) (nomark _)) (pss_one (ps_ret (pe_tupE (pa_cons pe_str (pa_cons (pe_ix (ix_LTK K) (pe_call0 (ok__law_primes T) (hr.mono (by decide)) (by rfl) (T.glo "_law_primes" rfl) (F__law_primes T).kp (B__law_primes T) .nil pass0) (pv 8) (fun _ _ => rfl)) (pa_cons (pe_ix (ix_LTK K) (pe_call0 (ok__law_primes T) (hr.mono (by decide)) (by rfl) (T.glo "_law_primes" rfl) (F__law_primes T).kp (B__law_primes T) .nil pass0) (pe_ix (ix_LTK K) (pv 7) pe_int (fun _ _ => rfl)) (fun _ _ => rfl)) pa_nil)))))) pss_nil)
  (pss_cons (ps_if (pt_cmpR op_eq (pe_ix (ix_LTK K) (pv 4) (pv 8) (fun _ _ => rfl)) pe_int (nomark _)) (pss_one (ps_ret (pe_tupE (pa_cons pe_str (pa_cons (pe_tupE (pa_cons pe_int (pa_cons pe_int pa_nil))) pa_nil))))) pss_nil)
  (pss_cons (ps_set (i := 9) sc__law_speed.nd rfl (Or.inl rfl) (pe_call (ok__law_gcd T) (hr.mono (by decide)) (by rfl) (T.glo "_law_gcd" rfl) (F__law_gcd T).kp (B__law_gcd T) .nil pass0 (pa_cons (pe_callB call_absX (by rfl) (T.free "abs" rfl) boot_abs (pa_cons (pe_ix (ix_LTK K) (pv 4) (pv 8) (fun _ _ => rfl)) pa_nil)) (pa_cons (pe_callB call_absX (by rfl) (T.free "abs" rfl) boot_abs (pa_cons (pe_ix (ix_LTK K) (pv 5) (pv 8) (fun _ _ => rfl)) pa_nil)) pa_nil))))
  (pss_cons (ps_set (i := 10) sc__law_speed.nd rfl (Or.inl rfl) (pe_ifExp (pt_cmpR op_gt (pe_ix (ix_LTK K) (pv 5) (pv 8) (fun _ _ => rfl)) pe_int (nomark _)) pe_int (pe_un un_neg pe_int)))
  (pss_one (ps_ret (pe_tupE (pa_cons pe_str (pa_cons (pe_tupE (pa_cons (pe_op op_fdivW (pe_callB call_absX (by rfl) (T.free "abs" rfl) boot_abs (pa_cons (pe_ix (ix_LTK K) (pv 5) (pv 8) (fun _ _ => rfl)) pa_nil)) (pv 9)) (pa_cons (pe_op op_fdivW (pe_op op_mulW (pe_ix (ix_LTK K) (pv 4) (pv 8) (fun _ _ => rfl)) (pv 10)) (pv 9)) pa_nil))) pa_nil))))))))))))))), ?_⟩)
  · obtain ⟨la, lb, n, m, e, f, rfl, _⟩ := h
    rfl
  · obtain ⟨la, lb, n, m, e, f, rfl, hla, hlb, le, lf, be, bf, n1, n2, m1, m2, hQ⟩ := h
    walk_at "in"
    walk_at "gg"
    refine x_lcW (walk_zip (xs := e.map V.int) (ys := f.map V.int) rfl) [] (fun i acc H => acc = ((sb e f).take i).map V.int) (fun _ _ _ => rfl) (fun H' e => ⟨by walk_at "lk", by walk_at "lk"⟩) ?_ ?_
    · rintro D i x H1 H2 acc hD hi hacc hl' e1 r ⟨t, y, z, rfl, ht, hH2, hy, hz⟩
      have e3 : Ex [] H1 H2 := by rw [hH2]; exact Ex.new ht
      have ht3 : H2 t = some (.tup [y, z]) := by rw [hH2]; exact upd_same
      clear hH2
      dsimp only at hy hz
      have hi18 : i < 18 := by rw [List.length_map, List.length_map, le, lf] at hi; exact hi
      rw [List.getElem?_map, gt0_at (by omega)] at hy hz
      cases Option.some.inj hy
      cases Option.some.inj hz
      dsimp only [wipe, List.set]
      walk_at "gg"
      refine ⟨rfl, ?_⟩
      walk_at "gg"
      have hsb : (sb e f)[i]? = some (gt0 e i - gt0 f i) := by rw [gt0_at (by rw [sb_len le lf]; exact hi18), gt0_sb le lf hi18]
      exact lc_push Al.nil (fun _ _ _ _ r => r) hD (by omega) hacc hl' e1 (by walk_at "ex") (by rw [take_snoc hsb, r])
    rintro D1 H1 acc hD1 hacc1 hl1 e1 rfl
    rw [List.length_map, List.length_map, le, lf, List.take_of_length_le (by rw [sb_len le lf]; decide)] at hacc1
    clear hl1
    walk_at "gg"
    refine ⟨n, rfl, n1, n2, fun xa H2 hxa e2 hx2 => ?_⟩
    walk_at "gg"
    refine ⟨m, rfl, m1, m2, fun xb H3 hxb e3 hx3 => ?_⟩
    have hx2' : SqL K H3 xa ((xs n).map V.int) := sql_of (e3 _ _ (by simp) hx2)
    have hx3' : SqL K H3 xb ((xs m).map V.int) := sql_of hx3
    have hU3 : H3 D1 = some (.lst ((sb e f).map V.int)) := e3 _ _ (by simp) (e2 _ _ (by simp) hacc1)
    have l1 := xs_len n1 n2
    have l2 := xs_len m1 m2
    walk_at "gg"
    refine x_lcW (walk_zip (xs := (xs n).map V.int) (ys := (xs m).map V.int) rfl) [] (fun i acc H => acc = ((sb (xs n) (xs m)).take i).map V.int) (fun _ _ _ => rfl) (fun H' e => ⟨by walk_at "lk", by walk_at "lk"⟩) ?_ ?_
    · rintro D i x H4 H5 acc hD hi hacc hl' e4 r ⟨t, y, z, rfl, ht, hH2, hy, hz⟩
      have e5 : Ex [] H4 H5 := by rw [hH2]; exact Ex.new ht
      have ht3 : H5 t = some (.tup [y, z]) := by rw [hH2]; exact upd_same
      clear hH2
      dsimp only at hy hz
      have hi18 : i < 18 := by rw [List.length_map, List.length_map, l1, l2] at hi; exact hi
      rw [List.getElem?_map, gt0_at (by omega)] at hy hz
      cases Option.some.inj hy
      cases Option.some.inj hz
      dsimp only [wipe, List.set]
      walk_at "gg"
      refine ⟨rfl, ?_⟩
      walk_at "gg"
      have hsb : (sb (xs n) (xs m))[i]? = some (gt0 (xs n) i - gt0 (xs m) i) := by rw [gt0_at (by rw [sb_len l1 l2]; exact hi18), gt0_sb l1 l2 hi18]
      exact lc_push Al.nil (fun _ _ _ _ r => r) hD (by omega) hacc hl' e4 (by walk_at "ex") (by rw [take_snoc hsb, r])
    rintro D2 H4 acc hD2 hacc2 hl2 e4 rfl
    rw [List.length_map, List.length_map, l1, l2, List.take_of_length_le (by rw [sb_len l1 l2]; decide)] at hacc2
    clear hl2
    have lu : (sb e f).length = 18 := sb_len le lf
    have lv : (sb (xs n) (xs m)).length = 18 := sb_len l1 l2
    have bu : ∀ k, k < 18 → -82 ≤ gt0 (sb e f) k ∧ gt0 (sb e f) k ≤ 82 := fun k hk => by
      rw [gt0_sb le lf hk]
      have := bd_at be (k := k) (by omega)
      have := bd_at bf (k := k) (by omega)
      omega
    have bv : ∀ k, k < 18 → -6 ≤ gt0 (sb (xs n) (xs m)) k ∧ gt0 (sb (xs n) (xs m)) k ≤ 6 := fun k hk => by
      rw [gt0_sb l1 l2 hk]
      have := xs_bd n1 n2 _ (List.mem_of_getElem? (gt0_at (l := xs n) (k := k) (by rw [l1]; exact hk)))
      have := xs_bd m1 m2 _ (List.mem_of_getElem? (gt0_at (l := xs m) (k := k) (by rw [l2]; exact hk)))
      omega
    have e04 : Ex [] H H4 := by walk_at "ex"
    have hU : H4 D1 = some (.lst ((sb e f).map V.int)) := e4 _ _ (by simp) hU3
    clear hU3 hx2' hx3' hx2 hx3 hacc1
    generalize sb (xs n) (xs m) = v at *
    generalize sb e f = u at *
    walk_at "gg"
    rename_i tp H5 htp e5 ht5
    have hU5 : H5 D1 = some (.lst (u.map V.int)) := e5 _ _ (by simp) hU
    have hV5 : H5 D2 = some (.lst (v.map V.int)) := e5 _ _ (by simp) hacc2
    have e05 : Ex [] H H5 := e04.tr e5
    clear ht5 htp
    refine x_lcW walk_range [] (fun i acc H => acc = (fl (fun k => decide (gt0 v k ≠ 0)) i).map V.int) (fun _ _ _ => rfl) (fun _ _ => trivial) ?_ ?_
    · rintro D i x H6 H7 acc hD hi hacc hl' e6 r ⟨rfl, rfl⟩
      have hi18 : i < 18 := hi
      dsimp only [wipe, List.set]
      walk_at "gg"
      refine ⟨rfl, ?_⟩
      walk_at "gg"
      refine x_ixL (by walk_at "lk") (at_v (by omega)) ?_
      walk_at "gg"
      by_cases hq : gt0 v i = 0
      · rw [if_neg (by simp [hq])]
        exact lc_skip Al.nil hD hacc hl' e6 (by walk_at "ex") (by rw [r, fl_no (by simp [hq])])
      · rw [if_pos (by simp [hq])]
        walk_at "gg"
        exact lc_push Al.nil (fun _ _ _ _ r => r) hD (by omega) hacc hl' e6 (by walk_at "ex") (by rw [r, fl_yes (by simp [hq]), List.map_append, Int.zero_add]; rfl)
    rintro D3 H6 acc hD3 hacc3 hl3 e6 rfl
    clear hl3
    have hU6 : H6 D1 = some (.lst (u.map V.int)) := e6 _ _ (by simp) hU5
    have hV6 : H6 D2 = some (.lst (v.map V.int)) := e6 _ _ (by simp) hV5
    have e06 : Ex [] H H6 := e05.tr e6
    have hacc3 : H6 D3 = some (.lst ((fl (fun k => decide (gt0 v k ≠ 0)) 18).map V.int)) := hacc3
    walk_at "gg"
    refine x_eqNil (ns := fl (fun k => decide (gt0 v k ≠ 0)) 18) (by walk_at "lk") (by walk_at "lk") ?_
    cases hf : fz v with
    | none =>
      rw [decide_eq_true (fl_nil.mpr hf)]
      walk_at "gg"
      rename_i pl H7 hpl e7 h7
      clear hpl h7
      have hU7 : H7 D1 = some (.lst (u.map V.int)) := e7 _ _ (by simp) hU6
      refine x_lcW walk_range [] (fun i acc H => acc = (fl (fun k => decide (gt0 u k ≠ 0)) i).map V.int) (fun _ _ _ => rfl) (fun _ _ => trivial) ?_ ?_
      · rintro D i x H8 H9 acc hD hi hacc hl' e8 r ⟨rfl, rfl⟩
        have hi18 : i < 18 := hi
        dsimp only [wipe, List.set]
        walk_at "gg"
        refine ⟨rfl, ?_⟩
        walk_at "gg"
        refine x_ixL (by walk_at "lk") (at_v (by omega)) ?_
        walk_at "gg"
        by_cases hq : gt0 u i = 0
        · rw [if_neg (by simp [hq])]
          exact lc_skip Al.nil hD hacc hl' e8 (by walk_at "ex") (by rw [r, fl_no (by simp [hq])])
        · rw [if_pos (by simp [hq])]
          walk_at "gg"
          exact lc_push Al.nil (fun _ _ _ _ r => r) hD (by omega) hacc hl' e8 (by walk_at "ex") (by rw [r, fl_yes (by simp [hq]), List.map_append, Int.zero_add]; rfl)
      rintro D4 H8 acc hD4 hacc4 hl4 e8 rfl
      clear hl4
      have hacc4 : H8 D4 = some (.lst ((fl (fun k => decide (gt0 u k ≠ 0)) 18).map V.int)) := hacc4
      have e08 : Ex [] H H8 := e06.tr (e7.tr e8)
      walk_at "gg"
      refine x_eqNil (ns := fl (fun k => decide (gt0 u k ≠ 0)) 18) (by walk_at "lk") (by walk_at "lk") ?_
      cases hg : fz u with
      | none =>
        rw [decide_eq_true (fl_nil.mpr hg)]
        have ho : spd u v = .ok 1 0 := spd_zero fun k hk => Decidable.not_not.mp (of_decide_eq_false (find_none.mp hg k hk))
        walk_at "gg"
        refine hQ _ _ (by walk_at "ex") ?_
        rw [ho]
        exact ⟨_, by assumption, by walk_at "lk1"⟩
      | some j =>
        have hj := (some_find hg).1
        rw [decide_eq_false (fl_ne hg)]
        walk_at "gg"
        refine ⟨rfl, fun p1 H9 _ e9 h9 => ?_⟩
        walk_at "gg"
        refine x_ixL (by walk_at "lk") (at_fl hg) ?_
        refine x_ixL (by walk_at "lk") (at_pr hj) ?_
        walk_at "gg"
        refine ⟨rfl, fun p2 H10 _ e10 h10 => ?_⟩
        walk_at "gg"
        refine x_ixL (by walk_at "lk") (at_fl hg) ?_
        refine x_ixL (by walk_at "lk") (at_pr hj) ?_
        walk_at "gg"
        refine hQ _ _ (by walk_at "ex") ?_
        rw [spd_none hf hg]
        assumption
    | some i =>
      have hi := some_find hf
      have vi := bv i hi.1
      have ui := bu i hi.1
      rw [decide_eq_false (fl_ne hf)]
      walk_at "gg"
      refine x_ixL (by walk_at "lk") (at_fl hf) ?_
      walk_at "gg"
      rename_i pl H7 hpl e7 h7
      clear hpl h7
      have hU7 : H7 D1 = some (.lst (u.map V.int)) := e7 _ _ (by simp) hU6
      have hV7 : H7 D2 = some (.lst (v.map V.int)) := e7 _ _ (by simp) hV6
      refine x_lcW walk_range [] (fun k acc H => acc = (fl (fun k => decide (gt0 u k * gt0 v i ≠ gt0 u i * gt0 v k)) k).map V.int) (fun _ _ _ => rfl) (fun _ _ => trivial) ?_ ?_
      · rintro D k x H8 H9 acc hD hk hacc hl' e8 r ⟨rfl, rfl⟩
        have hk18 : k < 18 := hk
        have vk := bv k hk18
        have uk := bu k hk18
        dsimp only [wipe, List.set]
        walk_at "gg"
        refine ⟨rfl, ?_⟩
        walk_at "gg"
        refine x_ixL (by walk_at "lk") (at_v (by omega)) ?_
        walk_at "gg"
        refine x_ixL (by walk_at "lk") (at_v' (by omega)) ?_
        walk_at "gg"
        refine x_ixL (by walk_at "lk") (at_v' (by omega)) ?_
        walk_at "gg"
        refine x_ixL (by walk_at "lk") (at_v (by omega)) ?_
        walk_at "gg"
        by_cases hq : gt0 u k * gt0 v i = gt0 u i * gt0 v k
        · rw [if_neg (by simp [hq])]
          exact lc_skip Al.nil hD hacc hl' e8 (by walk_at "ex") (by rw [r, fl_no (by simp [hq])])
        · rw [if_pos (by simp [hq])]
          walk_at "gg"
          exact lc_push Al.nil (fun _ _ _ _ r => r) hD (by omega) hacc hl' e8 (by walk_at "ex") (by rw [r, fl_yes (by simp [hq]), List.map_append, Int.zero_add]; rfl)
      rintro D4 H8 acc hD4 hacc4 hl4 e8 rfl
      clear hl4
      have hacc4 : H8 D4 = some (.lst ((fl (fun k => decide (gt0 u k * gt0 v i ≠ gt0 u i * gt0 v k)) 18).map V.int)) := hacc4
      have e08 : Ex [] H H8 := e06.tr (e7.tr e8)
      have hU8 : H8 D1 = some (.lst (u.map V.int)) := e8 _ _ (by simp) hU7
      have hV8 : H8 D2 = some (.lst (v.map V.int)) := e8 _ _ (by simp) hV7
      walk_at "gg"
      refine x_neNil (ns := fl (fun k => decide (gt0 u k * gt0 v i ≠ gt0 u i * gt0 v k)) 18) (by walk_at "lk") (by walk_at "lk") ?_
      cases hg : fb u v i with
      | some k =>
        have hk := (some_find hg).1
        rw [decide_eq_false (fl_neB hg)]
        walk_at "gg"
        refine ⟨rfl, fun p1 H9 _ e9 h9 => ?_⟩
        walk_at "gg"
        refine x_ixL (by walk_at "lk") (at_pr hi.1) ?_
        walk_at "gg"
        refine ⟨rfl, fun p2 H10 _ e10 h10 => ?_⟩
        walk_at "gg"
        refine x_ixL (by walk_at "lk") (at_fl hg) ?_
        refine x_ixL (by walk_at "lk") (at_pr hk) ?_
        walk_at "gg"
        refine hQ _ _ (by walk_at "ex") ?_
        rw [spd_bad hf hg]
        assumption
      | none =>
        rw [decide_eq_true (fl_nil.mpr hg)]
        walk_at "gg"
        refine x_ixL (by walk_at "lk") (at_v' (by omega)) ?_
        walk_at "gg"
        have hs : spd u v = if gt0 u i = 0 then .ok 1 0 else .ok (((gt0 v i).natAbs : Int) / (Nat.gcd (gt0 u i).natAbs (gt0 v i).natAbs : Nat)) (gt0 u i * sgn (gt0 v i) / (Nat.gcd (gt0 u i).natAbs (gt0 v i).natAbs : Nat)) := by
          unfold spd
          rw [hf]
          simp only [hg]
        refine x_ite (fun h0 => ?_) (fun h0 => ?_)
        · walk_at "gg"
          refine hQ _ _ (by walk_at "ex") ?_
          rw [hs, if_pos h0]
          exact ⟨_, by assumption, by walk_at "lk1"⟩
        · rw [if_neg h0] at hs
          walk_at "gg"
          refine x_ixL (by walk_at "lk") (at_v' (by omega)) ?_
          walk_at "gg"
          refine x_ixL (by walk_at "lk") (at_v' (by omega)) ?_
          walk_at "gg"
          refine ⟨_, _, rfl, by omega, ?_⟩
          have vne : gt0 v i ≠ 0 := of_decide_eq_true hi.2.1
          have g0 := gcd_ne (a := gt0 u i) vne
          have g1 : Nat.gcd (gt0 u i).natAbs (gt0 v i).natAbs ≤ 6 := Nat.le_trans (Nat.gcd_le_right _ (by omega)) (by omega)
          generalize Nat.gcd (gt0 u i).natAbs (gt0 v i).natAbs = g at *
          walk_at "gg"
          refine x_ixL (by walk_at "lk") (at_v' (by omega)) ?_
          walk_at "gg"
          refine x_ite (fun hs0 => ?_) (fun hs0 => ?_)
          · rw [show sgn (gt0 v i) = 1 from if_pos hs0] at hs
            walk_at "gg"
            refine x_ixL (by walk_at "lk") (at_v' (by omega)) ?_
            walk_at "gg"
            refine x_ixL (by walk_at "lk") (at_v' (by omega)) ?_
            walk_at "gg"
            refine hQ _ _ (by walk_at "ex") ?_
            rw [hs]
            exact ⟨_, by assumption, by walk_at "lk1"⟩
          · rw [show sgn (gt0 v i) = -1 from if_neg hs0] at hs
            walk_at "gg"
            refine x_ixL (by walk_at "lk") (at_v' (by omega)) ?_
            walk_at "gg"
            refine x_ixL (by walk_at "lk") (at_v' (by omega)) ?_
            walk_at "gg"
            refine hQ _ _ (by walk_at "ex") ?_
            rw [hs]
            exact ⟨_, by assumption, by walk_at "lk1"⟩
end
end BF
/-! ## the try around what is asked -/
namespace BF
open PySem PySem.Spec PyProof.Rows L2
theorem takes_len {X : Cx} {W : WX} {n : Nat} (tk : Takes X W) (hn : X.N.length = n) : Takes X (fun cls d σ H => σ.length = n → W cls d σ H) := fun u s' ⟨a, B, sI, pins, σ, H, cls, d, e, I, nb, up, sky, na, os, ag, w⟩ =>
  tk u s' ⟨a, B, sI, pins, σ, H, cls, d, e, I, nb, up, sky, na, os, ag, w (I.len.trans hn)⟩
def tQ (Q : VK) : VK := fun y H1 => [V.str "", y].length ≤ 1000000 ∧ ∀ p H2, H1 p = none → Ex [] H1 H2 → H2 p = some (.tup [.str "", y]) → Q (.ref p) H2
def TryX (K : PySem.W.Frag) (cls : Value) (d : Option Addr) (H' : Hp) (Q : VK) : Prop :=
  (∃ dd v, cls = .ref (He.ga K "InvalidNumber") ∧ d = some dd ∧ H' dd = some (.xd (fsN [v])) ∧ ∀ p H2, Ex [] H' H2 → H2 p = some (.tup [.str "InvalidNumber", v]) → Q (.ref p) H2) ∨
  (∃ dd v u, cls = .ref (He.ga K "NoSpeed") ∧ d = some dd ∧ H' dd = some (.xd (fsS [v, u])) ∧ ∀ p H2, Ex [] H' H2 → H2 p = some (.tup [.str "NoSpeed", v, u]) → Q (.ref p) H2)
/-- what _law_try makes of the reading of what is asked -/
def TTt (K : PySem.W.Frag) : (XK → Hp → VK → Prop) → Hp → VK → Prop := fun tl H Q => tl (fun cls d H' => TryX K cls d H' Q) H (tQ Q)
theorem sc__law_try : FnScope ["_law_ask", "e"] ["_law_ask"] (defScope s__law_try) := ⟨rfl, rfl, rfl, by decide +kernel, rfl, by decide +kernel, by decide +kernel⟩
theorem try_gives {X : Cx} (T : TT X.K X.mg) {g : Addr} {cdg : Value} {q : Str} : LamX.GivesTo X ["_law_ask", "e"] "_law_try" (defScope s__law_try) g cdg (defBody s__law_try) "_law_ask" q (TTt X.K) := by
  intro f c' s H Q tl act hc h
  have n1 := (ExcD.to (m_0 T)).2 "value" (by decide)
  have n2 := (ExcD.to (m_2 T)).2 "prime" (by decide)
  have n3 := (ExcD.to (m_2 T)).2 "other" (by decide)
  refine ⟨_, pss_one (ps_try_as2 (X := (cxOf C8.CX0 X.prog X.w X.K X.mg X.base ["_law_ask", "e"] "_law_try" (defScope s__law_try) g cdg X.A X.stack s H C8.E0).nox) (i := 1) (c := .ref (He.ga X.K "InvalidNumber")) (c' := .ref (He.ga X.K "NoSpeed"))
    (tb := fun W D σ H => ∃ Ech : XK, (∀ cls d σ' H', Ech cls d H' → σ'.length = 2 → W cls d σ' H') ∧ σ[0]? = some (some (.ref f)) ∧ H c' = some (LamX.CodeO c' q) ∧ tl Ech H (tQ D.rt))
    rfl rfl sc__law_try.nd rfl rfl ⟨by rfl, by decide, .inl (T.glo "InvalidNumber" rfl)⟩ ⟨by rfl, by decide, .inl (T.glo "NoSpeed" rfl)⟩ (fun W pn xe tk _ => ?_)
    (fun a oe cls d pn hz hf => pss_one (ps_ret (pe_tupE (pa_cons pe_str (pa_cons (pe_xf (xN T).xf n1 hz hf (pv 1)) pa_nil)))))
    (fun a oe cls d pn hz hf => pss_one (ps_ret (pe_tupE (pa_cons pe_str (pa_cons (pe_xf (xS T).xf n2 hz hf (pv 1)) (pa_cons (pe_xf (xS T).xf n3 hz hf (pv 1)) pa_nil))))))), ?_⟩
  · refine ⟨fun pins s' σ H' D I h' => ?_⟩
    obtain ⟨Ech, hW, h1, h2, h3⟩ := h'
    have hp := fun p1 p2 => act (fun cls d σ H => σ.length = 2 → W cls d σ H) pn xe Ech p1 p2 (takes_len tk rfl) (fun cls d σ' H' h l => hW cls d σ' H' h l)
    exact (pss_one (ps_ret (pe_tupE (pa_cons pe_str (pa_cons (hp _ _) pa_nil))))).run pins s' σ H' D I ⟨h1, h2, h3⟩
  · refine ⟨fun cls d H' => TryX X.K cls d H' Q, ?_, rfl, hc, h⟩
    rintro cls d σ' H' hx hl
    match σ', hl with
    | [x, y], _ =>
      rcases hx with ⟨dd, v, rfl, rfl, hd, k⟩ | ⟨dd, v, u, rfl, rfl, hd, k⟩
      · refine ⟨true, T.exm "InvalidNumber" "InvalidNumber" true rfl, fun _ a ha => ?_, nofun⟩
        refine ⟨_, rfl, rfl, rfl, dd, fsN [v], v, rfl, hd, rfl, ?_⟩
        exact ⟨by simp, fun p H2 _ e hp => k p H2 e hp⟩
      · refine ⟨false, T.exm "NoSpeed" "InvalidNumber" false rfl, nofun, fun _ => ⟨T.exm "NoSpeed" "NoSpeed" true rfl, fun a ha => ?_⟩⟩
        refine ⟨_, rfl, rfl, rfl, dd, fsS [v, u], v, rfl, hd, rfl, ?_⟩
        refine ⟨_, rfl, rfl, rfl, dd, fsS [v, u], u, rfl, hd, rfl, ?_⟩
        exact ⟨by simp, fun p H2 _ e hp => k p H2 e hp⟩
/-- THE RULE for a def that makes lambdas: its code object is told -/
theorem okL {P : Program} {w : World} {K : PySem.W.Frag} {mg : Str → Option Value} {base : Heap} {x qual : Str} {params : Arguments} {body : List Stmt} {scope : Scope} {dvs : List V} {kws : List (Str × V)} {p : He.Defn} {fd : FuncData} {CX : CXT} {N ps : List Str} {k : Nat} {sp : Sp}
    (F : FunD K x qual params body scope dvs kws (He.fAd K p) fd) (S : FnScope N ps scope) (len : ∀ vs H Q E, sp vs H Q E → vs.length = ps.length)
    (hbody : ∀ (A : Around) (outer : List Env) (s : Shared) (H : Hp) (vs : List V) (Q : VK) (E : XK), Room k (A.deeper (envOfC qual scope s.heap.objs.size (He.fAd K p) (.ref (He.cT K p).1))) → sp vs H Q E →
      ∃ t, PSs (cxOf CX P w K mg base N qual scope (He.fAd K p) (.ref (He.cT K p).1) A outer s H E) body t ∧ t { nx := fun _ H' => Q .non H', rt := Q } (L2.start N vs) H) : FnOk P w K mg base CX (k + 1) (He.fAd K p) fd ps sp := by
  obtain ⟨oc, od, dV, kV, doc, pm, an, cdv, ct, osl, rfl, lk, hcd, _, _⟩ := F.ex
  obtain ⟨c, rfl⟩ := He.codeIn_ref hcd
  have e : He.codeOf K p = c := He.codeOf_eq lk rfl
  refine fn_of lk hcd S len fun A outer s H vs Q E hr hsp => ?_
  have h := hbody A outer s H vs Q E
  rw [show (He.cT K p).1 = c from e] at h
  exact h hr hsp
end BF
/-! ## what is drawn -/
namespace BF
open PySem PySem.Spec PyProof.Rows L2
theorem Bag.mono {K : PySem.W.Frag} {b sc : Addr} {ns : List Int} {H : Hp} {n m : Int} (h : Bag K b sc ns H n) (l : n ≤ m) : Bag K b sc ns H m := by
  obtain ⟨s, ne, i, r, m', c, hb, q1, q2, q3, q4, q5, q6⟩ := h
  exact ⟨s, ne, i, r, m', c, hb, q1, q2, q3, q4, q5, Int.le_trans q6 l⟩
theorem Bag.al {K : PySem.W.Frag} {b sc : Addr} {ns : List Int} {H : Hp} {n : Int} (h : Bag K b sc ns H n) : Al [b] H := by
  obtain ⟨s, ne, i, r, m', c, hb, _⟩ := h
  exact Al.cons hb Al.nil
theorem Bag.out {K : PySem.W.Frag} {b sc : Addr} {ns : List Int} {H : Hp} {n : Int} {p : Addr} (h : Bag K b sc ns H n) (q : H p = none) : p ≠ b := fun z => by
  obtain ⟨s, ne, i, r, m', c, hb, _⟩ := h
  rw [z, hb] at q
  cases q
theorem Bag.outS {K : PySem.W.Frag} {b sc : Addr} {ns : List Int} {H : Hp} {n : Int} {p : Addr} (h : Bag K b sc ns H n) (q : H p = none) : p ≠ sc := fun z => by
  have s := h.scr
  rw [← z, q] at s
  cases s
def IR (lo hi : Int) (xs : List V) : Prop := ∀ v ∈ xs, ∃ s : Int, v = .int s ∧ lo ≤ s ∧ s ≤ hi
theorem IR.nil {lo hi : Int} : IR lo hi [] := fun _ h => nomatch h
theorem IR.cons {lo hi s : Int} {xs : List V} (h1 : lo ≤ s) (h2 : s ≤ hi) (k : IR lo hi xs) : IR lo hi (.int s :: xs) := fun v hv => by
  rcases List.mem_cons.mp hv with rfl | hv
  · exact ⟨s, rfl, h1, h2⟩
  · exact k v hv
theorem IR.get {lo hi : Int} {xs : List V} {i : Nat} {v : V} (h : IR lo hi xs) (e : xs[i]? = some v) : ∃ s : Int, v = .int s ∧ lo ≤ s ∧ s ≤ hi := h v (List.mem_of_getElem? e)
theorem fl_mem {p : Nat → Bool} {n i : Nat} {v : V} (h : ((fl p n).map V.int)[i]? = some v) : ∃ k : Nat, v = .int k ∧ k < n ∧ p k = true := by
  obtain ⟨z, hz, rfl⟩ := List.mem_map.mp (List.mem_of_getElem? h)
  obtain ⟨k, hk, rfl⟩ := List.mem_map.mp hz
  rw [List.mem_filter, List.mem_range] at hk
  exact ⟨k, rfl, hk.1, hk.2⟩
theorem fl_pos {p : Nat → Bool} {n k : Nat} (h1 : k < n) (h2 : p k = true) : 0 < ((fl p n).map V.int).length := by
  unfold fl
  rw [List.length_map, List.length_map]
  exact List.length_pos_of_mem (List.mem_filter.mpr ⟨List.mem_range.mpr h1, h2⟩)
theorem fl_len {p : Nat → Bool} {n : Nat} : ((fl p n).map V.int).length ≤ n := by
  unfold fl
  rw [List.length_map, List.length_map]
  exact Nat.le_trans (List.length_filter_le ..) (by rw [List.length_range]; exact Nat.le_refl _)
def spTwo (K : PySem.W.Frag) : Sp := fun vs H Q _ => ∃ (b sc : Addr) (ns : List Int) (n : Int), vs = [.ref b] ∧ Bag K b sc ns H n ∧ n ≤ 900000 ∧
  ∀ (p : Addr) (x y : Nat) (H' : Hp), 1 ≤ x → x ≤ 64 → 1 ≤ y → y ≤ 64 → Ex [b] H H' → Bag K b sc ns H' (n + 100) → H' p = some (.tup [.int x, .int y]) → Q (.ref p) H'
def spSmall (K : PySem.W.Frag) : Sp := fun vs H Q _ => ∃ (b sc : Addr) (ns : List Int) (n : Int), vs = [.ref b] ∧ Bag K b sc ns H n ∧ n ≤ 900000 ∧
  ∀ (p : Addr) (e : List Int) (H' : Hp), e.length = 18 → Bd 3 e → H p = none → Ex [b] H H' → Bag K b sc ns H' (n + 100) → H' p = some (.lst (e.map V.int)) → Q (.ref p) H'
def spTurned : Sp := fun vs H Q _ => ∃ (p : Addr) (o : Out), vs = [.ref p] ∧ Due H p o ∧ ∀ q H', Ex [] H H' → Due H' q (turned o) → Q (.ref q) H'
section
variable {P : Program} {w : World} {K : PySem.W.Frag} {mg : Str → Option Value} {base : Heap}
theorem ok__law_same (T : TT K mg) : ∀ n, FnOk P w K mg base CX0 (n + 1) (He.ga K "_law_same") (fdOf K ("_law_same", none)) ["_law_found", "_law_due"] (spSame K n)
  | 0 => same_step T (sp' := fun _ _ _ _ => False) fnOk_false nofun
  | n + 1 => same_step T (ok__law_same T n) fun m e => by cases e; rfl
theorem sc__law_turned : FnScope ["_law_due"] ["_law_due"] (defScope s__law_turned) := ⟨rfl, rfl, rfl, by decide +kernel, rfl, by decide +kernel, by decide +kernel⟩
theorem ok__law_turned (T : TT K mg) : FnOk P w K mg base CX0 1 (He.ga K "_law_turned") (fdOf K ("_law_turned", none)) ["_law_due"] spTurned := by
  refine (F__law_turned T).ok sc__law_turned (fun vs H Q E h => ?_) (fun cdv A outer s H vs Q E hr h => ⟨_, PSs.nox ((pss_one (ps_ret (pe_ifExp (pt_cmpR op_eq (pe_ix (ix_LTK K) (pv 0) pe_int (fun _ _ => rfl)) pe_str (nomark _)) (pe_tupE (pa_cons pe_str (pa_cons (pe_tupE (pa_cons (pe_ix (ix_LTK K) (pe_ix (ix_LTK K) (pv 0) pe_int (fun _ _ => rfl)) pe_int (fun _ _ => rfl)) (pa_cons (pe_un un_neg (pe_ix (ix_LTK K) (pe_ix (ix_LTK K) (pv 0) pe_int (fun _ _ => rfl)) pe_int (fun _ _ => rfl))) pa_nil))) pa_nil))) (pv 0))))), ?_⟩)
  · obtain ⟨p, o, rfl, _⟩ := h
    rfl
  · obtain ⟨p, o, rfl, hp, hQ⟩ := h
    walk_at "in"
    cases o with
    | ok t c =>
      obtain ⟨q, hp, hq⟩ := hp
      walk_at "gg"
      refine hQ _ _ (by walk_at "ex") ⟨_, by assumption, by walk_at "lk1"⟩
    | err i j =>
      have hp : H p = some (.tup [.str "NoSpeed", prv i, prv j]) := hp
      walk_at "gg"
      exact hQ p H (Ex.refl H) hp
theorem sc__law_two_signs : FnScope ["_law_bag_here", "_law_base", "_law_share", "_law_fits", "_law_k"] ["_law_bag_here"] (defScope s__law_two_signs) := ⟨rfl, rfl, rfl, by decide +kernel, rfl, by decide +kernel, by decide +kernel⟩
theorem ok__law_two_signs (T : TT K mg) : FnOk P w K mg base CX0 3 (He.ga K "_law_two_signs") (fdOf K ("_law_two_signs", none)) ["_law_bag_here"] (spTwo K) := by
  refine (F__law_two_signs T).ok sc__law_two_signs (fun vs H Q E h => ?_) (fun cdv A outer s H vs Q E hr h => ⟨_, PSs.nox ((pss_cons (ps_if (pt_cmpR op_eq (pe_call (ok__law_draw T) (hr.mono (by decide)) (by rfl) (T.glo "_law_draw" rfl) (F__law_draw T).kp (B__law_draw T) .nil pass0 (pa_cons (pv 0) (pa_cons pe_int pa_nil))) pe_int (nomark _)) (pss_one (ps_ret (pe_tupE (pa_cons (pe_op (op_addUK K) pe_int (pe_call (ok__law_draw T) (hr.mono (by decide)) (by rfl) (T.glo "_law_draw" rfl) (F__law_draw T).kp (B__law_draw T) .nil pass0 (pa_cons (pv 0) (pa_cons pe_int pa_nil)))) (pa_cons (pe_op (op_addUK K) pe_int (pe_call (ok__law_draw T) (hr.mono (by decide)) (by rfl) (T.glo "_law_draw" rfl) (F__law_draw T).kp (B__law_draw T) .nil pass0 (pa_cons (pv 0) (pa_cons pe_int pa_nil)))) pa_nil))))) pss_nil)
  (pss_cons (ps_asg (pe_tupE (pa_cons (pe_call (ok__law_of T) (hr.mono (by decide)) (by rfl) (T.glo "_law_of" rfl) (F__law_of T).kp (B__law_of T) .nil pass0 (pa_cons (pv 0) (pa_cons (pe_lstE (pa_cons pe_int (pa_cons pe_int (pa_cons pe_int (pa_cons pe_int (pa_cons pe_int (pa_cons pe_int (pa_cons pe_int (pa_cons (pe_op (op_addUK K) pe_int (pe_call (ok__law_draw T) (hr.mono (by decide)) (by rfl) (T.glo "_law_draw" rfl) (F__law_draw T).kp (B__law_draw T) .nil pass0 (pa_cons (pv 0) (pa_cons pe_int pa_nil)))) pa_nil))))))))) pa_nil))) (pa_cons (pe_call (ok__law_of T) (hr.mono (by decide)) (by rfl) (T.glo "_law_of" rfl) (F__law_of T).kp (B__law_of T) .nil pass0 (pa_cons (pv 0) (pa_cons (pe_lstE (pa_cons pe_int (pa_cons pe_int (pa_cons pe_int (pa_cons pe_int (pa_cons (pe_op (op_addUK K) pe_int (pe_call (ok__law_draw T) (hr.mono (by decide)) (by rfl) (T.glo "_law_draw" rfl) (F__law_draw T).kp (B__law_draw T) .nil pass0 (pa_cons (pv 0) (pa_cons pe_int pa_nil)))) pa_nil)))))) pa_nil))) pa_nil))) (pg_tup rfl (pgs_cons (pg_name (i := 1) sc__law_two_signs.nd rfl (Or.inr rfl)) (pgs_cons (pg_name (i := 2) sc__law_two_signs.nd rfl (Or.inr rfl)) pgs_nil))))
  (pss_cons (ps_setLc (i := 3) (own := [("_law_k", 4)]) (g := gName 4) (tt := _) rfl sc__law_two_signs.nd rfl rfl (sw_true rfl rfl rfl (by decide +kernel)) (pi_range1 (by rfl) (T.free "range" rfl) (pa_cons pe_int pa_nil)) (blkOk_by (N := ["_law_bag_here", "_law_base", "_law_share", "_law_fits", "_law_k"]) (sc := defScope s__law_two_signs) (by decide +kernel)) (fun _ _ _ _ _ => (pg_name (i := 4) sc__law_two_signs.nd rfl (Or.inl rfl))) (fun _ _ _ _ _ => (pts_one (pt_cmpR op_le (pe_op op_mulW (pv 2) (pe_call (ok__law_power T) (hr.mono (by decide)) (by rfl) (T.glo "_law_power" rfl) (F__law_power T).kp (B__law_power T) .nil pass0 (pa_cons (pv 1) (pa_cons (pv 4) pa_nil)))) pe_int (nomark _)))) (fun _ _ _ _ _ => (pv 4)))
  (pss_one (ps_ret (pe_tupE (pa_cons (pe_op op_mulW (pv 2) (pe_call (ok__law_power T) (hr.mono (by decide)) (by rfl) (T.glo "_law_power" rfl) (F__law_power T).kp (B__law_power T) .nil pass0 (pa_cons (pv 1) (pa_cons (pe_call (ok__law_of T) (hr.mono (by decide)) (by rfl) (T.glo "_law_of" rfl) (F__law_of T).kp (B__law_of T) .nil pass0 (pa_cons (pv 0) (pa_cons (pv 3) pa_nil))) pa_nil)))) (pa_cons (pe_op op_mulW (pv 2) (pe_call (ok__law_power T) (hr.mono (by decide)) (by rfl) (T.glo "_law_power" rfl) (F__law_power T).kp (B__law_power T) .nil pass0 (pa_cons (pv 1) (pa_cons (pe_call (ok__law_of T) (hr.mono (by decide)) (by rfl) (T.glo "_law_of" rfl) (F__law_of T).kp (B__law_of T) .nil pass0 (pa_cons (pv 0) (pa_cons (pv 3) pa_nil))) pa_nil)))) pa_nil))))))))), ?_⟩)
  · obtain ⟨b, sc, ns, n, rfl, _⟩ := h
    rfl
  · obtain ⟨b, sc, ns, n, rfl, hb, hn, hQ⟩ := h
    walk_at "in"
    walk_at "gg"
    refine ⟨b, sc, ns, n, 4, rfl, hb, by omega, by decide, by decide, fun d H1 d0 d1 e1 hb1 => ?_⟩
    walk_at "gg"
    refine x_ite (fun h0 => ?_) (fun h0 => ?_)
    · walk_at "gg"
      refine ⟨b, sc, ns, _, 64, rfl, hb1, by omega, by decide, by decide, fun x H2 x0 x1 e2 hb2 => ?_⟩
      walk_at "gg"
      refine ⟨b, sc, ns, _, 64, rfl, hb2, by omega, by decide, by decide, fun y H3 y0 y1 e3 hb3 => ?_⟩
      walk_at "gg"
      rename_i p H4 hp e4 h4
      obtain ⟨x', rfl⟩ := natCast_toNat x0
      obtain ⟨y', rfl⟩ := natCast_toNat y0
      refine hQ p (1 + x') (1 + y') H4 (by omega) (by omega) (by omega) (by omega) (by walk_at "ex") (Bag.mono (hb3.ex e4 (by simp) (by simp)) (by omega)) (by rw [h4]; rfl)
    · walk_at "gg"
      refine ⟨b, sc, ns, _, 63, rfl, hb1, by omega, by decide, by decide, fun z H2 z0 z1 e2 hb2 => ?_⟩
      walk_at "gg"
      rename_i p H3 hp e3 h3
      refine ⟨b, sc, p, ns, _, _, rfl, hb2.ex e3 (by simp) (by simp), by omega, .inl (sql_of h3), hb2.out hp, by simp, by simp, fun i v H4 hv e4 hb4 => ?_⟩
      obtain ⟨bs, rfl, bs1, bs2⟩ := IR.get (lo := 2) (hi := 64) (by repeat (first | exact IR.nil | (refine IR.cons (by omega) (by omega) ?_))) hv
      obtain ⟨bs, rfl⟩ := natCast_toNat (i := bs) (by omega)
      clear hp h3 hv
      walk_at "gg"
      refine ⟨b, sc, ns, _, 9, rfl, hb4, by omega, by decide, by decide, fun y H5 y0 y1 e5 hb5 => ?_⟩
      walk_at "gg"
      rename_i p1 H6 hp1 e6 h6
      refine ⟨b, sc, p1, ns, _, _, rfl, hb5.ex e6 (by simp) (by simp), by omega, .inl (sql_of h6), hb5.out hp1, by simp, by simp, fun i v H7 hv e7 hb7 => ?_⟩
      obtain ⟨sh, rfl, sh1, sh2⟩ := IR.get (lo := 1) (hi := 9) (by repeat (first | exact IR.nil | (refine IR.cons (by omega) (by omega) ?_))) hv
      obtain ⟨sh, rfl⟩ := natCast_toNat (i := sh) (by omega)
      clear hp1 h6 hv
      have bs3 : bs < 2 ^ 7 := by omega
      have e07 : Ex [b] H H7 := e1.tr (e2.tr ((e3.sub (by simp)).tr (e4.tr (e5.tr ((e6.sub (by simp)).tr e7)))))
      walk_at "gg"
      rename_i tp H8 htp e8 h8
      refine x_lcW walk_range [] (fun i acc H => acc = (fl (fun k => decide (sh * bs ^ k ≤ 64)) i).map V.int) (fun _ _ _ => rfl) (fun _ _ => trivial) ?_ ?_
      · rintro D i x H9 H10 acc hD hi hacc hl' e9 r ⟨rfl, rfl⟩
        have hi7 : i < 7 := hi
        have hp6 : bs ^ i ≤ 64 ^ 6 := Nat.le_trans (Nat.pow_le_pow_left (by omega) i) (Nat.pow_le_pow_right (by decide) (by omega))
        have hp6' : ((bs ^ i : Nat) : Int) ≤ 68719476736 := by
          have : (64 : Nat) ^ 6 = 68719476736 := by decide
          omega
        dsimp only [wipe, List.set]
        walk_at "gg"
        refine ⟨rfl, ?_⟩
        walk_at "gg"
        refine ⟨bs, i, 7, by rw [Int.zero_add]; rfl, bs3, by decide, by omega, by omega, ?_⟩
        walk_at "gg"
        have hdd : decide ((sh : Int) * ((bs ^ i : Nat) : Int) ≤ 64) = decide (sh * bs ^ i ≤ 64) := decide_eq_decide.mpr (by rw [← Int.natCast_mul]; omega)
        rw [hdd]
        by_cases hq : sh * bs ^ i ≤ 64
        · rw [if_pos (by simpa using hq)]
          walk_at "gg"
          exact lc_push Al.nil (fun _ _ _ _ r => r) hD (by omega) hacc hl' e9 (by walk_at "ex") (by rw [r, fl_yes (by simpa using hq), List.map_append, Int.zero_add]; rfl)
        · rw [if_neg (by simpa using hq)]
          exact lc_skip Al.nil hD hacc hl' e9 (by walk_at "ex") (by rw [r, fl_no (by simpa using hq)])
      rintro D H9 acc hD hacc hl9 e9 rfl
      clear hl9
      have hacc : H9 D = some (.lst ((fl (fun k => decide (sh * bs ^ k ≤ 64)) 7).map V.int)) := hacc
      have hb9 := (hb7.ex e8 (by simp) (by simp)).ex e9 (by simp) (by simp)
      have hDb : D ≠ b := (hb7.ex e8 (by simp) (by simp)).out hD
      have f0 : 0 < ((fl (fun k => decide (sh * bs ^ k ≤ 64)) 7).map V.int).length := fl_pos (k := 0) (by decide) (by simp; omega)
      have f1 : ((fl (fun k => decide (sh * bs ^ k ≤ 64)) 7).map V.int).length ≤ 7 := fl_len
      have hval : ∀ {k : Nat}, decide (sh * bs ^ k ≤ 64) = true → 1 ≤ sh * bs ^ k ∧ sh * bs ^ k ≤ 64 := fun h => ⟨Nat.mul_pos (by omega) (Nat.pow_pos (by omega)), of_decide_eq_true h⟩
      walk_at "gg"
      refine ⟨b, sc, D, ns, _, _, rfl, hb9, by omega, .inl (sql_of hacc), hDb, f0, by omega, fun i v H10 hv e10 hb10 => ?_⟩
      obtain ⟨k1, rfl, k17, hk1⟩ := fl_mem hv
      have v1 := hval hk1
      have pw : ∀ {k : Nat}, k < 7 → ((bs ^ k : Nat) : Int) ≤ 68719476736 := fun {k} hk => by
        have h1 : bs ^ k ≤ 64 ^ 6 := Nat.le_trans (Nat.pow_le_pow_left (by omega) k) (Nat.pow_le_pow_right (by decide) (by omega))
        have : (64 : Nat) ^ 6 = 68719476736 := by decide
        omega
      have pw1 := pw k17
      walk_at "gg"
      refine ⟨bs, k1, 7, rfl, bs3, by decide, by omega, by omega, ?_⟩
      walk_at "gg"
      have hacc10 : H10 D = some (.lst ((fl (fun k => decide (sh * bs ^ k ≤ 64)) 7).map V.int)) := e10 _ _ (by simpa using hDb) hacc
      refine ⟨b, sc, D, ns, _, _, rfl, hb10, by omega, .inl (sql_of hacc10), hDb, f0, by omega, fun i v H11 hv e11 hb11 => ?_⟩
      obtain ⟨k2, rfl, k27, hk2⟩ := fl_mem hv
      have v2 := hval hk2
      have pw2 := pw k27
      walk_at "gg"
      refine ⟨bs, k2, 7, rfl, bs3, by decide, by omega, by omega, ?_⟩
      walk_at "gg"
      rename_i p H12 hp e12 h12
      refine hQ p (sh * bs ^ k1) (sh * bs ^ k2) H12 v1.1 v1.2 v2.1 v2.2 (e07.tr ((e8.sub (by simp)).tr ((e9.sub (by simp)).tr (e10.tr (e11.tr (e12.sub (by simp))))))) (Bag.mono (hb11.ex e12 (by simp) (by simp)) (by omega)) (by rw [h12, Int.natCast_mul, Int.natCast_mul])
theorem sc__law_small_exps : FnScope ["_law_bag_here", "_law_found", "_law_k", "_law_place"] ["_law_bag_here"] (defScope s__law_small_exps) := ⟨rfl, rfl, rfl, by decide +kernel, rfl, by decide +kernel, by decide +kernel⟩
theorem ok__law_small_exps (T : TT K mg) : FnOk P w K mg base CX0 3 (He.ga K "_law_small_exps") (fdOf K ("_law_small_exps", none)) ["_law_bag_here"] (spSmall K) := by
  refine (F__law_small_exps T).ok sc__law_small_exps (fun vs H Q E h => ?_) (fun cdv A outer s H vs Q E hr h => ⟨_, PSs.nox ((pss_cons (ps_setLc (i := 1) (own := [("_law_k", 2)]) (g := gName 2) (tt := _) rfl sc__law_small_exps.nd rfl rfl (sw_true rfl rfl rfl (by decide +kernel)) (pi_range1 (by rfl) (T.free "range" rfl) (pa_cons pe_int pa_nil)) (blkOk_by (N := ["_law_bag_here", "_law_found", "_law_k", "_law_place"]) (sc := defScope s__law_small_exps) (by decide +kernel)) (fun _ _ _ _ _ => (pg_name (i := 2) sc__law_small_exps.nd rfl (Or.inl rfl))) (fun _ _ _ _ _ => pts_nil) (fun _ _ _ _ _ => pe_int))
  (pss_cons (ps_for PassesOwn.never rfl (pi_range1 (by rfl) (T.free "range" rfl) (pa_cons (pe_call (ok__law_draw T) (hr.mono (by decide)) (by rfl) (T.glo "_law_draw" rfl) (F__law_draw T).kp (B__law_draw T) .nil pass0 (pa_cons (pv 0) (pa_cons pe_int pa_nil))) pa_nil)) (pg_name (i := 2) sc__law_small_exps.nd rfl (Or.inl rfl)) (pss_cons (ps_set (i := 3) sc__law_small_exps.nd rfl (Or.inl rfl) (pe_call (ok__law_of T) (hr.mono (by decide)) (by rfl) (T.glo "_law_of" rfl) (F__law_of T).kp (B__law_of T) .nil pass0 (pa_cons (pv 0) (pa_cons (pe_lstE (pa_cons pe_int (pa_cons pe_int (pa_cons pe_int (pa_cons (pe_call (ok__law_draw T) (hr.mono (by decide)) (by rfl) (T.glo "_law_draw" rfl) (F__law_draw T).kp (B__law_draw T) .nil pass0 (pa_cons (pv 0) (pa_cons pe_int pa_nil))) pa_nil))))) pa_nil))))
  (pss_one (ps_asg (pe_op op_sub (pe_call (ok__law_draw T) (hr.mono (by decide)) (by rfl) (T.glo "_law_draw" rfl) (F__law_draw T).kp (B__law_draw T) .nil pass0 (pa_cons (pv 0) (pa_cons pe_int pa_nil))) pe_int) (pg_sub (pv 1) (pv 3) set_list)))))
  (pss_one (ps_ret (pv 1)))))), ?_⟩)
  · obtain ⟨b, sc, ns, n, rfl, _⟩ := h
    rfl
  · obtain ⟨b, sc, ns, n, rfl, hb, hn, hQ⟩ := h
    walk_at "in"
    walk_at "gg"
    refine x_lcW walk_range [] (fun i acc H => acc = List.replicate i (V.int 0)) (fun _ _ _ => rfl) (fun _ _ => trivial) ?_ ?_
    · rintro D i x H9 H10 acc hD hi hacc hl' e9 r ⟨rfl, rfl⟩
      have hi18 : i < 18 := hi
      dsimp only [wipe, List.set]
      walk_at "gg"
      refine ⟨rfl, ?_⟩
      walk_at "gg"
      exact lc_push Al.nil (fun _ _ _ _ r => r) hD (by omega) hacc hl' e9 (by walk_at "ex") (by rw [r, List.replicate_succ'])
    rintro D H1 acc hD hacc hl1 e1 rfl
    clear hl1
    have hacc : H1 D = some (.lst ((List.replicate 18 (0 : Int)).map V.int)) := by rw [hacc, List.map_replicate]; rfl
    have hb1 := hb.ex e1 (by simp) (by simp)
    have hDb : D ≠ b := hb.out hD
    have hDs : D ≠ sc := hb.outS hD
    walk_at "gg"
    refine ⟨b, sc, ns, _, 4, rfl, hb1, by omega, by decide, by decide, fun d H2 d0 d1 e2 hb2 => ?_⟩
    have hacc2 : H2 D = some (.lst ((List.replicate 18 (0 : Int)).map V.int)) := e2 _ _ (by simpa using hDb) hacc
    have e02 : Ex [b] H H2 := by walk_at "ex"
    walk_at "gg"
    refine for_it walk_range (fun i σ H' => (∃ o1 o2, σ = [some (.ref b), some (.ref D), o1, o2]) ∧ (∃ e : List Int, e.length = 18 ∧ Bd 3 e ∧ H' D = some (.lst (e.map V.int))) ∧ Bag K b sc ns H' (n + 1 + 3 * i) ∧ Ex [b, D] H2 H') ⟨⟨none, none, rfl⟩, ⟨_, List.length_replicate, fun x hx => by rw [List.eq_of_mem_replicate hx]; decide, hacc2⟩, hb2.mono (by omega), Ex.refl _⟩ (fun _ _ _ _ _ => trivial) ?_ ?_
    · rintro i x σ H3 H4 hi ⟨⟨o1, o2, rfl⟩, ⟨e, le, be, he⟩, hb3, e3⟩ ⟨rfl, rfl⟩
      have hi4 : i < 4 := by omega
      walk_at "gg"
      refine ⟨b, sc, ns, _, 18, rfl, hb3, by omega, by decide, by decide, fun z H4 z0 z1 e4 hb4 => ?_⟩
      walk_at "gg"
      rename_i p H5 hp e5 h5
      refine ⟨b, sc, p, ns, _, _, rfl, hb4.ex e5 (by simp) (by simp), by omega, .inl (sql_of h5), hb4.out hp, by simp, by simp, fun j v H6 hv e6 hb6 => ?_⟩
      obtain ⟨pl, rfl, pl1, pl2⟩ := IR.get (lo := 0) (hi := 17) (by repeat (first | exact IR.nil | (refine IR.cons (by omega) (by omega) ?_))) hv
      obtain ⟨pl, rfl⟩ := natCast_toNat pl1
      have pl3 : pl < 18 := by omega
      clear hp h5 hv
      walk_at "gg"
      refine ⟨b, sc, ns, _, 7, rfl, hb6, by omega, by decide, by decide, fun y H7 y0 y1 e7 hb7 => ?_⟩
      have e37 : Ex [b] _ H7 := e4.tr ((e5.sub (by simp)).tr (e6.tr e7))
      have he7 := e37 _ _ (by simpa using hDb) he
      walk_at "gg"
      refine x_setL2 (j := pl) (xs' := (e.set pl (y - 3)).map V.int) he7 ?_ (by rw [List.map_set]) fun H8 e8 h8 => ?_
      · unfold ixN
        rw [List.length_map, le, if_pos (by omega), if_pos (by omega)]
        rfl
      have hb8 := hb7.ex e8 (by simpa using Ne.symm hDs) (by simpa using Ne.symm hDb)
      exact ⟨⟨_, _, rfl⟩, ⟨e.set pl (y - 3), by rw [List.length_set, le], fun x hx => by
        rcases List.mem_or_eq_of_mem_set hx with h | h
        · exact be x h
        · omega, h8⟩, hb8.mono (by omega), e3.tr ((e37.sub (by simp)).tr (e8.sub (by simp)))⟩
    · rintro σ H3 ⟨⟨o1, o2, rfl⟩, ⟨e, le, be, he⟩, hb3, e3⟩
      walk_at "gg"
      refine hQ D e H3 le be hD ?_ (hb3.mono (by omega)) he
      exact Ex.skip2 e02 hD e3
end
end BF
/-! ## two flows -/
namespace BF
open PySem PySem.Spec PyProof.Rows L2
theorem x_irng2 {σ : L2.St} {H : Hp} {ta : TA} {R : It → Hp → Prop} (k : ta σ H fun vs H1 => ∃ i j : Int, vs = [.int i, .int j] ∧ (-(2 ^ 62) ≤ i ∧ i < 2 ^ 62 ∧ -(2 ^ 62) ≤ j ∧ j < 2 ^ 62) ∧ R (Itr i (j - i).toNat) H1) : iRng2 ta σ H R := k
def spFlows (K : PySem.W.Frag) : Sp := fun vs H Q _ => ∃ (b sc : Addr) (ns : List Int) (n : Int) (x y : Nat), vs = [.ref b, .int x, .int y] ∧ Bag K b sc ns H n ∧ n ≤ 800000 ∧ 1 ≤ x ∧ x ≤ 64 ∧ 1 ≤ y ∧ y ≤ 64 ∧
  ∀ (p la lb : Addr) (e f : List Int) (H' : Hp), e.length = 18 → f.length = 18 → Bd 41 e → Bd 41 f → Ex [b] H H' → Bag K b sc ns H' (n + 200) → H' p = some (.tup [.ref la, .ref lb]) → H' la = some (.lst (e.map V.int)) → H' lb = some (.lst (f.map V.int)) → Q (.ref p) H'
theorem div6 {a t : Int} (h1 : -36 ≤ a) (h2 : a ≤ 36) (t1 : 1 ≤ t) (t2 : t ≤ 6) : -36 ≤ a / t ∧ a / t ≤ 36 := by
  have : t = 1 ∨ t = 2 ∨ t = 3 ∨ t = 4 ∨ t = 5 ∨ t = 6 := by omega
  rcases this with rfl | rfl | rfl | rfl | rfl | rfl <;> omega
section
variable {P : Program} {w : World} {K : PySem.W.Frag} {mg : Str → Option Value} {base : Heap}
theorem sc__law_two_flows : FnScope ["_law_bag_here", "_law_na", "_law_nb", "_law_eb", "_law_v", "_law_share", "_law_item", "_law_ticks_z", "_law_far", "_law_ea", "_law_place", "_law_x", "_law_y", "_law_k", "_law_low_z"] ["_law_bag_here", "_law_na", "_law_nb"] (defScope s__law_two_flows) := ⟨rfl, rfl, rfl, by decide +kernel, rfl, by decide +kernel, by decide +kernel⟩
theorem ok__law_two_flows (T : TT K mg) : FnOk P w K mg base CX0 4 (He.ga K "_law_two_flows") (fdOf K ("_law_two_flows", none)) ["_law_bag_here", "_law_na", "_law_nb"] (spFlows K) := by
  refine (F__law_two_flows T).ok sc__law_two_flows (fun vs H Q E h => ?_) (fun cdv A outer s H vs Q E hr h => ⟨_, PSs.nox ((pss_cons (ps_par (i := 3) (j := 4) rfl sc__law_two_flows.nd rfl rfl (by decide) rfl rfl (pa_cons (pe_call (ok__law_small_exps T) (hr.mono (by decide)) (by rfl) (T.glo "_law_small_exps" rfl) (F__law_small_exps T).kp (B__law_small_exps T) .nil pass0 (pa_cons (pv 0) pa_nil)) (pa_cons (pe_lc (own := [("_law_x", 11), ("_law_y", 12)]) (g := gTup K 2 (gCons (gName 11) (gCons (gName 12) gNil))) (tt := _) rfl sc__law_two_flows.nd (RZ.pi_zipA (by rfl) (T.free "zip" rfl) (pa_cons (pe_call (ok__law_exps T) (hr.mono (by decide)) (by rfl) (T.glo "_law_exps" rfl) (F__law_exps T).kp (B__law_exps T) .nil pass0 (pa_cons (pv 1) pa_nil)) (pa_cons (pe_call (ok__law_exps T) (hr.mono (by decide)) (by rfl) (T.glo "_law_exps" rfl) (F__law_exps T).kp (B__law_exps T) .nil pass0 (pa_cons (pv 2) pa_nil)) pa_nil))) (blkOk_by (N := ["_law_bag_here", "_law_na", "_law_nb", "_law_eb", "_law_v", "_law_share", "_law_item", "_law_ticks_z", "_law_far", "_law_ea", "_law_place", "_law_x", "_law_y", "_law_k", "_law_low_z"]) (sc := defScope s__law_two_flows) (by decide +kernel)) (fun _ _ _ _ _ => (by exact (pg_tup rfl (pgs_cons (pg_name (i := 11) sc__law_two_flows.nd rfl (Or.inl rfl)) (pgs_cons (pg_name (i := 12) sc__law_two_flows.nd rfl (Or.inl rfl)) pgs_nil))))) (fun _ _ _ _ _ => pts_nil) (fun _ _ _ _ _ => (pe_op op_sub (pv 11) (pv 12)))) pa_nil)) rfl)
  (pss_cons (ps_set (i := 5) sc__law_two_flows.nd rfl (Or.inr rfl) pe_int)
  (pss_cons (ps_for PassesOwn.never rfl (pi_list (pv 4)) (pg_name (i := 6) sc__law_two_flows.nd rfl (Or.inl rfl)) (pss_one (ps_set (i := 5) sc__law_two_flows.nd rfl (Or.inr rfl) (pe_ifExp (pt_cmpR op_ne (pv 6) pe_int (nomark _)) (pe_call (ok__law_gcd T) (hr.mono (by decide)) (by rfl) (T.glo "_law_gcd" rfl) (F__law_gcd T).kp (B__law_gcd T) .nil pass0 (pa_cons (pv 5) (pa_cons (pe_callB call_absX (by rfl) (T.free "abs" rfl) boot_abs (pa_cons (pv 6) pa_nil)) pa_nil))) (pv 5)))))
  (C8.pss_cut (ps_set (i := 7) sc__law_two_flows.nd rfl (Or.inr rfl) (pe_ifExp (pt_cmpR op_gt (pv 5) pe_int (nomark _)) (pe_call (ok__law_of T) (hr.mono (by decide)) (by rfl) (T.glo "_law_of" rfl) (F__law_of T).kp (B__law_of T) .nil pass0 (pa_cons (pv 0) (pa_cons (pe_lc (own := [("_law_k", 13)]) (g := gName 13) (tt := _) rfl sc__law_two_flows.nd (pi_range2 (by rfl) (T.free "range" rfl) (pa_cons pe_int (pa_cons (pe_op (op_addUK K) (pv 5) pe_int) pa_nil))) (blkOk_by (N := ["_law_bag_here", "_law_na", "_law_nb", "_law_eb", "_law_v", "_law_share", "_law_item", "_law_ticks_z", "_law_far", "_law_ea", "_law_place", "_law_x", "_law_y", "_law_k", "_law_low_z"]) (sc := defScope s__law_two_flows) (by decide +kernel)) (fun _ _ _ _ _ => (pg_name (i := 13) sc__law_two_flows.nd rfl (Or.inl rfl))) (fun _ _ _ _ _ => (pts_one (pt_cmpR op_eq (pe_op op_mod (pe_callTy call_intX (by rfl) (T.free "int" rfl) boot_int (pa_cons (pv 5) pa_nil)) (pv 13)) pe_int (nomark _)))) (fun _ _ _ _ _ => (pv 13))) pa_nil))) pe_int))
  (pss_cons (ps_set (i := 8) sc__law_two_flows.nd rfl (Or.inr rfl) (pe_call (ok__law_of T) (hr.mono (by decide)) (by rfl) (T.glo "_law_of" rfl) (F__law_of T).kp (B__law_of T) .nil pass0 (pa_cons (pv 0) (pa_cons (pe_lstE (pa_cons pe_int (pa_cons pe_int (pa_cons (pe_un un_neg pe_int) (pa_cons pe_int (pa_cons (pe_un un_neg pe_int) (pa_cons (pe_op op_sub (pe_call (ok__law_draw T) (hr.mono (by decide)) (by rfl) (T.glo "_law_draw" rfl) (F__law_draw T).kp (B__law_draw T) .nil pass0 (pa_cons (pv 0) (pa_cons pe_int pa_nil))) pe_int) pa_nil))))))) pa_nil))))
  (pss_cons (ps_setLc (i := 9) (own := [("_law_low_z", 14), ("_law_item", 6)]) (g := gTup K 2 (gCons (gName 14) (gCons (gName 6) gNil))) (tt := _) rfl sc__law_two_flows.nd rfl rfl (sw_true rfl rfl rfl (by decide +kernel)) (RZ.pi_zipA (by rfl) (T.free "zip" rfl) (pa_cons (pv 3) (pa_cons (pv 4) pa_nil))) (blkOk_by (N := ["_law_bag_here", "_law_na", "_law_nb", "_law_eb", "_law_v", "_law_share", "_law_item", "_law_ticks_z", "_law_far", "_law_ea", "_law_place", "_law_x", "_law_y", "_law_k", "_law_low_z"]) (sc := defScope s__law_two_flows) (by decide +kernel)) (fun _ _ _ _ _ => (by exact (pg_tup rfl (pgs_cons (pg_name (i := 14) sc__law_two_flows.nd rfl (Or.inl rfl)) (pgs_cons (pg_name (i := 6) sc__law_two_flows.nd rfl (Or.inl rfl)) pgs_nil))))) (fun _ _ _ _ _ => pts_nil) (fun _ _ _ _ _ => (pe_op (op_addUK K) (pv 14) (pe_op op_fdivW (pe_op op_mulW (pv 6) (pv 8)) (pv 7)))))
  (C8.pss_cut (ps_if (pt_cmpR op_eq (pe_call (ok__law_draw T) (hr.mono (by decide)) (by rfl) (T.glo "_law_draw" rfl) (F__law_draw T).kp (B__law_draw T) .nil pass0 (pa_cons (pv 0) (pa_cons pe_int pa_nil))) pe_int (nomark _)) (pss_cons (ps_set (i := 10) sc__law_two_flows.nd rfl (Or.inl rfl) (pe_call (ok__law_of T) (hr.mono (by decide)) (by rfl) (T.glo "_law_of" rfl) (F__law_of T).kp (B__law_of T) .nil pass0 (pa_cons (pv 0) (pa_cons (pe_lstE (pa_cons pe_int (pa_cons pe_int (pa_cons pe_int (pa_cons (pe_call (ok__law_draw T) (hr.mono (by decide)) (by rfl) (T.glo "_law_draw" rfl) (F__law_draw T).kp (B__law_draw T) .nil pass0 (pa_cons (pv 0) (pa_cons pe_int pa_nil))) pa_nil))))) pa_nil))))
  (pss_one (ps_asg (pe_op (op_addUK K) (pe_ix (ix_LTK K) (pv 9) (pv 10) (fun _ _ => rfl)) (pe_call (ok__law_of T) (hr.mono (by decide)) (by rfl) (T.glo "_law_of" rfl) (F__law_of T).kp (B__law_of T) .nil pass0 (pa_cons (pv 0) (pa_cons (pe_lstE (pa_cons pe_int (pa_cons (pe_un un_neg pe_int) (pa_cons pe_int pa_nil)))) pa_nil)))) (pg_sub (pv 9) (pv 10) set_list)))) pss_nil)
  (pss_one (ps_ret (pe_tupE (pa_cons (pv 9) (pa_cons (pv 3) pa_nil))))))))))))), ?_⟩)
  · obtain ⟨b, sc, ns, n, x, y, rfl, _⟩ := h
    rfl
  · obtain ⟨b, sc, ns, n, x, y, rfl, hb, hn, x1, x2, y1, y2, hQ⟩ := h
    walk_at "in"
    walk_at "gg"
    refine ⟨b, sc, ns, n, rfl, hb, by omega, fun lb f H1 lf bf hlb e1 hb1 h1 => ?_⟩
    have lbb : lb ≠ b := hb.out hlb
    have lbs : lb ≠ sc := hb.outS hlb
    walk_at "gg"
    refine ⟨x, rfl, x1, x2, fun xa H2 hxa e2 hx2 => ?_⟩
    walk_at "gg"
    refine ⟨y, rfl, y1, y2, fun xb H3 hxb e3 hx3 => ?_⟩
    have hx2' : SqL K H3 xa ((xs x).map V.int) := sql_of (e3 _ _ (by simp) hx2)
    have hx3' : SqL K H3 xb ((xs y).map V.int) := sql_of hx3
    have l1 := xs_len x1 x2
    have l2 := xs_len y1 y2
    walk_at "gg"
    refine x_lcW (walk_zip (xs := (xs x).map V.int) (ys := (xs y).map V.int) rfl) [] (fun i acc H => acc = ((sb (xs x) (xs y)).take i).map V.int) (fun _ _ _ => rfl) (fun H' e => ⟨by walk_at "lk", by walk_at "lk"⟩) ?_ ?_
    · rintro D i z H4 H5 acc hD hi hacc hl' e4 r ⟨t, a, c, rfl, ht, hH2, hy, hz⟩
      have e5 : Ex [] H4 H5 := by rw [hH2]; exact Ex.new ht
      have ht3 : H5 t = some (.tup [a, c]) := by rw [hH2]; exact upd_same
      clear hH2
      dsimp only at hy hz
      have hi18 : i < 18 := by rw [List.length_map, List.length_map, l1, l2] at hi; exact hi
      rw [List.getElem?_map, gt0_at (by omega)] at hy hz
      cases Option.some.inj hy
      cases Option.some.inj hz
      dsimp only [wipe, List.set]
      walk_at "gg"
      refine ⟨rfl, ?_⟩
      walk_at "gg"
      have hsb : (sb (xs x) (xs y))[i]? = some (gt0 (xs x) i - gt0 (xs y) i) := by rw [gt0_at (by rw [sb_len l1 l2]; exact hi18), gt0_sb l1 l2 hi18]
      exact lc_push Al.nil (fun _ _ _ _ r => r) hD (by omega) hacc hl' e4 (by walk_at "ex") (by rw [take_snoc hsb, r])
    rintro D2 H4 acc hD2 hacc2 hl2 e4 rfl
    rw [List.length_map, List.length_map, l1, l2, List.take_of_length_le (by rw [sb_len l1 l2]; decide)] at hacc2
    clear hl2
    have lv : (sb (xs x) (xs y)).length = 18 := sb_len l1 l2
    have bv : ∀ k, k < 18 → -6 ≤ gt0 (sb (xs x) (xs y)) k ∧ gt0 (sb (xs x) (xs y)) k ≤ 6 := fun k hk => by
      rw [gt0_sb l1 l2 hk]
      have := xs_bd x1 x2 _ (List.mem_of_getElem? (gt0_at (l := xs x) (k := k) (by rw [l1]; exact hk)))
      have := xs_bd y1 y2 _ (List.mem_of_getElem? (gt0_at (l := xs y) (k := k) (by rw [l2]; exact hk)))
      omega
    have e04 : Ex [b] H H4 := e1.tr ((e2.tr (e3.tr e4)).sub (by simp))
    have e14 : Ex [] H1 H4 := e2.tr (e3.tr e4)
    have hb4 := hb1.ex e14 (by simp) (by simp)
    have hf4 := e14 _ _ (by simp) h1
    have D2b : D2 ≠ b := by
      have hz := (hb1.ex (e2.tr e3) (by simp) (by simp)).out hD2
      exact hz
    clear hx2' hx3' hx2 hx3 e14 e2 e3 e4
    generalize sb (xs x) (xs y) = v at *
    walk_at "gg"
    refine for_it (walk_list (xs := v.map V.int)) (fun i σ H' => H' = H4 ∧ ∃ (s : Nat) (o : Option V), s ≤ 6 ∧ σ = [some (.ref b), some (.int x), some (.int y), some (.ref lb), some (.ref D2), some (.int s), o, none, none, none, none, none, none, none, none]) ⟨rfl, 0, none, by decide, rfl⟩ ?_ ?_ ?_
    · rintro i σ H' _ ⟨rfl, _⟩
      exact sql_of hacc2
    · rintro i z σ H5 H6 hi ⟨rfl, s, o, hs, rfl⟩ ⟨rfl, hz⟩
      have hi18 : i < 18 := by rw [List.length_map, lv] at hi; exact hi
      rw [List.getElem?_map, gt0_at (by omega)] at hz
      cases Option.some.inj hz
      have vi := bv i hi18
      walk_at "gg"
      by_cases h0 : gt0 v i = 0
      · refine x_iteF (by simp [h0]) ?_
        walk_at "gg"
        exact ⟨rfl, s, _, hs, rfl⟩
      · refine x_iteT (by simp [h0]) ?_
        walk_at "gg"
        refine ⟨s, _, rfl, by omega, ?_⟩
        walk_at "gg"
        exact ⟨rfl, _, _, Nat.le_trans (Nat.gcd_le_right _ (by omega)) (by omega), rfl⟩
    · rintro σ H5 ⟨rfl, s, o, hs, rfl⟩
      have bvv := bv
      have hacc2' := hacc2
      clear bv hacc2
      walk_at "gg"
      refine ⟨fun σ' H' => (∃ t : Int, 1 ≤ t ∧ t ≤ 6 ∧ σ' = [some (.ref b), some (.int x), some (.int y), some (.ref lb), some (.ref D2), some (.int s), o, some (.int t), none, none, none, none, none, none, none]) ∧ Ex [b] H5 H' ∧ Bag K b sc ns H' (n + 101), ?_, ?_⟩
      · walk_at "gg"
        refine x_ite (fun h0 => ?_) (fun h0 => ?_)
        · walk_at "gg"
          refine x_irng2 ?_
          walk_at "gg"
          refine ⟨1, _, rfl, ⟨by omega, by omega, by omega, by omega⟩, ?_⟩
          refine x_lcW walk_range [] (fun i acc H => IR 1 6 acc ∧ (0 < i → 0 < acc.length)) (fun _ _ _ => ⟨IR.nil, nofun⟩) (fun _ _ => trivial) ?_ ?_
          · rintro D i z H6 H7 acc hD hi hacc hl' e6 ⟨r1, r2⟩ ⟨rfl, rfl⟩
            dsimp only [wipe, List.set]
            walk_at "gg"
            refine ⟨rfl, ?_⟩
            walk_at "gg"
            by_cases hq : (s : Int) % (1 + (i : Nat)) = 0
            · rw [if_pos (by simpa using hq)]
              walk_at "gg"
              exact lc_push Al.nil (fun _ _ _ _ r => r) hD (by omega) hacc hl' e6 (by walk_at "ex") ⟨fun w hw => by
                rcases List.mem_append.mp hw with h | h
                · exact r1 w h
                · rw [List.mem_singleton.mp h]
                  exact ⟨_, rfl, by omega, by omega⟩, fun _ => by rw [List.length_append]; exact Nat.succ_pos _⟩
            · rw [if_neg (by simpa using hq)]
              refine lc_skip Al.nil hD hacc hl' e6 (by walk_at "ex") ⟨r1, fun _ => ?_⟩
              refine r2 (Nat.pos_of_ne_zero fun z => hq ?_)
              rw [z]
              exact Int.emod_one _
          rintro D H6 acc hD hacc hl6 e6 ⟨r1, r2⟩
          have hb6 := hb4.ex e6 (by simp) (by simp)
          have hDb : D ≠ b := hb4.out hD
          walk_at "gg"
          refine ⟨b, sc, D, ns, _, _, rfl, hb6, by omega, .inl (sql_of hacc), hDb, r2 (by omega), by omega, fun i w H7 hv e7 hb7 => ?_⟩
          obtain ⟨t, rfl, t1, t2⟩ := r1.get hv
          walk_at "gg"
          exact ⟨⟨t, t1, t2, rfl⟩, e6.sub (by simp) |>.tr e7, hb7.mono (by omega)⟩
        · walk_at "gg"
          exact ⟨⟨1, by decide, by decide, rfl⟩, Ex.refl _, hb4.mono (by omega)⟩
      · rintro σ' H6 ⟨⟨t, t1, t2, rfl⟩, e6, hb6⟩
        have hv6 : H6 D2 = some (.lst (v.map V.int)) := e6 _ _ (by simpa using D2b) hacc2'
        have hf6 : H6 lb = some (.lst (f.map V.int)) := e6 _ _ (by simpa using lbb) hf4
        have e06 : Ex [b] H H6 := e04.tr e6
        clear hf4 hb4 e04 e6
        walk_at "gg"
        refine ⟨b, sc, ns, _, 13, rfl, hb6, by omega, by decide, by decide, fun z H7 z0 z1 e7 hb7 => ?_⟩
        walk_at "gg"
        rename_i p H8 hp e8 h8
        refine ⟨b, sc, p, ns, _, _, rfl, hb7.ex e8 (by simp) (by simp), by omega, .inl (sql_of h8), hb7.out hp, by simp, by simp, fun i w H9 hv e9 hb9 => ?_⟩
        obtain ⟨far, rfl, far1, far2⟩ := IR.get (lo := -6) (hi := 6) (by repeat (first | exact IR.nil | (refine IR.cons (by omega) (by omega) ?_))) hv
        clear hp h8 hv
        have e69 : Ex [b] H6 H9 := e7.tr ((e8.sub (by simp)).tr e9)
        have hv9 : H9 D2 = some (.lst (v.map V.int)) := e69 _ _ (by simpa using D2b) hv6
        have hf9 : H9 lb = some (.lst (f.map V.int)) := e69 _ _ (by simpa using lbb) hf6
        have e09 : Ex [b] H H9 := e06.tr e69
        clear hv6 hf6 e7 e8 e9 e69 e06
        walk_at "gg"
        refine x_lcW (walk_zip (xs := f.map V.int) (ys := v.map V.int) rfl) [] (fun i acc H => ∃ l : List Int, acc = l.map V.int ∧ l.length = i ∧ Bd 39 l) (fun _ _ _ => ⟨[], rfl, rfl, fun x hx => nomatch hx⟩) (fun H' e => ⟨by walk_at "lk", by walk_at "lk"⟩) ?_ ?_
        · rintro D i z H10 H11 acc hD hi hacc hl' e10 ⟨l, r1, r2, r3⟩ ⟨tt, a, c, rfl, ht, hH2, hy, hz⟩
          have e5 : Ex [] H10 H11 := by rw [hH2]; exact Ex.new ht
          have ht3 : H11 tt = some (.tup [a, c]) := by rw [hH2]; exact upd_same
          clear hH2
          dsimp only at hy hz
          have hi18 : i < 18 := by rw [List.length_map, List.length_map, lf, lv] at hi; exact hi
          rw [List.getElem?_map, gt0_at (by omega)] at hy hz
          cases Option.some.inj hy
          cases Option.some.inj hz
          have fi := bd_at bf (k := i) (by omega)
          have vi := bvv i hi18
          have pr := mul_bd (m := 6) (n := 6) vi.1 vi.2 far1 far2
          have dv := div6 (by omega) (by omega) t1 t2 (a := gt0 v i * far)
          dsimp only [wipe, List.set]
          walk_at "gg"
          refine ⟨rfl, ?_⟩
          walk_at "gg"
          exact lc_push Al.nil (fun _ _ _ _ r => r) hD (by omega) hacc hl' e10 (by walk_at "ex") ⟨l ++ [gt0 f i + gt0 v i * far / t], by rw [r1, List.map_append]; rfl, by rw [List.length_append, r2]; rfl, fun w hw => by
            rcases List.mem_append.mp hw with h | h
            · exact r3 w h
            · rw [List.mem_singleton.mp h]
              omega⟩
        rintro D H10 acc hD hacc hl10 e10 ⟨e, rfl, le, be⟩
        rw [List.length_map, List.length_map, lf, lv] at le
        have le : e.length = 18 := le
        clear hl10
        have hb10 := hb9.ex e10 (by simp) (by simp)
        have hDb : D ≠ b := hb9.out hD
        have hDs : D ≠ sc := hb9.outS hD
        have hlD : lb ≠ D := fun z => by rw [z, hD] at hf9; cases hf9
        have hf10 : H10 lb = some (.lst (f.map V.int)) := e10 _ _ (by simp) hf9
        have e010 : Ex [b] H H10 := e09.tr (e10.sub (by simp))
        walk_at "gg"
        refine ⟨fun σ' H' => (∃ o1 o2, σ' = [some (.ref b), some (.int x), some (.int y), some (.ref lb), some (.ref D2), some (.int s), o1, some (.int t), some (.int far), some (.ref D), o2, none, none, none, none]) ∧ Ex [b, D] H10 H' ∧ Bag K b sc ns H' (n + 190) ∧ ∃ e : List Int, e.length = 18 ∧ Bd 41 e ∧ H' D = some (.lst (e.map V.int)), ?_, ?_⟩
        · walk_at "gg"
          refine ⟨b, sc, ns, _, 3, rfl, hb10, by omega, by decide, by decide, fun d H11 d0 d1 e11 hb11 => ?_⟩
          have hD11 : H11 D = some (.lst (e.map V.int)) := e11 _ _ (by simpa using hDb) hacc
          walk_at "gg"
          refine x_ite (fun h0 => ?_) (fun h0 => ?_)
          · walk_at "gg"
            refine ⟨b, sc, ns, _, 18, rfl, hb11, by omega, by decide, by decide, fun z H12 z0 z1 e12 hb12 => ?_⟩
            walk_at "gg"
            rename_i p H13 hp e13 h13
            refine ⟨b, sc, p, ns, _, _, rfl, hb12.ex e13 (by simp) (by simp), by omega, .inl (sql_of h13), hb12.out hp, by simp, by simp, fun j w H14 hv e14 hb14 => ?_⟩
            obtain ⟨pl, rfl, pl1, pl2⟩ := IR.get (lo := 0) (hi := 17) (by repeat (first | exact IR.nil | (refine IR.cons (by omega) (by omega) ?_))) hv
            obtain ⟨pl, rfl⟩ := natCast_toNat pl1
            have pl3 : pl < 18 := by omega
            clear hp h13 hv
            have e1014 : Ex [b] H10 H14 := e11.tr (e12.tr ((e13.sub (by simp)).tr e14))
            have hD14 := e1014 _ _ (by simpa using hDb) hacc
            clear e11 e12 e13 e14 hD11
            walk_at "gg"
            refine x_ixL (sql_of hD14) (at_v' (by omega)) ?_
            walk_at "gg"
            rename_i p H15 hp e15 h15
            refine ⟨b, sc, p, ns, _, _, rfl, hb14.ex e15 (by simp) (by simp), by omega, .inl (sql_of h15), hb14.out hp, by simp, by simp, fun j w H16 hv e16 hb16 => ?_⟩
            obtain ⟨df, rfl, df1, df2⟩ := IR.get (lo := -1) (hi := 2) (by repeat (first | exact IR.nil | (refine IR.cons (by omega) (by omega) ?_))) hv
            clear hp h15 hv
            have e1016 : Ex [b] H10 H16 := e1014.tr ((e15.sub (by simp)).tr e16)
            have hD16 := e1016 _ _ (by simpa using hDb) hacc
            have eb := bd_at be (k := pl) (by omega)
            walk_at "gg"
            refine x_setL2 (j := pl) (xs' := (e.set pl (gt0 e pl + df)).map V.int) hD16 ?_ (by rw [List.map_set]) fun H17 e17 h17 => ?_
            · unfold ixN
              rw [List.length_map, le, if_pos (by omega), if_pos (by omega)]
              rfl
            refine ⟨⟨_, _, rfl⟩, (e1016.sub (by simp)).tr (e17.sub (by simp)), Bag.mono (hb16.ex e17 (by simpa using Ne.symm hDs) (by simpa using Ne.symm hDb)) (by omega), e.set pl (gt0 e pl + df), by rw [List.length_set, le], fun w hw => ?_, h17⟩
            rcases List.mem_or_eq_of_mem_set hw with h | h
            · have := be w h
              omega
            · omega
          · walk_at "gg"
            exact ⟨⟨_, _, rfl⟩, e11.sub (by simp), hb11.mono (by omega), e, le, be.le (by decide), hD11⟩
        · rintro σ' H11 ⟨⟨o1, o2, rfl⟩, e11, hb11, e', le', be', hD11⟩
          walk_at "gg"
          rename_i p H12 hp e12 h12
          refine hQ p D lb e' f H12 le' lf be' (bf.le (by decide)) ?_ (Bag.mono (hb11.ex e12 (by simp) (by simp)) (by omega)) h12 (e12 _ _ (by simp) hD11) (e12 _ _ (by simp) (e11 _ _ (by simp [lbb, hlD]) hf10))
          exact (Ex.skip2 e09 (e09.free (by simpa using hDb) hD) ((e10.sub (by simp)).tr e11)).tr (e12.sub (by simp))
end
end BF
/-! ## the frames -/
namespace BF
open PySem PySem.Spec PyProof.Rows L2
theorem x_callN {σ : L2.St} {H : Hp} {Q : VK} {n m : Nat} {sp : Sp} {gV : List V → List V → List V} {E : XK} {t tk : TA} (k : t σ H fun vs H1 => tk σ H1 fun zs H2 => vs.length = n ∧ zs.length = m ∧ sp (gV vs zs) H2 Q E) : tCallN n m sp gV E t tk σ H Q := k
def spFrSo (K : PySem.W.Frag) : Sp := fun vs H Q _ => ∃ (b sc fa fb la p : Addr) (ns : List Int) (n : Int) (x y : Nat) (e f : List Int) (t c : Int), vs = [.ref b, .ref fa, .int x, .ref fb, .int y, .ref la, .ref p] ∧ Bag K b sc ns H n ∧ n ≤ 800000 ∧ 1 ≤ x ∧ x ≤ 64 ∧ 1 ≤ y ∧ y ≤ 64 ∧
  Rv K H fa e ∧ Rv K H fb f ∧ Bd 41 e ∧ Bd 41 f ∧ SqL K H la (e.map V.int) ∧ la ≠ b ∧ Due H p (.ok t c) ∧ spd (sb e f) (sb (xs x) (xs y)) = .ok t c ∧ ∀ H', Ex [b] H H' → Bag K b sc ns H' (n + 10) → Q (.bl true) H'
theorem sq12 {K : PySem.W.Frag} {H : Hp} {q : Addr} {v u : V} (h : H q = some (.tup [v, u])) : SqT K H q [v, u] := sqt_of h
section
variable {P : Program} {w : World} {K : PySem.W.Frag} {mg : Str → Option Value} {base : Heap}
theorem kb_framed (T : TT K mg) : KBn K (fdOf K ("framed_flow", none)) ["flow", "signs", "frame"] 0 ["flow", "signs", "frame"] (fun _ ws => ws) (fun _ zs => zs) :=
  kbn_of (F_framed_flow T) 0 _ (fun _ ws => ws) (fun _ r => r) fun _ _ _ _ _ _ us ws h1 h2 => match us, ws, h1, h2 with | [], [_, _, _], _, _ => rfl
theorem eq_fact (T : TT K mg) : PySem.W.findIn K (.ref (He.ga K "Ratio")) "__eq__" = some (some (.ref (He.ma K (He.ga K "Ratio") "__eq__"))) := of_decide_eq_true (m_10 T)
theorem eq_fact2 (T : TT K mg) : PySem.W.isFn K (.ref (He.ma K (He.ga K "Ratio") "__eq__")) = true := m_11 T
theorem sc__law_framed_so : FnScope ["_law_bag_here", "_law_flow_a", "_law_na", "_law_flow_b", "_law_nb", "_law_ea", "_law_due", "_law_exps_z", "_law_found", "_law_early", "_law_x", "_law_y"] ["_law_bag_here", "_law_flow_a", "_law_na", "_law_flow_b", "_law_nb", "_law_ea", "_law_due"] (defScope s__law_framed_so) := ⟨rfl, rfl, rfl, by decide +kernel, rfl, by decide +kernel, by decide +kernel⟩
theorem ok__law_framed_so (T : TT K mg) : FnOk P w K mg base CX0 6 (He.ga K "_law_framed_so") (fdOf K ("_law_framed_so", none)) ["_law_bag_here", "_law_flow_a", "_law_na", "_law_flow_b", "_law_nb", "_law_ea", "_law_due"] (spFrSo K) := by
  refine (F__law_framed_so T).ok sc__law_framed_so (fun vs H Q E h => ?_) (fun cdv A outer s H vs Q E hr h => ⟨_, PSs.nox ((pss_cons (ps_if (PW.pt (pw_or (pt_cmpR op_gt (pe_ix (ix_LTK K) (pe_ix (ix_LTK K) (pv 6) pe_int (fun _ _ => rfl)) pe_int (fun _ _ => rfl)) pe_int (nomark _)) (pw_or1 (pt_cmpR op_gt (pe_callB call_absX (by rfl) (T.free "abs" rfl) boot_abs (pa_cons (pe_ix (ix_LTK K) (pe_ix (ix_LTK K) (pv 6) pe_int (fun _ _ => rfl)) pe_int (fun _ _ => rfl)) pa_nil)) pe_int (nomark _))))) (pss_one (ps_ret pe_bl)) pss_nil)
  (pss_cons (ps_setLc (i := 7) (own := [("_law_x", 10), ("_law_y", 11)]) (g := gTup K 2 (gCons (gName 10) (gCons (gName 11) gNil))) (tt := _) rfl sc__law_framed_so.nd rfl rfl (sw_true rfl rfl rfl (by decide +kernel)) (RZ.pi_zipA (by rfl) (T.free "zip" rfl) (pa_cons (pv 5) (pa_cons (pe_call (ok__law_exps T) (hr.mono (by decide)) (by rfl) (T.glo "_law_exps" rfl) (F__law_exps T).kp (B__law_exps T) .nil pass0 (pa_cons (pv 2) pa_nil)) pa_nil))) (blkOk_by (N := ["_law_bag_here", "_law_flow_a", "_law_na", "_law_flow_b", "_law_nb", "_law_ea", "_law_due", "_law_exps_z", "_law_found", "_law_early", "_law_x", "_law_y"]) (sc := defScope s__law_framed_so) (by decide +kernel)) (fun _ _ _ _ _ => (by exact (pg_tup rfl (pgs_cons (pg_name (i := 10) sc__law_framed_so.nd rfl (Or.inl rfl)) (pgs_cons (pg_name (i := 11) sc__law_framed_so.nd rfl (Or.inl rfl)) pgs_nil))))) (fun _ _ _ _ _ => pts_nil) (fun _ _ _ _ _ => (pe_op op_sub (pe_op op_mulW (pe_ix (ix_LTK K) (pe_ix (ix_LTK K) (pv 6) pe_int (fun _ _ => rfl)) pe_int (fun _ _ => rfl)) (pv 10)) (pe_op op_mulW (pe_ix (ix_LTK K) (pe_ix (ix_LTK K) (pv 6) pe_int (fun _ _ => rfl)) pe_int (fun _ _ => rfl)) (pv 11)))))
  (pss_cons (ps_set (i := 8) sc__law_framed_so.nd rfl (Or.inl rfl) (pe_call (ok_framed_flow T) (hr.mono (by decide)) (by rfl) (T.glo "framed_flow" rfl) (F_framed_flow T).kp (B_framed_flow T) .nil pass0 (pa_cons (pv 1) (pa_cons (pv 2) (pa_cons (pe_ix (ix_LTK K) (pv 6) pe_int (fun _ _ => rfl)) pa_nil)))))
  (pss_cons (ps_if (PW.pt (pw_or (pt_not (pt_cmpR (op_ownEq (C := He.ga K "Ratio") (ok_Ratio___eq__ T) (hr.mono (by decide)) (eq_fact T) (eq_fact2 T) (B_Ratio___eq__ T) pass0) (pv 8) (pe_callN0 (ok_framed_flow T) (hr.mono (by decide)) (by rfl) (T.glo "framed_flow" rfl) (F_framed_flow T).kp (kb_framed T) pass0 (pk_cons (pv 3) (pk_cons (pv 4) (pk_cons (pe_ix (ix_LTK K) (pv 6) pe_int (fun _ _ => rfl)) pk_nil)))) (nomark _))) (pw_or1 (pt_not (pt_cmpR (op_ownEq (C := He.ga K "Ratio") (ok_Ratio___eq__ T) (hr.mono (by decide)) (eq_fact T) (eq_fact2 T) (B_Ratio___eq__ T) pass0) (pv 8) (pe_call (ok__law_ratio_of T) (hr.mono (by decide)) (by rfl) (T.glo "_law_ratio_of" rfl) (F__law_ratio_of T).kp (B__law_ratio_of T) .nil pass0 (pa_cons (pv 7) pa_nil)) (nomark _)))))) (pss_one (ps_ret pe_bl)) pss_nil)
  (pss_cons (ps_if (pt_cmpR op_eq (pe_ix (ix_LTK K) (pe_ix (ix_LTK K) (pv 6) pe_int (fun _ _ => rfl)) pe_int (fun _ _ => rfl)) pe_int (nomark _)) (pss_one (ps_ret pe_bl)) pss_nil)
  (pss_cons (ps_set (i := 9) sc__law_framed_so.nd rfl (Or.inl rfl) (pe_tupE (pa_cons (pe_op (op_addUK K) pe_int (pe_call (ok__law_draw T) (hr.mono (by decide)) (by rfl) (T.glo "_law_draw" rfl) (F__law_draw T).kp (B__law_draw T) .nil pass0 (pa_cons (pv 0) (pa_cons (pe_op op_sub (pe_ix (ix_LTK K) (pe_ix (ix_LTK K) (pv 6) pe_int (fun _ _ => rfl)) pe_int (fun _ _ => rfl)) pe_int) pa_nil)))) (pa_cons (pe_op op_sub (pe_call (ok__law_draw T) (hr.mono (by decide)) (by rfl) (T.glo "_law_draw" rfl) (F__law_draw T).kp (B__law_draw T) .nil pass0 (pa_cons (pv 0) (pa_cons pe_int pa_nil))) pe_int) pa_nil))))
  (pss_one (ps_ret (pe_not (pe_cmpR (op_ownEq (C := He.ga K "Ratio") (ok_Ratio___eq__ T) (hr.mono (by decide)) (eq_fact T) (eq_fact2 T) (B_Ratio___eq__ T) pass0) (pe_call (ok_framed_flow T) (hr.mono (by decide)) (by rfl) (T.glo "framed_flow" rfl) (F_framed_flow T).kp (B_framed_flow T) .nil pass0 (pa_cons (pv 1) (pa_cons (pv 2) (pa_cons (pv 9) pa_nil)))) (pe_call (ok_framed_flow T) (hr.mono (by decide)) (by rfl) (T.glo "framed_flow" rfl) (F_framed_flow T).kp (B_framed_flow T) .nil pass0 (pa_cons (pv 3) (pa_cons (pv 4) (pa_cons (pv 9) pa_nil)))) (nomark _)))))))))))), ?_⟩)
  · obtain ⟨b, sc, fa, fb, la, p, ns, n, x, y, e, f, t, c, rfl, _⟩ := h
    rfl
  · obtain ⟨b, sc, fa, fb, la, p, ns, n, x, y, e, f, t, c, rfl, hb, hn, x1, x2, y1, y2, hva, hvb, be, bf, hla, hlb, ⟨q, hp, hq⟩, hs, hQ⟩ := h
    obtain ⟨t1, m1, m2⟩ := spd_ok hs
    have le : e.length = 18 := hva.1
    have lf : f.length = 18 := hvb.1
    have lx := xs_len x1 x2
    have ly := xs_len y1 y2
    obtain ⟨_, hob⟩ : ∃ o, H b = some o := hb.al b (by simp)
    have fab : fa ≠ b := fun z => by
      obtain ⟨i, r, m, k, h, _⟩ := hb.obj
      obtain ⟨_, dx, h2⟩ := hva
      rw [z, h] at h2
      cases h2
    have fbb : fb ≠ b := fun z => by
      obtain ⟨i, r, m, k, h, _⟩ := hb.obj
      obtain ⟨_, dx, h2⟩ := hvb
      rw [z, h] at h2
      cases h2
    walk_at "in"
    walk_at "gg"
    refine x_ite (fun h1 => ?_) (fun h1 => ?_)
    · walk_at "gg"
      exact hQ H (Ex.refl H) (hb.mono (by omega))
    · walk_at "gg"
      refine x_ite (fun h2 => ?_) (fun h2 => ?_)
      · walk_at "gg"
        exact hQ H (Ex.refl H) (hb.mono (by omega))
      · have t12 : t ≤ 12 := by omega
        have c1 : -12 ≤ c := by omega
        have c2 : c ≤ 12 := by omega
        walk_at "gg"
        refine ⟨x, rfl, x1, x2, fun xa H1 hxa e1 hx1 => ?_⟩
        have hla1 : SqL K H1 la (e.map V.int) := sql_ex e1 (by simp) hla
        have hx1' : SqL K H1 xa ((xs x).map V.int) := sql_of hx1
        have hp1 := e1 _ _ (by simp) hp
        have hq1 := e1 _ _ (by simp) hq
        walk_at "gg"
        refine x_lcW (walk_zip (xs := e.map V.int) (ys := (xs x).map V.int) rfl) [] (fun i acc H => acc = ((fr t c e (xs x)).take i).map V.int) (fun _ _ _ => rfl) (fun H' e => ⟨by walk_at "lk", by walk_at "lk"⟩) ?_ ?_
        · rintro D i z H4 H5 acc hD hi hacc hl' e4 r ⟨tt, a, d, rfl, ht, hH2, hy, hz⟩
          have e5 : Ex [] H4 H5 := by rw [hH2]; exact Ex.new ht
          have ht3 : H5 tt = some (.tup [a, d]) := by rw [hH2]; exact upd_same
          clear hH2
          dsimp only at hy hz
          have hi18 : i < 18 := by rw [List.length_map, List.length_map, le, lx] at hi; exact hi
          rw [List.getElem?_map, gt0_at (by omega)] at hy hz
          cases Option.some.inj hy
          cases Option.some.inj hz
          have b1 := bd_at be (k := i) (by omega)
          have b2 := bd_at (xs_Bd x1 x2) (k := i) (by omega)
          dsimp only [wipe, List.set]
          walk_at "gg"
          refine ⟨rfl, ?_⟩
          walk_at "gg"
          exact lc_push Al.nil (fun _ _ _ _ r => r) hD (by omega) hacc hl' e4 (by walk_at "ex") (by rw [take_snoc (fr_at le lx hi18), r])
        rintro D H2 acc hD hacc hl2 e2 rfl
        rw [List.length_map, List.length_map, le, lx, List.take_of_length_le (by rw [fr_len le lx]; decide)] at hacc
        clear hl2
        have e02 : Ex [] H H2 := e1.tr e2
        have hp2 := e02 _ _ (by simp) hp
        have hq2 := e02 _ _ (by simp) hq
        clear hp1 hq1 hla1 hx1' hx1
        have hva2 := hva.ex e02 (by simp)
        have hvb2 := hvb.ex e02 (by simp)
        walk_at "gg"
        refine ⟨fa, q, x, t, c, e, rfl, hva2, be, x1, x2, sqt_of hq2, t1, t12, c1, c2, fun r1 H3 e3 hr1 => ?_⟩
        have hr1' : Rv K H3 r1 (fr t c e (xs x)) := hr1
        have hp3 := e3 _ _ (by simp) hp2
        have hq3 := e3 _ _ (by simp) hq2
        walk_at "gg"
        refine x_callN ?_
        walk_at "gg"
        refine ⟨rfl, rfl, fb, q, y, t, c, f, rfl, hvb2.ex e3 (by simp), bf, y1, y2, sqt_of hq3, t1, t12, c1, c2, fun r2 H4 e4 hr2 => ?_⟩
        have hr2' : Rv K H4 r2 (fr t c f (xs y)) := hr2
        have hr1'' := hr1'.ex e4 (by simp)
        obtain ⟨_, dx1, hr14⟩ := id hr1''
        obtain ⟨_, dx2, hr24⟩ := id hr2'
        refine x_own (K := K) hr14 hr24 ⟨r1, r2, _, _, rfl, hr1'', hr2', ?_⟩
        rw [decide_eq_true ((fr_eq le lf lx ly).mpr m1)]
        have e24 : Ex [] H2 H4 := e3.tr e4
        have hD4 : SqL K H4 D ((fr t c e (xs x)).map V.int) := sql_of (e24 _ _ (by simp) hacc)
        walk_at "gg"
        refine ⟨D, fr t c e (xs x), rfl, hD4, fr_len le lx, ?_, fun r3 H5 e5 hr3 => ?_⟩
        · intro z hz
          obtain ⟨k, hk, hz⟩ := List.mem_iff_getElem.mp hz
          rw [fr_len le lx] at hk
          have h1 := fr_at (t := t) (c := c) le lx hk
          rw [List.getElem?_eq_getElem (by rw [fr_len le lx]; exact hk), hz] at h1
          have h2 := Option.some.inj h1
          have b1 := bd_at be (k := k) (by omega)
          have b2 := bd_at (xs_Bd x1 x2) (k := k) (by omega)
          have p1 := mul_bd (m := 12) (n := 41) (a := t) (by omega) t12 b1.1 b1.2
          have p2 := mul_bd (m := 12) (n := 6) (a := c) c1 c2 b2.1 b2.2
          omega
        have hr15 := hr1''.ex e5 (by simp)
        obtain ⟨_, dx3, hr1o⟩ := id hr15
        obtain ⟨_, dx4, hr3o⟩ := id hr3
        refine x_own (K := K) hr1o hr3o ⟨r1, r3, _, _, rfl, hr15, hr3, ?_⟩
        rw [decide_eq_true rfl]
        have e05 : Ex [] H H5 := e02.tr (e24.tr e5)
        have hp5 := e05 _ _ (by simp) hp
        have hq5 := e05 _ _ (by simp) hq
        have hb5 := hb.ex e05 (by simp) (by simp)
        clear hp3 hq3 hp2 hq2 hr14 hr24 hr1o hr3o
        walk_at "gg"
        refine x_ite (fun h3 => ?_) (fun h3 => ?_)
        · walk_at "gg"
          exact hQ H5 (e05.sub (by simp)) (hb5.mono (by omega))
        · walk_at "gg"
          refine ⟨b, sc, ns, _, t - 1, rfl, hb5, by omega, by omega, by omega, fun d H6 d0 d1 e6 hb6 => ?_⟩
          walk_at "gg"
          refine ⟨b, sc, ns, _, 25, rfl, hb6, by omega, by decide, by decide, fun g H7 g0 g1 e7 hb7 => ?_⟩
          walk_at "gg"
          rename_i ey H8 hey e8 h8
          have e58 : Ex [b] H5 H8 := e6.tr (e7.tr (e8.sub (by simp)))
          have hva8 := (hva.ex e05 (by simp)).ex e58 (by simpa using fab)
          have hvb8 := (hvb.ex e05 (by simp)).ex e58 (by simpa using fbb)
          walk_at "gg"
          refine ⟨fa, ey, x, 1 + d, g - 12, e, rfl, hva8, be, x1, x2, sqt_of h8, by omega, by omega, by omega, by omega, fun r4 H9 e9 hr4 => ?_⟩
          have hr4' : Rv K H9 r4 (fr (1 + d) (g - 12) e (xs x)) := hr4
          walk_at "gg"
          refine ⟨fb, ey, y, 1 + d, g - 12, f, rfl, hvb8.ex e9 (by simp), bf, y1, y2, sqt_of (e9 _ _ (by simp) h8), by omega, by omega, by omega, by omega, fun r5 H10 e10 hr5 => ?_⟩
          have hr5' : Rv K H10 r5 (fr (1 + d) (g - 12) f (xs y)) := hr5
          have hr4'' := hr4'.ex e10 (by simp)
          obtain ⟨_, dx5, hr4o⟩ := id hr4''
          obtain ⟨_, dx6, hr5o⟩ := id hr5'
          refine x_own (K := K) hr4o hr5o ⟨r4, r5, _, _, rfl, hr4'', hr5', ?_⟩
          rw [decide_eq_false fun z => m2 (1 + d) (g - 12) (by omega) (by omega) ((fr_eq le lf lx ly).mp z)]
          walk_at "gg"
          have e810 : Ex [] H8 H10 := e9.tr e10
          exact hQ H10 ((e05.sub (by simp)).tr (e58.tr (e810.sub (by simp)))) (Bag.mono ((hb7.ex e8 (by simp) (by simp)).ex e810 (by simp) (by simp)) (by omega))
end
end BF
/-! ## what is refused -/
namespace BF
open PySem PySem.Spec PyProof.Rows L2
def tabs (K : PySem.W.Frag) : List (Addr × Str) := tf.map fun p => ((He.cT K p).2, p.1 ++ ".<locals>." ++ "<lambda>")
section
variable {P : Program} {w : World} {K : PySem.W.Frag} {mg : Str → Option Value} {base : Heap} {H H1 : Hp}
theorem Rv.N {a : Addr} {e : List Int} (h : Rv K H a e) (x : LamX.ExtN H H1) : Rv K H1 a e := by
  obtain ⟨l, dx, h⟩ := h
  exact ⟨l, dx, x _ _ h nofun⟩
theorem Bag.N {b sc : Addr} {ns : List Int} {n : Int} (h : Bag K b sc ns H n) (x : LamX.ExtN H H1) : Bag K b sc ns H1 n := by
  obtain ⟨s, ne, i, r, m, c, hb, q⟩ := h
  exact ⟨x _ _ s nofun, ne, i, r, m, c, x _ _ hb nofun, q⟩
theorem Bag.tabs {b sc : Addr} {ns : List Int} {n : Int} {T : List (Addr × Str)} (h : Bag K b sc ns H n) (x : Ex [b] H H1) (t : LamX.Tabs T H) : LamX.Tabs T H1 := by
  obtain ⟨s, ne, i, r, m, c, hb, q⟩ := h
  exact tabs_ex hb x t
theorem Bag.neR {b sc fa : Addr} {ns : List Int} {n : Int} {e : List Int} (h : Bag K b sc ns H n) (r : Rv K H fa e) : fa ≠ b := fun z => by
  obtain ⟨i, _, m, k, h, _⟩ := h.obj
  obtain ⟨_, dx, h2⟩ := r
  rw [z, h] at h2
  cases h2
theorem tab_ne (T : TT K mg) : (He.cT K ("_law_refused_so", none)).2 ≠ (He.cT K ("_law_once", none)).2 := fun z => by
  have h := m_16 T
  unfold more16 at h
  rw [decide_eq_true z] at h
  cases h
theorem kb_speed (T : TT K mg) : KBn K (fdOf K ("speed", none)) ["one_flow", "one_signs", "other_flow", "other_signs"] 0 ["other_signs", "other_flow", "one_signs", "one_flow"] (fun _ ws => ws.reverse) (fun _ zs => zs.reverse) :=
  kbn_of (F_speed T) 0 _ (fun _ ws => ws.reverse) (fun _ r => r.reverse) fun _ _ _ _ _ _ us ws h1 h2 => match us, ws, h1, h2 with | [], [_, _, _, _], _, _ => rfl
theorem inv_fact (T : TT K mg) : PySem.W.findIn K (.ref (He.ga K "Ratio")) "__invert__" = some (some (.ref (He.ma K (He.ga K "Ratio") "__invert__"))) := of_decide_eq_true (m_14 T)
theorem inv_fact2 (T : TT K mg) : PySem.W.isFn K (.ref (He.ma K (He.ga K "Ratio") "__invert__")) = true := m_15 T
theorem x_lam {T : List (Addr × Str)} {t : XK → TE} {σ : L2.St} {Q : VK} (hT : LamX.Tabs T H) (k : ∀ H1, LamX.ExtN H H1 → LamX.Tabs T H1 → t (fun cls d H' => TryX K cls d H' Q) σ H1 (tQ Q)) : LamX.tLam T (TTt K) t σ H Q := ⟨hT, k⟩
/-- what a _law_try around a raised InvalidNumber gives -/
theorem try_inv {v : V} {Q : VK} (k : ∀ p H2, Ex [] H H2 → H2 p = some (.tup [.str "InvalidNumber", v]) → Q (.ref p) H2) : RaisedX (He.ga K "InvalidNumber") (fsN [v]) H (fun cls d H' => TryX K cls d H' Q) :=
  fun dd H' _ e hd => .inl ⟨dd, v, rfl, rfl, hd, fun p H2 e2 h2 => k p H2 (e.tr e2) h2⟩
theorem try_no {v u : V} {Q : VK} (k : ∀ p H2, Ex [] H H2 → H2 p = some (.tup [.str "NoSpeed", v, u]) → Q (.ref p) H2) : RaisedX (He.ga K "NoSpeed") (fsS [v, u]) H (fun cls d H' => TryX K cls d H' Q) :=
  fun dd H' _ e hd => .inr ⟨dd, v, u, rfl, rfl, hd, fun p H2 e2 h2 => k p H2 (e.tr e2) h2⟩
def spRef (K : PySem.W.Frag) : Sp := fun vs H Q _ => ∃ (b sc fa fb : Addr) (ns : List Int) (n : Int) (x y : Nat) (e f : List Int), vs = [.ref b, .ref fa, .int x, .ref fb, .int y] ∧ Bag K b sc ns H n ∧ n ≤ 800000 ∧ 1 ≤ x ∧ x ≤ 64 ∧
  Rv K H fa e ∧ Rv K H fb f ∧ Bd 41 e ∧ Bd 41 f ∧ LamX.Tabs (tabs K) H ∧ ∀ H', Bag K b sc ns H' (n + 10) → LamX.Tabs (tabs K) H' → Q (.bl true) H'
theorem sc__law_refused_so : FnScope ["_law_bag_here", "_law_flow_a", "_law_na", "_law_flow_b", "_law_nb", "_law_odd_z", "_law_one_z", "_law_two", "_law_due"] ["_law_bag_here", "_law_flow_a", "_law_na", "_law_flow_b", "_law_nb"] (defScope s__law_refused_so) := ⟨rfl, rfl, rfl, by decide +kernel, rfl, by decide +kernel, by decide +kernel⟩
theorem ok__law_refused_so (T : TT K mg) (hTB : ∀ p ∈ tf, LamX.TabB base mg (He.cT K p).1 (He.cT K p).2) : FnOk P w K mg base CX0 8 (He.ga K "_law_refused_so") (fdOf K ("_law_refused_so", none)) ["_law_bag_here", "_law_flow_a", "_law_na", "_law_flow_b", "_law_nb"] (spRef K) := by
  obtain ⟨oc, od, dV, kV, doc, pm, an, cdv', ct, osl, hfd, lkT, hcT, _, _⟩ := (F__law_try T).ex
  have bT := B__law_try T
  rw [hfd] at bT lkT
  have hmT : ((He.cT K ("_law_refused_so", none)).2, ("_law_refused_so" ++ ".<locals>." ++ "<lambda>" : Str)) ∈ tabs K := List.mem_cons_self
  have huT : ∀ p ∈ tabs K, p.1 = (He.cT K ("_law_refused_so", none)).2 → p.2 = ("_law_refused_so" ++ ".<locals>." ++ "<lambda>" : Str) := fun p hp z => by
    rcases List.mem_cons.mp hp with rfl | hp
    · rfl
    · rw [List.mem_singleton.mp hp] at z
      exact absurd z.symm (tab_ne T)
  refine okL (p := ("_law_refused_so", none)) (F__law_refused_so T) sc__law_refused_so (fun vs H Q E h => ?_) (fun A outer s H vs Q E hr h => ⟨_, PSs.nox ((pss_cons (ps_set (i := 5) sc__law_refused_so.nd rfl (Or.inl rfl) (pe_lstE (pa_cons pe_int (pa_cons pe_int (pa_cons (pe_un un_neg pe_int) (pa_cons pe_non (pa_cons pe_bl (pa_cons pe_str (pa_cons (pe_tupE (pa_cons pe_int pa_nil)) (pa_cons (pe_lstE (pa_cons pe_int pa_nil)) (pa_cons pe_int (pa_cons pe_bl pa_nil))))))))))))
  (pss_cons (ps_asg (pe_tupE (pa_cons (pe_call (ok__law_of T) (hr.mono (by decide)) (by rfl) (T.glo "_law_of" rfl) (F__law_of T).kp (B__law_of T) .nil pass0 (pa_cons (pv 0) (pa_cons (pe_op (op_addUK K) (pv 5) (pe_lstE (pa_cons (pv 2) (pa_cons (pv 2) pa_nil)))) pa_nil))) (pa_cons (pe_call (ok__law_of T) (hr.mono (by decide)) (by rfl) (T.glo "_law_of" rfl) (F__law_of T).kp (B__law_of T) .nil pass0 (pa_cons (pv 0) (pa_cons (pv 5) pa_nil))) pa_nil))) (pg_tup rfl (pgs_cons (pg_name (i := 6) sc__law_refused_so.nd rfl (Or.inr rfl)) (pgs_cons (pg_name (i := 7) sc__law_refused_so.nd rfl (Or.inr rfl)) pgs_nil))))
  (pss_cons (ps_set (i := 8) sc__law_refused_so.nd rfl (Or.inl rfl) (pe_tupE (pa_cons pe_str (pa_cons (pe_ifExp (pt_val (pe_call (ok__law_num T) (hr.mono (by decide)) (by rfl) (T.glo "_law_num" rfl) (F__law_num T).kp (B__law_num T) .nil pass0 (pa_cons (pv 6) (pa_cons pe_int (pa_cons pe_int pa_nil))))) (pv 7) (pv 6)) pa_nil))))
  (pss_one (ps_ret (pe_call (ok__law_same T 2) (hr.mono (by decide)) (by rfl) (T.glo "_law_same" rfl) (F__law_same T).kp (B__law_same T) .nil pass0 (pa_cons (LamX.pe_lamcall (k := 5) (T := tabs K) (by rfl) (T.glo "_law_try" rfl) (F__law_try T).kp lkT hcT bT sc__law_try rfl (Or.inl rfl) (try_gives T) (hTB _ (by decide)) rfl hmT huT (hr.mono (by decide)) (LamX.lamS_by (sc := defScope s__law_refused_so) (by decide +kernel)) rfl (fun _ _ _ _ _ => rfl) (fun A outer s H E f c' hr => (pe_call (ok_speed T) (hr.mono (by decide)) (by rfl) (T.glo "speed" rfl) (F_speed T).kp (B_speed T) .nil (passes_call (takes_of rfl rfl rfl rfl) (fun _ _ _ _ h => h)) (pa_cons (pv 1) (pa_cons (pv 6) (pa_cons (pv 3) (pa_cons (pv 7) pa_nil))))))) (pa_cons (pv 8) pa_nil))))))))), ?_⟩)
  · obtain ⟨b, sc, fa, fb, ns, n, x, y, e, f, rfl, _⟩ := h
    rfl
  · obtain ⟨b, sc, fa, fb, ns, n, x, y, e, f, rfl, hb, hn, x1, x2, hva, hvb, be, bf, hT, hQ⟩ := h
    have fab := hb.neR hva
    have fbb := hb.neR hvb
    walk_at "in"
    walk_at "gg"
    rename_i q1 H1 hq1 e1 h1 q2 H2 hq2 e2 h2 q3 H3 hq3 e3 h3 q4 H4 hq4 e4 h4
    have q1b : q1 ≠ b := hb.out hq1
    have q2b : q2 ≠ b := (hb.ex e1 (by simp) (by simp)).out hq2
    have q3b : q3 ≠ b := ((hb.ex e1 (by simp) (by simp)).ex e2 (by simp) (by simp)).out hq3
    refine x_addL (by walk_at "lk1") (by walk_at "lk1") (by simp) fun q5 H5 hq5 e5 h5 => ?_
    have e05 : Ex [] H H5 := by walk_at "ex"
    have hb5 := hb.ex e05 (by simp) (by simp)
    have q5b : q5 ≠ b := (hb.ex (show Ex [] H H4 by walk_at "ex") (by simp) (by simp)).out hq5
    have h15 : H5 q1 = some (.tup [.int 2]) := (e2.tr (e3.tr (e4.tr e5))) _ _ (by simp) h1
    have h25 : H5 q2 = some (.lst [.int 2]) := (e3.tr (e4.tr e5)) _ _ (by simp) h2
    have h35 := (e4.tr e5) _ _ (by simp) h3
    have oc : OD K [b] H5 (fun d => isNum d 1 64 = false) _ := OD.cons (.int 0) (.int 0) (by decide) (OD.cons (.int 65) (.int 65) (by decide) (OD.cons (.int (-1)) (.int _) (by decide) (OD.cons .non .non rfl (OD.cons (.bl true) (.bl true) rfl (OD.cons (.str "2") (.str "2") rfl
      (OD.cons (.tup (sqt_of h15) (by simpa using q1b) (.cons (.int 2) .nil)) (.tup (by simp) fun d hd => by rw [List.mem_singleton.mp hd]; exact .int 2) rfl (OD.cons (.lst (sql_of h25) (by simpa using q2b) (.cons (.int 2) .nil)) (.lst (by simp) fun d hd => by rw [List.mem_singleton.mp hd]; exact .int 2) rfl
        (OD.cons (.int 999999999) (.int _) (by decide) (OD.cons (.bl false) (.bl false) rfl OD.nil)))))))))
    have oc2 : OD K [b] H5 (fun d => isNum d 1 64 = false ∨ d = .int x) [V.int x, V.int x] := OD.cons (.int x) (.int x) (.inr rfl) (OD.cons (.int x) (.int x) (.inr rfl) OD.nil)
    clear h1 h2 h3 h4 hq1 hq2 hq3 hq4 e1 e2 e3 e4 e5 h15 h25
    walk_at "gg"
    refine ⟨b, sc, q5, ns, n, _, rfl, hb5, by omega, .inl (sql_of h5), q5b, by simp, by simp, fun i v H6 hv e6 hb6 => ?_⟩
    obtain ⟨d, hd, dd, hdp⟩ := (OD.app (oc.imp fun _ => .inl) oc2).get hv
    have h36 := e6 _ _ (by simpa using q3b) h35
    walk_at "gg"
    refine ⟨b, sc, q3, ns, _, _, rfl, hb6, by omega, .inl (sql_of h36), q3b, by simp, by simp, fun j u H7 hu e7 hb7 => ?_⟩
    obtain ⟨d', hd', dd', hdp'⟩ := (oc.ex e6 (by simp)).get hu
    have hdv := (hd.ex e6 (by simp)).ex e7 (by simp)
    have hdu := hd'.ex e7 (by simp)
    have e57 : Ex [b] H5 H7 := e6.tr e7
    have hva7 := (hva.ex e05 (by simp)).ex e57 (by simpa using fab)
    have hvb7 := (hvb.ex e05 (by simp)).ex e57 (by simpa using fbb)
    have hT7 := hb5.tabs e57 (tabs_ex0 e05 hT)
    clear hv hu h35 h36 h5 hq5 oc oc2 e6 e7 hd hd' hb5 hb6 e57 e05
    walk_at "gg"
    rename_i tp H8 htp e8 h8
    clear htp h8
    have hdv8 := hdv.ex e8 (by simp)
    have hdu8 := hdu.ex e8 (by simp)
    have hva8 := hva7.ex e8 (by simp)
    have hvb8 := hvb7.ex e8 (by simp)
    have hb8 := hb7.ex e8 (by simp) (by simp)
    have hT8 := tabs_ex0 e8 hT7
    clear hdv hdu hva7 hvb7 hb7 hT7 e8
    have dp : ∀ {z : DV}, Deep 1 z → Deep 2 (.tup [.str "InvalidNumber", z]) := fun {z} hz => .tup (by simp) fun c hc => by
      simp only [List.mem_cons, List.not_mem_nil, or_false] at hc
      rcases hc with rfl | rfl
      · exact .str _
      · exact hz
    have fin : ∀ {z : V} {dz : DV} {H9 H10 H11 : Hp} {p9 p : Addr}, Deep 1 dz → Dat K [b] H10 z dz → LamX.ExtN H9 H10 → LamX.Tabs (tabs K) H10 → Bag K b sc ns H9 (n + 1 + 1) → H9 p9 = some (.tup [.str "InvalidNumber", z]) → Ex [] H10 H11 → H11 p = some (.tup [.str "InvalidNumber", z]) →
        spSame K 2 [.ref p, .ref p9] H11 Q E0 := fun {z dz H9 H10 H11 p9 p} hz hdz eN T10 hb9 h9 e11 h11 => by
      have hz11 : Dat K [] H11 z dz := (hdz.ex e11 (by simp)).sub (by simp)
      refine ⟨[], _, _, .tup [.str "InvalidNumber", dz], rfl, .tup (sqt_of h11) (by simp) (.cons (.str _) (.cons hz11 .nil)), .tup (sqt_of (e11 _ _ (by simp) (eN _ _ h9 nofun))) (by simp) (.cons (.str _) (.cons hz11 .nil)), dp hz, fun H12 e12 => ?_⟩
      have hb11 := ((hb9.N eN).ex e11 (by simp) (by simp)).ex e12 (by simp) (by simp)
      exact hQ H12 (hb11.mono (by omega)) (tabs_ex0 e12 (tabs_ex0 e11 T10))
    refine ⟨[b], v, d, 1, 64, rfl, hdv8, ?_⟩
    by_cases hdn : isNum d 1 64 = true
    · rw [hdn]
      walk_at "gg"
      rename_i p9 H9 hp9 e9 h9
      refine x_lam (tabs_ex0 e9 hT8) fun H10 eN T10 => ?_
      have hb9 := hb8.ex e9 (by simp) (by simp)
      have hdv10 := (hdv8.ex e9 (by simp)).N eN
      have hdu10 := (hdu8.ex e9 (by simp)).N eN
      walk_at "gg"
      refine ⟨[b], fa, fb, v, u, e, f, d, d', rfl, (hva8.ex e9 (by simp)).N eN, (hvb8.ex e9 (by simp)).N eN, be, bf, hdv10, hdu10, fun z => ?_, fun _ _ => try_inv fun p H11 e11 h11 => ?_, fun n' m' _ em h1 h2 h3 h4 => ?_⟩
      · rw [hdn] at z
        cases z
      · walk_at "gg"
        exact fin dd' hdu10 eN T10 hb9 h9 e11 h11
      · rw [em] at hdp'
        exact absurd hdp' (by simp [isNum]; omega)
    · have hdn' : isNum d 1 64 = false := by simpa using hdn
      rw [hdn']
      walk_at "gg"
      rename_i p9 H9 hp9 e9 h9
      refine x_lam (tabs_ex0 e9 hT8) fun H10 eN T10 => ?_
      have hb9 := hb8.ex e9 (by simp) (by simp)
      have hdv10 := (hdv8.ex e9 (by simp)).N eN
      have hdu10 := (hdu8.ex e9 (by simp)).N eN
      walk_at "gg"
      refine ⟨[b], fa, fb, v, u, e, f, d, d', rfl, (hva8.ex e9 (by simp)).N eN, (hvb8.ex e9 (by simp)).N eN, be, bf, hdv10, hdu10, fun _ => try_inv fun p H11 e11 h11 => ?_, fun z => ?_, fun n' m' _ em h1 h2 h3 h4 => ?_⟩
      · walk_at "gg"
        exact fin dd hdv10 eN T10 hb9 h9 e11 h11
      · rw [hdn'] at z
        cases z
      · rw [em] at hdp'
        exact absurd hdp' (by simp [isNum]; omega)
end
end BF
/-! ## one turn -/
namespace BF
open PySem PySem.Spec PyProof.Rows L2
def outD : Out → DV
  | .ok t c => .tup [.str "", .tup [.int t, .int c]]
  | .err i j => .tup [.str "NoSpeed", .int (prs.getD i 0 : Nat), .int (prs.getD j 0 : Nat)]
theorem outD_deep (o : Out) : Deep 2 (outD o) := by
  cases o with
  | ok t c =>
    refine .tup (by simp) fun d hd => ?_
    simp only [List.mem_cons, List.not_mem_nil, or_false] at hd
    rcases hd with rfl | rfl
    · exact .str _
    · refine .tup (by simp) fun d hd => ?_
      simp only [List.mem_cons, List.not_mem_nil, or_false] at hd
      rcases hd with rfl | rfl
      · exact .int _
      · exact .int _
  | err i j =>
    refine .tup (by simp) fun d hd => ?_
    simp only [List.mem_cons, List.not_mem_nil, or_false] at hd
    rcases hd with rfl | rfl | rfl
    · exact .str _
    · exact .int _
    · exact .int _
section
variable {P : Program} {w : World} {K : PySem.W.Frag} {mg : Str → Option Value} {base : Heap} {H H1 : Hp}
theorem Due.dat {p : Addr} {o : Out} (h : Due H p o) : Dat K [] H (.ref p) (outD o) := by
  cases o with
  | ok t c =>
    obtain ⟨q, h1, h2⟩ := h
    exact .tup (sqt_of h1) (by simp) (.cons (.str _) (.cons (.tup (sqt_of h2) (by simp) (.cons (.int _) (.cons (.int _) .nil))) .nil))
  | err i j =>
    have h : H p = some (.tup [.str "NoSpeed", prv i, prv j]) := h
    exact .tup (sqt_of h) (by simp) (.cons (.str _) (.cons (.int _) (.cons (.int _) .nil)))
theorem Due.ex {p : Addr} {o : Out} (h : Due H p o) (e : Ex [] H H1) : Due H1 p o := by
  cases o with
  | ok t c =>
    obtain ⟨q, h1, h2⟩ := h
    exact ⟨q, e _ _ (by simp) h1, e _ _ (by simp) h2⟩
  | err i j => exact e _ _ (by simp) h
theorem Due.N {p : Addr} {o : Out} (h : Due H p o) (e : LamX.ExtN H H1) : Due H1 p o := by
  cases o with
  | ok t c =>
    obtain ⟨q, h1, h2⟩ := h
    exact ⟨q, e _ _ h1 nofun, e _ _ h2 nofun⟩
  | err i j => exact e _ _ h nofun
theorem star_no {e : Expr} {es : List Expr} {env : Env} {pos : Pos} (h : starEach (e :: es) env = (false, eval e env) :: starEach es env) (k : (backTo pos (starEach es env)).any (·.1) = false) : (backTo pos (starEach (e :: es) env)).any (·.1) = false := by
  rw [h]
  unfold backTo at k ⊢
  rw [List.map_cons, List.any_cons, k]
  rfl
theorem un_invK (T : TT K mg) {X : Cx} (eK : X.K = K) (em : X.mg = mg) (hr : Room 4 X.A) : UnR X (unaryOp .Invert) (rOwn1 (He.ga K "Ratio") (spRInv K) E0) := by
  subst eK em
  exact un_ownInv (C := He.ga X.K "Ratio") (ok_Ratio___invert__ T) hr (inv_fact T) (inv_fact2 T) (B_Ratio___invert__ T) pass0
/-- speed, asked in a _law_try, of signs that hold -/
theorem speed_try {fa fb : Addr} {n m : Nat} {e f : List Int} {Q : VK} (hva : Rv K H fa e) (hvb : Rv K H fb f) (be : Bd 41 e) (bf : Bd 41 f) (n1 : 1 ≤ n) (n2 : n ≤ 64) (m1 : 1 ≤ m) (m2 : m ≤ 64)
    (k : ∀ p H2, Ex [] H H2 → Due H2 p (spd (sb e f) (sb (xs n) (xs m))) → Q (.ref p) H2) : spSpeed K [.ref fa, .int n, .ref fb, .int m] H (tQ Q) (fun cls d H' => TryX K cls d H' Q) := by
  have q1 : isNum (.int n) 1 64 = true := by simp [isNum]; omega
  have q2 : isNum (.int m) 1 64 = true := by simp [isNum]; omega
  refine ⟨[], fa, fb, .int n, .int m, e, f, .int n, .int m, rfl, hva, hvb, be, bf, .int _, .int _, fun z => ?_, fun _ z => ?_, fun n' m' en em _ _ _ _ => ⟨fun t c ho q H2 e2 hq => ⟨by simp, fun p H3 hp e3 h3 => k p H3 (e2.tr e3) ?_⟩, fun i j ho => try_no fun p H2 e2 h2 => k p H2 e2 ?_⟩⟩
  · rw [q1] at z; cases z
  · rw [q2] at z; cases z
  · injection en with en
    injection em with em
    rw [show n' = n by omega, show m' = m by omega] at ho
    rw [ho]
    exact ⟨q, h3, e3 _ _ (by simp) hq⟩
  · injection en with en
    injection em with em
    rw [show n' = n by omega, show m' = m by omega] at ho
    rw [ho]
    exact h2
/-- speed of two equal movers -/
theorem speed_one {fa : Addr} {n : Nat} {e : List Int} {Q : VK} {E : XK} (hva : Rv K H fa e) (be : Bd 41 e) (n1 : 1 ≤ n) (n2 : n ≤ 64)
    (k : ∀ p H2, Ex [] H H2 → H2 p = some (.tup [.int 1, .int 0]) → Q (.ref p) H2) : spSpeed K [.ref fa, .int n, .ref fa, .int n] H Q E := by
  have q1 : isNum (.int n) 1 64 = true := by simp [isNum]; omega
  have hs : ∀ v, spd (sb e e) v = .ok 1 0 := fun v => spd_zero fun k hk => by rw [gt0_sb hva.1 hva.1 hk, Int.sub_self]
  refine ⟨[], fa, fa, .int n, .int n, e, e, .int n, .int n, rfl, hva, hva, be, be, .int _, .int _, fun z => ?_, fun _ z => ?_, fun n' m' en em _ _ _ _ => ⟨fun t c ho q H2 e2 hq => ?_, fun i j ho => ?_⟩⟩
  · rw [q1] at z; cases z
  · rw [q1] at z; cases z
  · rw [hs] at ho
    cases ho
    exact k q H2 e2 hq
  · rw [hs] at ho
    cases ho
structure St (K : PySem.W.Frag) (b sc fa fb la p : Addr) (ns : List Int) (n : Int) (e f : List Int) (o : Out) (H : Hp) : Prop where
  bag : Bag K b sc ns H n
  ra : Rv K H fa e
  rb : Rv K H fb f
  due : Due H p o
  la : H la = some (.lst (e.map V.int))
  tab : LamX.Tabs (tabs K) H
theorem St.ex {b sc fa fb la p : Addr} {ns : List Int} {n : Int} {e f : List Int} {o : Out} (s : St K b sc fa fb la p ns n e f o H) (x : Ex [] H H1) : St K b sc fa fb la p ns n e f o H1 :=
  ⟨s.bag.ex x (by simp) (by simp), s.ra.ex x (by simp), s.rb.ex x (by simp), s.due.ex x, x _ _ (by simp) s.la, tabs_ex0 x s.tab⟩
theorem St.N {b sc fa fb la p : Addr} {ns : List Int} {n : Int} {e f : List Int} {o : Out} (s : St K b sc fa fb la p ns n e f o H) (x : LamX.ExtN H H1) (t : LamX.Tabs (tabs K) H1) : St K b sc fa fb la p ns n e f o H1 :=
  ⟨s.bag.N x, s.ra.N x, s.rb.N x, s.due.N x, x _ _ s.la nofun, t⟩
def spOnce (K : PySem.W.Frag) : Sp := fun vs H Q _ => ∃ (b sc : Addr) (ns : List Int) (n : Int), vs = [.ref b] ∧ Bag K b sc ns H n ∧ n ≤ 500000 ∧ LamX.Tabs (tabs K) H ∧ ∀ H', Bag K b sc ns H' (n + 400) → LamX.Tabs (tabs K) H' → Q (.bl true) H'
theorem sc__law_once : FnScope ["_law_bag_here", "_law_na", "_law_nb", "_law_ea", "_law_eb", "_law_flow_a", "_law_flow_b", "_law_due", "_law_found"] ["_law_bag_here"] (defScope s__law_once) := ⟨rfl, rfl, rfl, by decide +kernel, rfl, by decide +kernel, by decide +kernel⟩
set_option maxHeartbeats 0 in
theorem ok__law_once (T : TT K mg) (hTB : ∀ p ∈ tf, LamX.TabB base mg (He.cT K p).1 (He.cT K p).2) : FnOk P w K mg base CX0 9 (He.ga K "_law_once") (fdOf K ("_law_once", none)) ["_law_bag_here"] (spOnce K) := by
  obtain ⟨oc, od, dV, kV, doc, pm, an, cdv', ct, osl, hfd, lkT, hcT, _, _⟩ := (F__law_try T).ex
  have bT := B__law_try T
  rw [hfd] at bT lkT
  have hmT : ((He.cT K ("_law_once", none)).2, ("_law_once" ++ ".<locals>." ++ "<lambda>" : Str)) ∈ tabs K := List.mem_cons_of_mem _ List.mem_cons_self
  have huT : ∀ p ∈ tabs K, p.1 = (He.cT K ("_law_once", none)).2 → p.2 = ("_law_once" ++ ".<locals>." ++ "<lambda>" : Str) := fun p hp z => by
    rcases List.mem_cons.mp hp with rfl | hp
    · exact absurd z (tab_ne T)
    · rw [List.mem_singleton.mp hp]
  refine okL (p := ("_law_once", none)) (F__law_once T) sc__law_once (fun vs H Q E h => ?_) (fun A outer s H vs Q E hr h => ⟨_, PSs.nox ((pss_cons (ps_asg (pe_call (ok__law_two_signs T) (hr.mono (by decide)) (by rfl) (T.glo "_law_two_signs" rfl) (F__law_two_signs T).kp (B__law_two_signs T) .nil pass0 (pa_cons (pv 0) pa_nil)) (pg_tup rfl (pgs_cons (pg_name (i := 1) sc__law_once.nd rfl (Or.inr rfl)) (pgs_cons (pg_name (i := 2) sc__law_once.nd rfl (Or.inr rfl)) pgs_nil))))
  (pss_cons (ps_asg (pe_call (ok__law_two_flows T) (hr.mono (by decide)) (by rfl) (T.glo "_law_two_flows" rfl) (F__law_two_flows T).kp (B__law_two_flows T) .nil pass0 (pa_cons (pv 0) (pa_cons (pv 1) (pa_cons (pv 2) pa_nil)))) (pg_tup rfl (pgs_cons (pg_name (i := 3) sc__law_once.nd rfl (Or.inl rfl)) (pgs_cons (pg_name (i := 4) sc__law_once.nd rfl (Or.inl rfl)) pgs_nil))))
  (pss_cons (ps_asg (pe_tupE (pa_cons (pe_call (ok__law_ratio_of T) (hr.mono (by decide)) (by rfl) (T.glo "_law_ratio_of" rfl) (F__law_ratio_of T).kp (B__law_ratio_of T) .nil pass0 (pa_cons (pv 3) pa_nil)) (pa_cons (pe_call (ok__law_ratio_of T) (hr.mono (by decide)) (by rfl) (T.glo "_law_ratio_of" rfl) (F__law_ratio_of T).kp (B__law_ratio_of T) .nil pass0 (pa_cons (pv 4) pa_nil)) pa_nil))) (pg_tup rfl (pgs_cons (pg_name (i := 5) sc__law_once.nd rfl (Or.inr rfl)) (pgs_cons (pg_name (i := 6) sc__law_once.nd rfl (Or.inr rfl)) pgs_nil))))
  (pss_cons (ps_set (i := 7) sc__law_once.nd rfl (Or.inl rfl) (pe_call (ok__law_speed T) (hr.mono (by decide)) (by rfl) (T.glo "_law_speed" rfl) (F__law_speed T).kp (B__law_speed T) .nil pass0 (pa_cons (pv 3) (pa_cons (pv 1) (pa_cons (pv 4) (pa_cons (pv 2) pa_nil))))))
  (pss_cons (ps_if (pt_not (pt_val (pe_call (ok__law_same T 2) (hr.mono (by decide)) (by rfl) (T.glo "_law_same" rfl) (F__law_same T).kp (B__law_same T) .nil pass0 (pa_cons (LamX.pe_lamcall (k := 5) (T := tabs K) (by rfl) (T.glo "_law_try" rfl) (F__law_try T).kp lkT hcT bT sc__law_try rfl (Or.inl rfl) (try_gives T) (hTB _ (by decide)) rfl hmT huT (hr.mono (by decide)) (LamX.lamS_by (sc := defScope s__law_once) (by decide +kernel)) rfl (fun _ _ _ _ _ => rfl) (fun A outer s H E f c' hr => (pe_call (ok_speed T) (hr.mono (by decide)) (by rfl) (T.glo "speed" rfl) (F_speed T).kp (B_speed T) .nil (passes_call (takes_of rfl rfl rfl rfl) (fun _ _ _ _ h => h)) (hpl := by exact star_no rfl (star_no rfl (star_no rfl rfl))) (pa_cons (pv 5) (pa_cons (pv 1) (pa_cons (pv 6) (pa_cons (pv 2) pa_nil))))))) (pa_cons (pv 7) pa_nil))))) (pss_one (ps_ret pe_bl)) pss_nil)
  (pss_cons (ps_set (i := 8) sc__law_once.nd rfl (Or.inl rfl) (LamX.pe_lamcall (k := 5) (T := tabs K) (by rfl) (T.glo "_law_try" rfl) (F__law_try T).kp lkT hcT bT sc__law_try rfl (Or.inl rfl) (try_gives T) (hTB _ (by decide)) rfl hmT huT (hr.mono (by decide)) (LamX.lamS_by (sc := defScope s__law_once) (by decide +kernel)) rfl (fun _ _ _ _ _ => rfl) (fun A outer s H E f c' hr => (pe_callN0 (ok_speed T) (hr.mono (by decide)) (by rfl) (T.glo "speed" rfl) (F_speed T).kp (kb_speed T) (passes_call (takes_of rfl rfl rfl rfl) (fun _ _ _ _ h => h)) (pk_cons (pv 2) (pk_cons (pv 6) (pk_cons (pv 1) (pk_cons (pv 5) pk_nil))))))))
  (pss_cons (ps_if (pt_not (pt_val (pe_call (ok__law_same T 2) (hr.mono (by decide)) (by rfl) (T.glo "_law_same" rfl) (F__law_same T).kp (B__law_same T) .nil pass0 (pa_cons (pv 8) (pa_cons (pv 7) pa_nil))))) (pss_one (ps_ret pe_bl)) pss_nil)
  (pss_cons (ps_if (pt_not (pt_val (pe_call (ok__law_same T 2) (hr.mono (by decide)) (by rfl) (T.glo "_law_same" rfl) (F__law_same T).kp (B__law_same T) .nil pass0 (pa_cons (LamX.pe_lamcall (k := 5) (T := tabs K) (by rfl) (T.glo "_law_try" rfl) (F__law_try T).kp lkT hcT bT sc__law_try rfl (Or.inl rfl) (try_gives T) (hTB _ (by decide)) rfl hmT huT (hr.mono (by decide)) (LamX.lamS_by (sc := defScope s__law_once) (by decide +kernel)) rfl (fun _ _ _ _ _ => rfl) (fun A outer s H E f c' hr => (pe_call (ok_speed T) (hr.mono (by decide)) (by rfl) (T.glo "speed" rfl) (F_speed T).kp (B_speed T) .nil (passes_call (takes_of rfl rfl rfl rfl) (fun _ _ _ _ h => h)) (hpl := by exact star_no rfl (star_no rfl (star_no rfl rfl))) (pa_cons (pv 6) (pa_cons (pv 2) (pa_cons (pv 5) (pa_cons (pv 1) pa_nil))))))) (pa_cons (pv 7) pa_nil))))) (pss_one (ps_ret pe_bl)) pss_nil)
  (pss_cons (ps_if (PW.pt (pw_or (pt_not (pt_val (pe_call (ok__law_same T 2) (hr.mono (by decide)) (by rfl) (T.glo "_law_same" rfl) (F__law_same T).kp (B__law_same T) .nil pass0 (pa_cons (pe_call (ok_speed T) (hr.mono (by decide)) (by rfl) (T.glo "speed" rfl) (F_speed T).kp (B_speed T) .nil passL (hpl := by exact star_no rfl (star_no rfl (star_no rfl rfl))) (pa_cons (pv 5) (pa_cons (pv 1) (pa_cons (pv 5) (pa_cons (pv 1) pa_nil))))) (pa_cons (pe_tupE (pa_cons pe_int (pa_cons pe_int pa_nil))) pa_nil))))) (pw_or1 (pt_not (pt_val (pe_call (ok__law_same T 2) (hr.mono (by decide)) (by rfl) (T.glo "_law_same" rfl) (F__law_same T).kp (B__law_same T) .nil pass0 (pa_cons (LamX.pe_lamcall (k := 5) (T := tabs K) (by rfl) (T.glo "_law_try" rfl) (F__law_try T).kp lkT hcT bT sc__law_try rfl (Or.inl rfl) (try_gives T) (hTB _ (by decide)) rfl hmT huT (hr.mono (by decide)) (LamX.lamS_by (sc := defScope s__law_once) (by decide +kernel)) rfl (fun _ _ _ _ _ => rfl) (fun A outer s H E f c' hr => (pe_call (ok_speed T) (hr.mono (by decide)) (by rfl) (T.glo "speed" rfl) (F_speed T).kp (B_speed T) .nil (passes_call (takes_of rfl rfl rfl rfl) (fun _ _ _ _ h => h)) (hpl := by exact star_no rfl (star_no rfl (star_no rfl rfl))) (pa_cons (pe_un (by exact un_invK T rfl rfl (hr.mono (by decide))) (pv 5)) (pa_cons (pv 1) (pa_cons (pe_un (by exact un_invK T rfl rfl (hr.mono (by decide))) (pv 6)) (pa_cons (pv 2) pa_nil))))))) (pa_cons (pe_call (ok__law_turned T) (hr.mono (by decide)) (by rfl) (T.glo "_law_turned" rfl) (F__law_turned T).kp (B__law_turned T) .nil pass0 (pa_cons (pv 7) pa_nil)) pa_nil)))))))) (pss_one (ps_ret pe_bl)) pss_nil)
  (pss_cons (ps_if (PW.pt (pw_and (pt_cmpR op_eq (pe_ix (ix_LTK K) (pv 7) pe_int (fun _ _ => rfl)) pe_str (nomark _)) (pw_and1 (pt_not (pt_val (pe_call (ok__law_framed_so T) (hr.mono (by decide)) (by rfl) (T.glo "_law_framed_so" rfl) (F__law_framed_so T).kp (B__law_framed_so T) .nil pass0 (pa_cons (pv 0) (pa_cons (pv 5) (pa_cons (pv 1) (pa_cons (pv 6) (pa_cons (pv 2) (pa_cons (pv 3) (pa_cons (pv 7) pa_nil))))))))))))) (pss_one (ps_ret pe_bl)) pss_nil)
  (pss_one (ps_ret (pe_call (ok__law_refused_so T hTB) (hr.mono (by decide)) (by rfl) (T.glo "_law_refused_so" rfl) (F__law_refused_so T).kp (B__law_refused_so T) .nil pass0 (pa_cons (pv 0) (pa_cons (pv 5) (pa_cons (pv 1) (pa_cons (pv 6) (pa_cons (pv 2) pa_nil))))))))))))))))))), ?_⟩)
  · obtain ⟨b, sc, ns, n, rfl, _⟩ := h
    rfl
  · obtain ⟨b, sc, ns, n, rfl, hb, hn, hT, hQ⟩ := h
    walk_at "in"
    walk_at "gg"
    refine ⟨b, sc, ns, n, rfl, hb, by omega, fun p0 x y H1 x1 x2 y1 y2 e1 hb1 h1 => ?_⟩
    have hT1 := hb.tabs e1 hT
    walk_at "gg"
    refine ⟨b, sc, ns, _, x, y, rfl, hb1, by omega, x1, x2, y1, y2, fun p1 la lb e f H2 le lf be bf e2 hb2 h2 hla hlb => ?_⟩
    have hT2 := hb1.tabs e2 hT1
    have lab : la ≠ b := fun z => by
      obtain ⟨i, r, m, k, h, _⟩ := hb2.obj
      rw [z, h] at hla
      have h := congrArg (fun o => match o with | some (HO.lst l) => l.length | _ => 0) hla
      simp [le] at h
    walk_at "gg"
    refine ⟨la, e, rfl, sql_of hla, le, be.le (by decide), fun fa H3 e3 hva => ?_⟩
    walk_at "gg"
    refine ⟨lb, f, rfl, sql_of (e3 _ _ (by simp) hlb), lf, bf.le (by decide), fun fb H4 e4 hvb => ?_⟩
    walk_at "gg"
    rename_i pt Ht hpt et hpt'
    have e24 : Ex [] H2 Ht := (e3.tr e4).tr et
    refine ⟨la, lb, x, y, e, f, rfl, sql_of (e24 _ _ (by simp) hla), sql_of (e24 _ _ (by simp) hlb), le, lf, be, bf, x1, x2, y1, y2, fun p H5 e5 hdue => ?_⟩
    obtain ⟨o, ho⟩ : ∃ o, o = spd (sb e f) (sb (xs x) (xs y)) := ⟨_, rfl⟩
    rw [← ho] at hdue
    have e25 : Ex [] H2 H5 := e24.tr e5
    have s5 : St K b sc fa fb la p ns (n + 100 + 200) e f o H5 := ⟨hb2.ex e25 (by simp) (by simp), hva.ex ((e4.tr et).tr e5) (by simp), hvb.ex (et.tr e5) (by simp), hdue, e25 _ _ (by simp) hla, tabs_ex0 e25 hT2⟩
    clear hb1 hb2 hT1 hT2 hT hb hdue hva hvb e1 e2 e3 e4 e5 e24 e25 et hpt hpt' hla hlb h1 h2
    walk_at "gg"
    refine x_lam s5.tab fun H6 eN6 T6 => ?_
    have s6 := s5.N eN6 T6
    walk_at "gg"
    refine speed_try s6.ra s6.rb be bf x1 x2 y1 y2 fun r1 H7 e7 hr1 => ?_
    rw [← ho] at hr1
    have s7 := s6.ex e7
    walk_at "gg"
    refine ⟨[], _, _, outD o, rfl, hr1.dat, s7.due.dat, outD_deep _, fun H8 e8 => ?_⟩
    have s8 := s7.ex e8
    clear s5 s6 s7 eN6 T6 e7 e8 hr1
    walk_at "gg"
    refine x_lam s8.tab fun H9 eN9 T9 => ?_
    have s9 := s8.N eN9 T9
    refine x_callN ?_
    walk_at "gg"
    refine ⟨rfl, rfl, ?_⟩
    refine speed_try s9.ra s9.rb be bf x1 x2 y1 y2 fun r2 H10 e10 hr2 => ?_
    rw [← ho] at hr2
    have s10 := s9.ex e10
    walk_at "gg"
    refine ⟨[], _, _, outD o, rfl, hr2.dat, s10.due.dat, outD_deep _, fun H11 e11 => ?_⟩
    have s11 := s10.ex e11
    clear s8 s9 s10 eN9 T9 e10 e11 hr2
    walk_at "gg"
    refine x_lam s11.tab fun H12 eN12 T12 => ?_
    have s12 := s11.N eN12 T12
    walk_at "gg"
    refine speed_try s12.rb s12.ra bf be y1 y2 x1 x2 fun r3 H13 e13 hr3 => ?_
    rw [sb_swap (e := e), sb_swap (e := xs x), spd_neg, ← ho] at hr3
    have s13 := s12.ex e13
    walk_at "gg"
    refine ⟨[], _, _, outD o, rfl, hr3.dat, s13.due.dat, outD_deep _, fun H14 e14 => ?_⟩
    have s14 := s13.ex e14
    clear s11 s12 s13 eN12 T12 e13 e14 hr3
    walk_at "gg"
    refine speed_one s14.ra be x1 x2 fun r4 H15 e15 hr4 => ?_
    have s15 := s14.ex e15
    walk_at "gg"
    rename_i p5 H16 hp5 e16 h16
    have s16 := s15.ex e16
    refine ⟨[], _, _, .tup [.int 1, .int 0], rfl, .tup (sqt_of (e16 _ _ (by simp) hr4)) (by simp) (.cons (.int _) (.cons (.int _) .nil)), .tup (sqt_of h16) (by simp) (.cons (.int _) (.cons (.int _) .nil)), ?_, fun H17 e17 => ?_⟩
    · refine .tup (by simp) fun d hd => ?_
      simp only [List.mem_cons, List.not_mem_nil, or_false] at hd
      rcases hd with rfl | rfl
      · exact .int _
      · exact .int _
    have s17 := s16.ex e17
    clear s14 s15 s16 e15 e16 e17 hr4 h16 hp5
    walk_at "gg"
    refine x_lam s17.tab fun H18 eN18 T18 => ?_
    have s18 := s17.N eN18 T18
    obtain ⟨_, dxa, hoa⟩ := id s18.ra
    walk_at "gg"
    refine x_own1 hoa ⟨fa, e, rfl, s18.ra, fun ia H19 e19 hia => ?_⟩
    have s19 := s18.ex e19
    obtain ⟨_, dxb, hob⟩ := id s19.rb
    walk_at "gg"
    refine x_own1 hob ⟨fb, f, rfl, s19.rb, fun ib H20 e20 hib => ?_⟩
    have s20 := s19.ex e20
    walk_at "gg"
    refine speed_try (hia.ex e20 (by simp)) hib be.ng bf.ng x1 x2 y1 y2 fun r5 H21 e21 hr5 => ?_
    rw [sb_ng, spd_ngu, ← ho] at hr5
    have s21 := s20.ex e21
    clear s17 s18 s19 s20 eN18 T18 e19 e20 e21 hoa hob hia hib
    walk_at "gg"
    refine ⟨p, o, rfl, s21.due, fun r6 H22 e22 hr6 => ?_⟩
    have s22 := s21.ex e22
    walk_at "gg"
    refine ⟨[], _, _, outD (turned o), rfl, (hr5.ex e22).dat, hr6.dat, outD_deep _, fun H23 e23 => ?_⟩
    have s23 := s22.ex e23
    clear s21 s22 e22 e23 hr5 hr6
    walk_at "gg"
    have fab := s23.bag.neR s23.ra
    have fbb := s23.bag.neR s23.rb
    have fin : ∀ H', Bag K b sc ns H' (n + 100 + 200 + 10) → Rv K H' fa e → Rv K H' fb f → LamX.Tabs (tabs K) H' → spRef K [.ref b, .ref fa, .int x, .ref fb, .int y] H' Q E := fun H' g1 g2 g3 g4 => ⟨b, sc, fa, fb, ns, _, x, y, e, f, rfl, g1, by omega, x1, x2, g2, g3, be, bf, g4, fun H'' k1 k2 => hQ H'' (k1.mono (by omega)) k2⟩
    cases o with
    | ok t c =>
      obtain ⟨q, hp, hq⟩ := s23.due
      walk_at "gg"
      refine ⟨b, sc, fa, fb, la, p, ns, _, x, y, e, f, t, c, rfl, s23.bag, by omega, x1, x2, y1, y2, s23.ra, s23.rb, be, bf, sql_of s23.la, lab, s23.due, ho.symm, fun H24 e24 hb24 => ?_⟩
      walk_at "gg"
      exact fin H24 hb24 (s23.ra.ex e24 (by simpa using fab)) (s23.rb.ex e24 (by simpa using fbb)) (s23.bag.tabs e24 s23.tab)
    | err i j =>
      have hp : H23 p = some (.tup [.str "NoSpeed", prv i, prv j]) := s23.due
      walk_at "gg"
      exact fin H23 (s23.bag.mono (by omega)) s23.ra s23.rb s23.tab
end
end BF
/-! ## the law, and the end -/
namespace BF
open PySem PySem.Spec PyProof.Rows L2
def spLaw (K : PySem.W.Frag) : Sp := fun vs H Q _ => ∃ (a : Addr) (ns : List Int), vs = [.ref a] ∧ SqL K H a (ns.map V.int) ∧ LamX.Tabs (tabs K) H ∧ ∀ H', Q (.bl true) H'
section
variable {P : Program} {w : World} {K : PySem.W.Frag} {mg : Str → Option Value} {base : Heap}
theorem sc_law : FnScope ["_law_script", "_law_bag_here", "_law_turn"] ["_law_script"] (defScope s_law) := ⟨rfl, rfl, rfl, by decide +kernel, rfl, by decide +kernel, by decide +kernel⟩
theorem ok_law (T : TT K mg) (hTB : ∀ p ∈ tf, LamX.TabB base mg (He.cT K p).1 (He.cT K p).2) : FnOk P w K mg base CX0 10 (He.ga K "law") (fdOf K ("law", none)) ["_law_script"] (spLaw K) := by
  refine (F_law T).ok sc_law (fun vs H Q E h => ?_) (fun cdv A outer s H vs Q E hr h => ⟨_, PSs.nox ((pss_cons (ps_set (i := 1) sc_law.nd rfl (Or.inl rfl) (pe_call (ok__law_bag T) (hr.mono (by decide)) (by rfl) (T.glo "_law_bag" rfl) (F__law_bag T).kp (B__law_bag T) .nil pass0 (pa_cons (pv 0) pa_nil)))
  (pss_cons (ps_for PassesOwn.never rfl (pi_range1 (by rfl) (T.free "range" rfl) (pa_cons pe_int pa_nil)) (pg_name (i := 2) sc_law.nd rfl (Or.inl rfl)) (pss_one (ps_if (pt_not (pt_val (pe_call (ok__law_once T hTB) (hr.mono (by decide)) (by rfl) (T.glo "_law_once" rfl) (F__law_once T).kp (B__law_once T) .nil pass0 (pa_cons (pv 1) pa_nil)))) (pss_one (ps_ret pe_bl)) pss_nil)))
  (pss_one (ps_ret pe_bl))))), ?_⟩)
  · obtain ⟨a, ns, rfl, _⟩ := h
    rfl
  · obtain ⟨a, ns, rfl, ha, hT, hQ⟩ := h
    walk_at "in"
    walk_at "gg"
    refine ⟨a, ns, rfl, ha, fun b sc ms H1 _ _ e1 hb => ?_⟩
    have hT1 := tabs_ex0 e1 hT
    walk_at "gg"
    refine for_it walk_range (fun i σ H' => (∃ o, σ = [some (.ref a), some (.ref b), o]) ∧ Bag K b sc ms H' (400 * i) ∧ LamX.Tabs (tabs K) H') ⟨⟨none, rfl⟩, hb.mono (by omega), hT1⟩ (fun _ _ _ _ _ => trivial) ?_ ?_
    · rintro i x σ H2 H3 hi ⟨⟨o, rfl⟩, hb2, hT2⟩ ⟨rfl, rfl⟩
      have hi8 : i < 8 := hi
      walk_at "gg"
      refine ⟨b, sc, ms, _, rfl, hb2, by omega, hT2, fun H4 hb4 hT4 => ?_⟩
      walk_at "gg"
      exact ⟨⟨_, rfl⟩, hb4.mono (by omega), hT4⟩
    · rintro σ H2 ⟨⟨o, rfl⟩, _, _⟩
      walk_at "gg"
      exact hQ H2
end
theorem tx_of {K : PySem.W.Frag} {h : Heap} {mg : Str → Option Value} {w : World} (X : K.In h) (G : h.Ns mainGlobals mg) (c : He.SaysX fa fn [] tf more w h K) : TT K mg :=
  ⟨c.t.d, c.more, fun x v e => PySem.W.mg_of X G e, fun x e => PySem.W.mg_none_of X G e⟩
theorem law_at {w : World} {K : PySem.W.Frag} {h : Heap} {mg : Str → Option Value} (l : PySem.W.OpenLaw) (X : K.In h) (G : h.Ns mainGlobals mg) (c : He.SaysX fa fn [] tf more w h K) : LamX.LawAtS l w K CX0 10 63 "_law_script" mg (He.ga K "law") h := by
  have T := tx_of X G c
  have hb := (F_law T).bindsA (ps := ["_law_script"]) fun _ _ _ _ _ _ us hl => match us, hl with | [_], _ => rfl
  refine ⟨fdOf K ("law", none), tf.map (He.cT K), spLaw K, fun p hp => ?_, fun p hp => ?_, fun p hp => ?_, fun s u => hb s [u] rfl, fun H a ns _ _ hH hS => ⟨a, ns, rfl, hS, fun p hp => ?_, fun _ => rfl⟩, fun base _ _ hTB => ok_law T fun p hp => hTB _ (List.mem_map.mpr ⟨p, hp, rfl⟩)⟩
  · obtain ⟨q, hq, rfl⟩ := List.mem_map.mp hp
    exact c.empty q hq
  · obtain ⟨q, hq, rfl⟩ := List.mem_map.mp hp
    exact c.out q hq
  · obtain ⟨q, hq, rfl⟩ := List.mem_map.mp hp
    exact PySem.W.codeHd_of_K X (c.hd q hq)
  · obtain ⟨q, hq, rfl⟩ := List.mem_map.mp hp
    exact LamX.TabS.nil (hH _ (List.mem_map.mpr ⟨q, hq, rfl⟩))
end BF
/-! ## the end -/
open PySem PySem.W PySem.Calls PyProof.Rows
theorem PySem.Challenge.cw_borderflow_k18_whole_speeds_holds : PySem.Challenge.rw_borderflow_k18_whole_speeds.Holds := by
  w_on; o_law
  refine HandSHeadRun.head_imp (r := OpenLaw.row PySem.Challenge.rw_borderflow_k18_whole_speeds) (q := view (OpenLaw.row PySem.Challenge.rw_borderflow_k18_whole_speeds).prog [BF.lawAt]) (H := BF.hk) (ob := BF.ob) (M := 4000) (loose := BF.loose) (d := HandSHeadRun.topDef (OpenLaw.row PySem.Challenge.rw_borderflow_k18_whole_speeds).prog BF.lawAt) (kwd := [])
    BF.ob_eq BF.run (by kernel_rfl) (by kernel_rfl) (by kernel_rfl) (by rfl) (by first | assumption | decide +kernel) (by decide +kernel) ⟨rfl, rfl, rfl, rfl, rfl, by decide +kernel⟩ ?hw ?hc
  case hw => w_witness2
  case hc =>
    refine LamX.walk_ofTsE (l := PySem.Challenge.rw_borderflow_k18_whole_speeds) (n := 63) (k := 10) (x := "_law_script") (CX := fun _ => L2.CX0) rfl (by decide) (by kernel_rfl) ⟨rfl, by decide, by decide⟩ ?F (fun _ _ _ _ _ z => z)
    intro w mg at_ h ⟨K, KX, c⟩ G q0
    have q1 : mg ("law" : PySem.Str) = some (.ref at_) := by
      rw [← show (HandSHeadRun.topDef (OpenLaw.row PySem.Challenge.rw_borderflow_k18_whole_speeds).prog BF.lawAt).name = ("law" : PySem.Str) from by kernel_rfl]
      exact q0
    cases q1.symm.trans ((BF.tx_of KX G c).glo "law" rfl)
    exact ⟨K, KX, BF.law_at _ KX G c⟩
