import PyProof.Rows.All
import Wide.All
import OpenK.AllK
import Wide.FinOn
import PySem.Challenge.RW_sizechains_k07_whole_rules_of_exact
import HandS.ForMost
import HandS.More
import HandS.Style
import HandS.Wide
import HandS.WideBits
import HandS.IsInst
import HandS.FStr
import HandS.Star
import HandS.Defaults
import HandS.Walk
import HandS.Evl
set_option Elab.async false
set_option linter.all false
set_option maxRecDepth 100000
/-! part 1 -/
namespace Fx
abbrev F := Nat × Nat
def Red (p : F) : Prop := 0 < p.1 ∧ 0 < p.2 ∧ Nat.gcd p.1 p.2 = 1
def low (a b : Nat) : F := (a / Nat.gcd a b, b / Nat.gcd a b)
def tm (p q : F) : F := low (p.1 * q.1) (p.2 * q.2)
def ov (p q : F) : F := low (p.1 * q.2) (p.2 * q.1)
def ord (p q : F) : Int := if p.1 * q.2 = q.1 * p.2 then 0 else if p.1 * q.2 < q.1 * p.2 then -1 else 1
def less (p q : F) : Bool := decide (p.1 * q.2 < q.1 * p.2)
def one : F := (1, 1)
def val (p : F) : Rat := (p.1 : Rat) / (p.2 : Rat)

theorem cpos {n : Nat} (h : 0 < n) : (0 : Rat) < (n : Rat) := by exact_mod_cast h
theorem cne {n : Nat} (h : 0 < n) : (n : Rat) ≠ 0 := by
  have := cpos h
  grind
theorem val_pos {p : F} (h1 : 0 < p.1) (h2 : 0 < p.2) : 0 < val p := by
  unfold val
  rw [Rat.lt_div_iff (cpos h2), Rat.zero_mul]
  exact cpos h1
theorem Red.vp {p : F} (h : Red p) : 0 < val p := val_pos h.1 h.2.1
theorem Red.vn {p : F} (h : Red p) : val p ≠ 0 := by have := h.vp; grind
theorem red_low {a b : Nat} (ha : 0 < a) (hb : 0 < b) : Red (low a b) := by
  have g : 0 < Nat.gcd a b := Nat.gcd_pos_of_pos_left _ ha
  refine ⟨?_, ?_, ?_⟩
  · exact Nat.div_pos (Nat.le_of_dvd ha (Nat.gcd_dvd_left a b)) g
  · exact Nat.div_pos (Nat.le_of_dvd hb (Nat.gcd_dvd_right a b)) g
  · exact Nat.coprime_div_gcd_div_gcd g
theorem val_low {a b : Nat} (ha : 0 < a) (hb : 0 < b) : val (low a b) = (a : Rat) / (b : Rat) := by
  have g : 0 < Nat.gcd a b := Nat.gcd_pos_of_pos_left _ ha
  have r := red_low ha hb
  have e1 : low a b = (a / Nat.gcd a b, b / Nat.gcd a b) := rfl
  have h1 : (a / Nat.gcd a b) * Nat.gcd a b = a := Nat.div_mul_cancel (Nat.gcd_dvd_left a b)
  have h2 : (b / Nat.gcd a b) * Nat.gcd a b = b := Nat.div_mul_cancel (Nat.gcd_dvd_right a b)
  rw [e1]
  show ((a / Nat.gcd a b : Nat) : Rat) / ((b / Nat.gcd a b : Nat) : Rat) = _
  have p2 : 0 < b / Nat.gcd a b := r.2.1
  generalize a / Nat.gcd a b = x at h1
  generalize b / Nat.gcd a b = y at h2 p2
  generalize Nat.gcd a b = d at h1 h2 g
  subst h1 h2
  have hx := cne p2
  have hd := cne g
  rw [Rat.natCast_mul, Rat.natCast_mul]
  grind
theorem val_inj {p q : F} (hp : Red p) (hq : Red q) (h : val p = val q) : p = q := by
  obtain ⟨a, b⟩ := p
  obtain ⟨c, d⟩ := q
  obtain ⟨p1, p2, p3⟩ := hp
  obtain ⟨q1, q2, q3⟩ := hq
  simp only at p1 p2 p3 q1 q2 q3
  have hb := cne p2
  have hd := cne q2
  have e : (a : Rat) * (d : Rat) = (c : Rat) * (b : Rat) := by
    have h' : (a : Rat) / (b : Rat) = (c : Rat) / (d : Rat) := h
    grind
  have e' : a * d = c * b := by exact_mod_cast e
  have d1 : b ∣ d := by
    have z : b ∣ a * d := by rw [e']; exact Nat.dvd_mul_left b c
    exact Nat.Coprime.dvd_of_dvd_mul_left (show Nat.Coprime b a from (Nat.gcd_comm b a).trans p3) z
  have d2 : d ∣ b := by
    have z : d ∣ c * b := by rw [← e']; exact Nat.dvd_mul_left d a
    exact Nat.Coprime.dvd_of_dvd_mul_left (show Nat.Coprime d c from (Nat.gcd_comm d c).trans q3) z
  have e2 : b = d := Nat.dvd_antisymm d1 d2
  subst e2
  have e3 : a = c := Nat.eq_of_mul_eq_mul_right p2 e'
  rw [e3]
theorem red_tm {p q : F} (hp : Red p) (hq : Red q) : Red (tm p q) := red_low (Nat.mul_pos hp.1 hq.1) (Nat.mul_pos hp.2.1 hq.2.1)
theorem red_ov {p q : F} (hp : Red p) (hq : Red q) : Red (ov p q) := red_low (Nat.mul_pos hp.1 hq.2.1) (Nat.mul_pos hp.2.1 hq.1)
theorem val_tm {p q : F} (hp : Red p) (hq : Red q) : val (tm p q) = val p * val q := by
  unfold tm
  rw [val_low (Nat.mul_pos hp.1 hq.1) (Nat.mul_pos hp.2.1 hq.2.1), Rat.natCast_mul, Rat.natCast_mul]
  unfold val
  have := cne hp.2.1
  have := cne hq.2.1
  grind
theorem val_ov {p q : F} (hp : Red p) (hq : Red q) : val (ov p q) = val p / val q := by
  unfold ov
  rw [val_low (Nat.mul_pos hp.1 hq.2.1) (Nat.mul_pos hp.2.1 hq.1), Rat.natCast_mul, Rat.natCast_mul]
  unfold val
  have := cne hp.2.1
  have := cne hq.2.1
  have := cne hq.1
  grind
theorem red_one : Red one := ⟨Nat.one_pos, Nat.one_pos, rfl⟩
theorem val_one : val one = 1 := by
  show ((1 : Nat) : Rat) / ((1 : Nat) : Rat) = 1
  grind
def cmpR (x y : Rat) : Int := if x = y then 0 else if x < y then -1 else 1
theorem ord_cmp {p q : F} (hp : Red p) (hq : Red q) : ord p q = cmpR (val p) (val q) := by
  have b := cpos hp.2.1
  have d := cpos hq.2.1
  have e1 : (p.1 * q.2 = q.1 * p.2) ↔ val p = val q := by
    constructor
    · intro h
      have h' : (p.1 : Rat) * (q.2 : Rat) = (q.1 : Rat) * (p.2 : Rat) := by exact_mod_cast h
      unfold val
      grind
    · intro h
      have h' : (p.1 : Rat) * (q.2 : Rat) = (q.1 : Rat) * (p.2 : Rat) := by
        unfold val at h
        grind
      exact_mod_cast h'
  have e2 : (p.1 * q.2 < q.1 * p.2) ↔ val p < val q := by
    have z : (p.1 * q.2 < q.1 * p.2) ↔ (p.1 : Rat) * (q.2 : Rat) < (q.1 : Rat) * (p.2 : Rat) := by
      rw [← Rat.natCast_mul, ← Rat.natCast_mul, Rat.natCast_lt_natCast]
    rw [z, ← Rat.mul_lt_mul_right (a := val p) (b := val q) (Rat.mul_pos b d)]
    have x1 : val p * ((p.2 : Rat) * (q.2 : Rat)) = (p.1 : Rat) * (q.2 : Rat) := by
      unfold val
      have := cne hp.2.1
      grind
    have x2 : val q * ((p.2 : Rat) * (q.2 : Rat)) = (q.1 : Rat) * (p.2 : Rat) := by
      unfold val
      have := cne hq.2.1
      grind
    rw [x1, x2]
  unfold ord cmpR
  simp only [e1, e2]
theorem less_cmp {p q : F} : less p q = decide (ord p q < 0) := by
  have h : ord p q < 0 ↔ p.1 * q.2 < q.1 * p.2 := by
    unfold ord
    split
    · constructor <;> intro h <;> omega
    · split
      · constructor <;> intro h <;> omega
      · constructor <;> intro h <;> omega
  unfold less
  exact decide_eq_decide.mpr h.symm
/-! ### the order -/
theorem cmp_mul {x y z : Rat} (h : 0 < z) : cmpR (x * z) (y * z) = cmpR x y := by
  have e1 : x * z = y * z ↔ x = y := by
    constructor
    · intro q
      have hz : z ≠ 0 := by grind
      have h1 : x = x * z / z := by grind
      have h2 : y = y * z / z := by grind
      rw [h1, h2, q]
    · intro q
      rw [q]
  have e2 : x * z < y * z ↔ x < y := Rat.mul_lt_mul_right h
  unfold cmpR
  simp only [e1, e2]
theorem cmp_swap (x y : Rat) : cmpR x y = 0 - cmpR y x := by
  unfold cmpR
  by_cases e : x = y
  · rw [if_pos e, if_pos e.symm]
    rfl
  · have e' : ¬ y = x := fun q => e q.symm
    rw [if_neg e, if_neg e']
    by_cases l : x < y
    · have l' : ¬ y < x := by grind
      rw [if_pos l, if_neg l']
      rfl
    · have l' : y < x := by grind
      rw [if_neg l, if_pos l']
      rfl
theorem cmp_zero {x y : Rat} : cmpR x y = 0 ↔ x = y := by
  unfold cmpR
  split
  · exact ⟨fun _ => by assumption, fun _ => rfl⟩
  · split
    · constructor
      · intro h
        exact absurd h (by decide)
      · intro h
        contradiction
    · constructor
      · intro h
        exact absurd h (by decide)
      · intro h
        contradiction
theorem cmp_le {x y : Rat} : cmpR x y < 1 ↔ x ≤ y := by
  unfold cmpR
  split
  · constructor
    · intro _
      grind
    · intro _
      decide
  · split
    · constructor
      · intro _
        grind
      · intro _
        decide
    · constructor
      · intro h
        exact absurd h (by decide)
      · intro h
        grind
theorem cmp_gt {x y : Rat} : cmpR x y > 0 ↔ y < x := by
  unfold cmpR
  split
  · constructor
    · intro h
      exact absurd h (by decide)
    · intro h
      grind
  · split
    · constructor
      · intro h
        exact absurd h (by decide)
      · intro h
        grind
    · constructor
      · intro _
        grind
      · intro _
        decide
/-! ### sizes: reduced, both parts below 2 ^ n -/
structure G (n : Nat) (p : F) : Prop where
  red : Red p
  hi : p.1 < 2 ^ n
  lo : p.2 < 2 ^ n
theorem G.mono {n m : Nat} {p : F} (g : G n p) (h : n ≤ m) : G m p := ⟨g.red, Nat.lt_of_lt_of_le g.hi (Nat.pow_le_pow_right (by decide) h), Nat.lt_of_lt_of_le g.lo (Nat.pow_le_pow_right (by decide) h)⟩
theorem low_le (a b : Nat) : (low a b).1 ≤ a ∧ (low a b).2 ≤ b := ⟨Nat.div_le_self _ _, Nat.div_le_self _ _⟩
theorem mul_pow {a b n m : Nat} (ha : a < 2 ^ n) (hb : b < 2 ^ m) : a * b < 2 ^ (n + m) := by
  rw [Nat.pow_add]
  exact Nat.mul_lt_mul'' ha hb
theorem G.tm {n m : Nat} {p q : F} (hp : G n p) (hq : G m q) : G (n + m) (tm p q) :=
  ⟨red_tm hp.red hq.red, Nat.lt_of_le_of_lt (low_le _ _).1 (mul_pow hp.hi hq.hi), Nat.lt_of_le_of_lt (low_le _ _).2 (mul_pow hp.lo hq.lo)⟩
theorem G.ov {n m : Nat} {p q : F} (hp : G n p) (hq : G m q) : G (n + m) (ov p q) :=
  ⟨red_ov hp.red hq.red, Nat.lt_of_le_of_lt (low_le _ _).1 (mul_pow hp.hi hq.lo), Nat.lt_of_le_of_lt (low_le _ _).2 (mul_pow hp.lo hq.hi)⟩
theorem G.one : G 1 one := ⟨red_one, by decide, by decide⟩
theorem low_red {p : F} (h : Red p) : low p.1 p.2 = p := by
  unfold low
  rw [h.2.2, Nat.div_one, Nat.div_one]
theorem tm_one {p : F} (h : Red p) : tm one p = p := by
  refine val_inj (red_tm red_one h) h ?_
  rw [val_tm red_one h, val_one, Rat.one_mul]
def prod (l : List F) : F := l.foldl tm one
def inv (p : F) : F := (p.2, p.1)
theorem G.inv {n : Nat} {p : F} (g : G n p) : G n (inv p) := ⟨⟨g.red.2.1, g.red.1, (Nat.gcd_comm _ _).trans g.red.2.2⟩, g.lo, g.hi⟩
/-! ### the laws -/
section
variable {l m z : F} (hl : Red l) (hm : Red m) (hz : Red z)
include hl hm
omit hm in
theorem prod2 : prod [l, m] = tm l m := by
  show tm (tm one l) m = tm l m
  rw [tm_one hl]
theorem two_a : ov (tm l m) m = l := by
  refine val_inj (red_ov (red_tm hl hm) hm) hl ?_
  rw [val_ov (red_tm hl hm) hm, val_tm hl hm]
  have := hm.vn
  grind
theorem two_b : tm (ov l m) m = l := by
  refine val_inj (red_tm (red_ov hl hm) hm) hl ?_
  rw [val_tm (red_ov hl hm) hm, val_ov hl hm]
  have := hm.vn
  grind
theorem two_c : tm m l = tm l m := by
  refine val_inj (red_tm hm hl) (red_tm hl hm) ?_
  rw [val_tm hm hl, val_tm hl hm, Rat.mul_comm]
theorem two_e : tm (ov l m) (ov m l) = one := by
  refine val_inj (red_tm (red_ov hl hm) (red_ov hm hl)) red_one ?_
  rw [val_tm (red_ov hl hm) (red_ov hm hl), val_ov hl hm, val_ov hm hl, val_one]
  have := hm.vn
  have := hl.vn
  grind
theorem two_f : ov one (ov l m) = ov m l := by
  refine val_inj (red_ov red_one (red_ov hl hm)) (red_ov hm hl) ?_
  rw [val_ov red_one (red_ov hl hm), val_ov hl hm, val_ov hm hl, val_one]
  have := hm.vn
  have := hl.vn
  grind
theorem two_h : ord l m = 0 - ord m l := by
  rw [ord_cmp hl hm, ord_cmp hm hl]
  exact cmp_swap _ _
theorem two_i : ord l m = 0 ↔ l = m := by
  rw [ord_cmp hl hm, cmp_zero]
  exact ⟨fun h => val_inj hl hm h, fun h => by rw [h]⟩
theorem two_j : ord l m = ord (ov l m) one := by
  rw [ord_cmp hl hm, ord_cmp (red_ov hl hm) red_one, val_ov hl hm, val_one]
  have h1 : val l = val l / val m * val m := by
    have := hm.vn
    grind
  have h2 : val m = 1 * val m := (Rat.one_mul _).symm
  have h3 := cmp_mul (x := val l / val m) (y := 1) hm.vp
  rw [← h1, ← h2] at h3
  exact h3
omit hm in
theorem one_d : ov l l = one := by
  refine val_inj (red_ov hl hl) red_one ?_
  rw [val_ov hl hl, val_one]
  have := hl.vn
  grind
omit hm in
theorem one_g : ov l one = l := by
  refine val_inj (red_ov hl red_one) hl ?_
  rw [val_ov hl red_one, val_one]
  grind
omit hm in
theorem prod1 : prod [l] = l := tm_one hl
omit hm hl in
theorem ord_self : ord l l = 0 := by
  unfold ord
  rw [if_pos rfl]
include hz
omit hm hz in
theorem prod3 : prod [l, m, z] = tm (tm l m) z := by
  show tm (tm (tm one l) m) z = _
  rw [tm_one hl]
theorem three_a : tm (tm l m) z = tm l (tm m z) := by
  refine val_inj (red_tm (red_tm hl hm) hz) (red_tm hl (red_tm hm hz)) ?_
  rw [val_tm (red_tm hl hm) hz, val_tm hl hm, val_tm hl (red_tm hm hz), val_tm hm hz, Rat.mul_assoc]
theorem three_b : tm (tm l m) z = tm (tm z l) m := by
  refine val_inj (red_tm (red_tm hl hm) hz) (red_tm (red_tm hz hl) hm) ?_
  rw [val_tm (red_tm hl hm) hz, val_tm hl hm, val_tm (red_tm hz hl) hm, val_tm hz hl]
  grind
theorem three_c : ov (ov l m) z = ov l (tm m z) := by
  refine val_inj (red_ov (red_ov hl hm) hz) (red_ov hl (red_tm hm hz)) ?_
  rw [val_ov (red_ov hl hm) hz, val_ov hl hm, val_ov hl (red_tm hm hz), val_tm hm hz]
  have := hm.vn
  have := hz.vn
  grind
theorem three_d : ord (tm l z) (tm m z) = ord l m := by
  rw [ord_cmp (red_tm hl hz) (red_tm hm hz), ord_cmp hl hm, val_tm hl hz, val_tm hm hz]
  exact cmp_mul hz.vp
theorem three_e : ord (ov z l) (ov z m) = 0 - ord l m := by
  rw [ord_cmp (red_ov hz hl) (red_ov hz hm), ord_cmp hl hm, val_ov hz hl, val_ov hz hm, ← cmp_swap]
  have k : 0 < val l * val m / val z := by
    rw [Rat.lt_div_iff hz.vp, Rat.zero_mul]
    exact Rat.mul_pos hl.vp hm.vp
  have h := cmp_mul (x := val z / val l) (y := val z / val m) k
  have h1 : val z / val l * (val l * val m / val z) = val m := by
    have := hl.vn
    have := hz.vn
    grind
  have h2 : val z / val m * (val l * val m / val z) = val l := by
    have := hm.vn
    have := hz.vn
    grind
  rw [h1, h2] at h
  exact h.symm
theorem three_f : ¬ (ord l m < 1 ∧ ord m z < 1 ∧ ord l z > 0) := by
  rw [ord_cmp hl hm, ord_cmp hm hz, ord_cmp hl hz, cmp_le, cmp_le, cmp_gt]
  grind
end
end Fx

/-! part 2 -/
namespace Sz
open PySem PySem.Spec PyProof.Rows L2 Evl Fx
/-! ### the text -/
def topS (i : Nat) : Stmt := PySem.Challenge.pw_sizechains_k07_whole_rules_of_exact.main.body.getD i (.Pass ⟨0, 0, 0, 0⟩)
abbrev sWhole : Stmt := topS 7
abbrev sCd : Stmt := topS 8
abbrev sLowest : Stmt := topS 9
abbrev sIsF : Stmt := topS 10
abbrev sChk : Stmt := topS 11
abbrev sTimes : Stmt := topS 12
abbrev sOver : Stmt := topS 13
abbrev sOrder : Stmt := topS 14
abbrev sShown : Stmt := topS 15
abbrev sRdW : Stmt := topS 16
abbrev sRdF : Stmt := topS 17
abbrev sFrac : Stmt := topS 18
abbrev sProd : Stmt := topS 19
abbrev sQuot : Stmt := topS 20
abbrev sCmp : Stmt := topS 21
abbrev sFmt : Stmt := topS 22
abbrev sPrs : Stmt := topS 23
abbrev sCell : Stmt := topS 25
abbrev sPool : Stmt := topS 26
abbrev sDraw : Stmt := topS 27
abbrev sLow : Stmt := topS 28
abbrev sPart : Stmt := topS 29
abbrev sLess : Stmt := topS 30
abbrev sTwo : Stmt := topS 31
abbrev sKept : Stmt := topS 32
abbrev sThree : Stmt := topS 33
abbrev sRight : Stmt := topS 34
abbrev sLaw : Stmt := topS 35

/-! ### values that are told by a word -/
def EvX (R : V → Hp → Prop) (te : TE) (σ : L2.St) (H : Hp) : Prop := ∀ H1, Ex H H1 → ∀ Q : VK, (∀ v H2, Ex H1 H2 → R v H2 → Q v H2) → te σ H1 Q
def IsF (K : PySem.W.Frag) (q : F) (v : V) (H : Hp) : Prop := ∃ p, v = .ref p ∧ SqT K H p [.int (q.1 : Int), .int (q.2 : Int)]
theorem IsF.ex {K : PySem.W.Frag} {q : F} {v : V} {H H' : Hp} (h : IsF K q v H) (e : Ex H H') : IsF K q v H' := by
  obtain ⟨p, rfl, h⟩ := h
  exact ⟨p, rfl, ex_t e h⟩
abbrev EvF (K : PySem.W.Frag) (te : TE) (σ : L2.St) (H : Hp) (q : F) : Prop := EvX (IsF K q) te σ H
abbrev AllF (K : PySem.W.Frag) (H : Hp) (vs : List V) (ps : List F) : Prop := Paired (fun v p => IsF K p v H) vs ps
def EvFs (K : PySem.W.Frag) (ta : TA) (σ : L2.St) (H : Hp) (ps : List F) : Prop := ∀ H1, Ex H H1 → ∀ Q : List V → Hp → Prop, (∀ vs H2, Ex H1 H2 → AllF K H2 vs ps → Q vs H2) → ta σ H1 Q
section
variable {K : PySem.W.Frag} {σ : L2.St} {H H' : Hp} {ta tb te : TE} {t u : TT} {p q : F} {R : V → Hp → Prop}
theorem AllF.ex : ∀ {vs : List V} {ps : List F}, AllF K H vs ps → Ex H H' → AllF K H' vs ps
  | _, _, .nil, _ => .nil
  | _, _, .cons a b, e => .cons (a.ex e) (AllF.ex b e)
theorem EvX.mono (e : Ex H H') (h : EvX R te σ H) : EvX R te σ H' := fun H1 a Q q => h H1 (e.trans a) Q q
theorem EvFs.mono {tr : TA} {ps : List F} (e : Ex H H') (h : EvFs K tr σ H ps) : EvFs K tr σ H' ps := fun H1 a Q q => h H1 (e.trans a) Q q
theorem evf_var {i : Nat} {v : V} (h : σ[i]? = some (some v)) (hq : IsF K q v H) : EvF K (tVar i) σ H q := fun H1 e Q k => ⟨v, h, k v H1 (Ex.refl H1) (hq.ex e)⟩
theorem evf_tup {a b : Nat} (ha : Ev ta σ H (.int (a : Int))) (hb : Ev tb σ H (.int (b : Int))) : EvF K (tTup (tCons ta (tCons tb tNil))) σ H (a, b) := fun H1 e Q k =>
  ha H1 e _ fun H2 e2 => hb H2 (e.trans e2) _ fun H3 e3 => ⟨by show 2 ≤ sizeLine; decide, fun p hp => k (.ref p) _ ((e2.trans e3).trans (Ex.new hp)) ⟨p, rfl, st_of upd_same⟩⟩
theorem evf_one : EvF K (tTup (tCons (tC (.int 1)) (tCons (tC (.int 1)) tNil))) σ H one := evf_tup (a := 1) (b := 1) ev_c ev_c
theorem efs_nil : EvFs K tNil σ H [] := fun H1 _ Q k => k [] H1 (Ex.refl H1) .nil
theorem efs_cons {tr : TA} {ps : List F} (h : EvF K te σ H p) (hr : EvFs K tr σ H ps) : EvFs K (tCons te tr) σ H (p :: ps) := fun H1 e Q k =>
  h H1 e _ fun v H2 e2 hv => hr H2 (e.trans e2) _ fun vs H3 e3 hvs => k _ H3 (e2.trans e3) (.cons (hv.ex e3) hvs)
theorem evx_call {sp : Sp} {E : XK} {tr : TA} {ps : List F} (ha : EvFs K tr σ H ps) (h : ∀ vs H1, Ex H H1 → AllF K H1 vs ps → ∀ Q : VK, (∀ v H2, Ex H1 H2 → R v H2 → Q v H2) → sp vs H1 Q E) : EvX R (tCall sp [] E tr) σ H := fun H1 e Q k =>
  ha H1 e _ fun vs H2 e2 hvs => by
    show sp (vs ++ []) H2 Q E
    rw [List.append_nil]
    exact h vs H2 (e.trans e2) hvs Q fun v H3 e3 r => k v H3 (e2.trans e3) r
theorem evx_callR {sp : Sp} {E : XK} {tr : TA} {ps : List F} (ha : EvFs K tr σ H ps) (h : ∀ vs H1, Ex H H1 → AllF K H1 vs ps → ∀ Q : VK, (∀ v H2, Ex H1 H2 → R v H2 → Q v H2) → sp vs H1 Q E) : EvX R (fun σ H Q => tr σ H fun vs H1 => sp vs H1 Q E) σ H := fun H1 e Q k =>
  ha H1 e _ fun vs H2 e2 hvs => h vs H2 (e.trans e2) hvs Q fun v H3 e3 r => k v H3 (e2.trans e3) r
theorem ev_ofX {v : V} (h : EvX (fun x _ => x = v) te σ H) : Ev te σ H v := fun H1 e Q k => h H1 e Q fun x H2 e2 r => by
  subst r
  exact k H2 e2
theorem evx_ofV {v : V} (h : Ev te σ H v) (hr : ∀ H2, Ex H H2 → R v H2) : EvX R te σ H := fun H1 e Q k => h H1 e Q fun H2 e2 => k v H2 e2 (hr H2 (e.trans e2))
theorem evx_if {b : Bool} (h : EvT t σ H b) (h1 : b = true → EvX R ta σ H) (h2 : b = false → EvX R tb σ H) : EvX R (tIf t ta tb) σ H := fun H1 e Q q => h H1 e _ fun H2 e2 => by
  cases b with
  | true =>
    show ta σ H2 Q
    exact h1 rfl H2 (e.trans e2) Q fun v H3 e3 => q v H3 (e2.trans e3)
  | false =>
    show tb σ H2 Q
    exact h2 rfl H2 (e.trans e2) Q fun v H3 e3 => q v H3 (e2.trans e3)
/-! two fractions compared -/
theorem IsF.dp {v : V} (h : IsF K q v H) : Dp K H v (.tuple [.int (q.1 : Int), .int (q.2 : Int)]) := by
  obtain ⟨p, rfl, h⟩ := h
  exact .tup h (.cons (.int _) (.cons (.int _) .nil))
theorem shF (a b : Int) : SeqAt.shaped (.tuple [.int a, .int b]) = true := by
  first
    | rfl
    | simp [SeqAt.shaped, PyData.canLay0, PyData.canLayAll0, PyData.depth, PyData.depthAll]
theorem eqF (p q : F) : PyData.eqv (.tuple [.int (p.1 : Int), .int (p.2 : Int)]) (.tuple [.int (q.1 : Int), .int (q.2 : Int)]) = decide (p = q) := by
  show (((p.1 : Int) == (q.1 : Int)) && (((p.2 : Int) == (q.2 : Int)) && true)) = decide (p = q)
  obtain ⟨a, b⟩ := p
  obtain ⟨c, d⟩ := q
  show (((a : Int) == (c : Int)) && (((b : Int) == (d : Int)) && true)) = decide ((a, b) = (c, d))
  by_cases h1 : a = c
  · by_cases h2 : b = d
    · subst h1 h2
      simp
    · have : ¬ (b : Int) = d := by omega
      simp [h1, h2, this]
  · have : ¬ (a : Int) = c := by omega
    simp [h1, this]
theorem ev_neF (ha : EvF K ta σ H p) (hb : EvF K tb σ H q) : Ev (tOp (rNeD K) ta tb) σ H (.bl (!decide (p = q))) := fun H1 e Q k =>
  ha H1 e _ fun x H2 e2 hx => hb H2 (e.trans e2) _ fun y H3 e3 hy => ⟨_, _, (hx.ex e3).dp, hy.dp, shF _ _, shF _ _, by
    rw [eqF]
    exact k H3 (e2.trans e3)⟩
theorem ev_eqF (ha : EvF K ta σ H p) (hb : EvF K tb σ H q) : Ev (tOp (rEqD K) ta tb) σ H (.bl (decide (p = q))) := fun H1 e Q k =>
  ha H1 e _ fun x H2 e2 hx => hb H2 (e.trans e2) _ fun y H3 e3 hy => ⟨_, _, (hx.ex e3).dp, hy.dp, shF _ _, shF _ _, by
    rw [eqF]
    exact k H3 (e2.trans e3)⟩
/-- != of equal ones -/
theorem ev_neF0 (ha : EvF K ta σ H p) (hb : EvF K tb σ H q) (e : p = q) : Ev (tOp (rNeD K) ta tb) σ H (.bl false) := by
  have h := ev_neF ha hb
  rw [decide_eq_true e] at h
  exact h
theorem ev_eqF1 (ha : EvF K ta σ H p) (hb : EvF K tb σ H q) (e : p = q) : Ev (tOp (rEqD K) ta tb) σ H (.bl true) := by
  have h := ev_eqF ha hb
  rw [decide_eq_true e] at h
  exact h
/-! the parts of a fraction -/
theorem ev_fst (ha : EvF K ta σ H q) : Ev (tOp (rIxT K) ta (tC (.int 0))) σ H (.int (q.1 : Int)) := fun H1 e Q k => ha H1 e _ fun x H2 e2 hx => by
  obtain ⟨p, rfl, hx⟩ := hx
  exact ⟨p, _, 0, _, rfl, rfl, hx, rfl, k H2 e2⟩
theorem ev_snd (ha : EvF K ta σ H q) : Ev (tOp (rIxT K) ta (tC (.int 1))) σ H (.int (q.2 : Int)) := fun H1 e Q k => ha H1 e _ fun x H2 e2 hx => by
  obtain ⟨p, rfl, hx⟩ := hx
  exact ⟨p, _, 1, _, rfl, rfl, hx, rfl, k H2 e2⟩
/-! tests -/
theorem et_orF {a : Bool} (h1 : EvT t σ H false) (h2 : EvT u σ H a) : EvT (tOr t u) σ H a := et_or h1 fun _ => h2
theorem et_andT {a : Bool} (h1 : EvT t σ H true) (h2 : EvT u σ H a) : EvT (tAnd t u) σ H a := et_and h1 fun _ => h2
/-! statements -/
variable {D : Ends} {tu tw tz : TS}
theorem s_asgX {i : Nat} (h : EvX R te σ H) (k : ∀ v H1, Ex H H1 → R v H1 → D.nx (σ.set i (some v)) H1) : tAsg te (gName i) D σ H := h H (Ex.refl H) _ fun v H1 e r => k v H1 e r
theorem q_asgX {i : Nat} (h : EvX R te σ H) (k : ∀ v H1, Ex H H1 → R v H1 → tz D (σ.set i (some v)) H1) : tSeq (tAsg te (gName i)) tz D σ H := s_asgX (D := { D with nx := tz D }) h k
theorem s_retX (h : EvX R te σ H) (k : ∀ v H1, Ex H H1 → R v H1 → D.rt v H1) : tRet te D σ H := h H (Ex.refl H) _ k
theorem s_par {i j : Nat} {tr : TA} {v w : V} (h : EvA tr σ H [v, w]) (k : ∀ H1, Ex H H1 → D.nx ((σ.set i (some v)).set j (some w)) H1) : tPar i j tr D σ H := h H (Ex.refl H) _ fun H1 e => ⟨v, w, rfl, k H1 e⟩
theorem q_par {i j : Nat} {tr : TA} {v w : V} (h : EvA tr σ H [v, w]) (k : ∀ H1, Ex H H1 → tz D ((σ.set i (some v)).set j (some w)) H1) : tSeq (tPar i j tr) tz D σ H := s_par (D := { D with nx := tz D }) h k
theorem q_parF {i j : Nat} {tr : TA} (h : EvFs K tr σ H [p, q]) (k : ∀ v w H1, Ex H H1 → IsF K p v H1 → IsF K q w H1 → tz D ((σ.set i (some v)).set j (some w)) H1) : tSeq (tPar i j tr) tz D σ H := h H (Ex.refl H) _ fun vs H1 e hvs => by
  cases hvs with
  | cons a r =>
    cases r with
    | cons b r =>
      cases r
      exact ⟨_, _, rfl, k _ _ H1 e a b⟩
/-- an if that is not taken -/
theorem q_skip (h : EvT t σ H false) (k : ∀ H1, Ex H H1 → tz D σ H1) : tSeq (tIfS t tu tNext) tz D σ H := q_when h (fun z => nomatch z) fun _ => k
theorem s_skip (h : EvT t σ H false) (k : ∀ H1, Ex H H1 → D.nx σ H1) : tIfS t tu tNext D σ H := s_when h (fun z => nomatch z) fun _ => k
end
/-! ### sizes -/
theorem nat_lt_wide {a n : Nat} (h : a < 2 ^ n) (hn : n ≤ 8000) : ((a : Int)).natAbs < 2 ^ 8000 := by
  rw [Int.natAbs_natCast]
  exact Nat.lt_of_lt_of_le h (Nat.pow_le_pow_right (by decide) hn)
theorem mul_ok {a b n m : Nat} (ha : a < 2 ^ n) (hb : b < 2 ^ m) (hn : n ≤ 8000) (hm : m ≤ 8000) : CMulW (a : Int) (b : Int) :=
  wide_mul (nat_lt_wide ha hn) (nat_lt_wide hb hm) (by decide) (by decide) (by decide)
theorem div_ok {i : Int} {b n : Nat} (h0 : 0 < b) (hb : b < 2 ^ n) (hn : n ≤ 8000) : CDivW i (b : Int) := wide_div (by omega) (nat_lt_wide hb hn) (by decide) (by decide)
theorem rv_mul {H : Hp} {a b : Nat} (h : CMulW (a : Int) (b : Int)) : RV (rI CMulW fun i j => .int (i * j)) (.int (a : Int)) (.int (b : Int)) H (.int ((a * b : Nat) : Int)) := by
  rw [Int.natCast_mul]
  exact rv_I h
theorem rv_div {H : Hp} {a b : Nat} (h : CDivW (a : Int) (b : Int)) : RV (rI CDivW fun i j => .int (i / j)) (.int (a : Int)) (.int (b : Int)) H (.int ((a / b : Nat) : Int)) := by
  rw [Int.natCast_ediv]
  exact rv_I h
theorem rv_mod {H : Hp} {a b : Nat} (h : 0 < b) : RV (rI (fun _ j => 0 < j) fun i j => .int (i % j)) (.int (a : Int)) (.int (b : Int)) H (.int ((a % b : Nat) : Int)) := by
  rw [Int.natCast_emod]
  exact rv_I (C := fun _ j => 0 < j) (show (0 : Int) < (b : Int) by omega)
end Sz

/-! part 3 -/
namespace Sz
open PySem PySem.Spec PyProof.Rows L2 Evl Fx
/-! ### defs by name -/
structure DefOk (K : PySem.W.Frag) (mg : Str → Option Value) (x : Str) (st : Stmt) : Prop where
  ex : ∃ (f : Addr) (fd : FuncData), Fun K x x st f fd ∧ mg x = some (.ref f)
structure CalR (P : Program) (w : World) (K : PySem.W.Frag) (mg : Str → Option Value) (base : Heap) (k : Nat) (x : Str) (sp : Sp) : Prop where
  ex : ∃ f : Addr, FnR P w K mg base CX0 k f sp ∧ mg x = some (.ref f) ∧ PySem.W.keepIn K (.ref f) = true
section
variable {P : Program} {w : World} {K : PySem.W.Frag} {mg : Str → Option Value} {base : Heap}
theorem FnOk.toR {k : Nat} {f : Addr} {fd : FuncData} {ps : List Str} {sp : Sp} (F : FnOk P w K mg base CX0 k f fd ps sp) (b : Binds K fd ps []) : FnR P w K mg base CX0 k f sp :=
  FnR.imp (FnOk.raw F b (dvs := []) .nil) fun vs H Q E h => by
    show sp (vs ++ []) H Q E
    rw [List.append_nil]
    exact h
theorem calR_of {x : Str} {st : Stmt} {N ps : List Str} {k : Nat} {sp : Sp} (D : DefOk K mg x st) (S : FnScope N ps (defScope st)) (len : ∀ vs H Q E, sp vs H Q E → vs.length = ps.length)
    (bind : ∀ (kV doc pm : Value) (an : Option Addr) (cdv ct : Value) (us : List Value), us.length = ps.length → bindArgs (PySem.W.fnOf x x (defArgs st) (defBody st) (defScope st) .none kV doc pm an cdv ct) ⟨us, []⟩ = pure (ps.zip us))
    (hbody : ∀ (f : Addr) (cdv : Value) (A : Around) (outer : List Env) (s : Shared) (H : Hp) (vs : List V) (Q : VK) (E : XK), Room k (A.deeper (envOfC x (defScope st) s.heap.objs.size f cdv)) → sp vs H Q E →
      ∃ t, PSs (cxOf CX0 P w K mg base N x (defScope st) f cdv A outer s H E).nox (defBody st) t ∧ t { nx := fun _ H' => Q .non H', rt := Q } (start N vs) H) : CalR P w K mg base (k + 1) x sp := by
  obtain ⟨f, fd, F, hm⟩ := D.ex
  exact ⟨f, FnOk.toR (F.ok S len (hbody f)) (F.binds bind), hm, F.kp⟩
end
def tCr (sp : Sp) (t : TA) : TE := fun σ H Q => t σ H fun vs H1 => sp vs H1 Q E0
theorem pe_cr {X : Cx} {k j : Nat} {x : Str} {sp : Sp} {p pos : Pos} {e : Expr} {es : List Expr} {t : TA} (c : CalR X.prog X.w X.K X.mg X.base k x sp) (hr : Room j X.A) (hk : k ≤ j) (hg : Gl X x) (ha : PA X (e :: es) t)
    (hdb : (x == ("__debug__" : Str)) = false := by decide) (he : starEach (e :: es) X.env = (false, eval e X.env) :: starEach es X.env := by rfl) (hpl : (backTo pos (starEach es X.env)).any (·.1) = false := by rfl) :
    PE X (.Call (.Name x p) (e :: es) [] pos) (tCr sp t) := by
  refine ⟨fun pins s σ H Q I h => ?_⟩
  obtain ⟨f, F, hm, kp⟩ := c.ex
  refine wpAny_Call_Name_kw (ld_glob I hg hm ?_ hdb)
  refine PySem.W.callWith_K (h₀ := X.base) I.ok.mod.kin kp (thn (ha.run pos pins s σ H _ I h) fun us s1 ⟨vs, H1, I1, r, q⟩ => ⟨I1.kIn, ?_⟩) he hpl
  exact wpAny_call (run_fnR F (hr.mono hk) pass0 I1 r q)
section
variable {K : PySem.W.Frag} {σ : L2.St} {H H' : Hp} {ta tb te : TE} {t u : TT} {p q : F} {R : V → Hp → Prop} {z : V}
theorem evx_cr {sp : Sp} {tr : TA} {ps : List F} (ha : EvFs K tr σ H ps) (h : ∀ vs H1, Ex H H1 → AllF K H1 vs ps → ∀ Q : VK, (∀ v H2, Ex H1 H2 → R v H2 → Q v H2) → sp vs H1 Q E0) : EvX R (tCr sp tr) σ H := fun H1 e Q k =>
  ha H1 e _ fun vs H2 e2 hvs => h vs H2 (e.trans e2) hvs Q fun v H3 e3 r => k v H3 (e2.trans e3) r
theorem ev_cr {sp : Sp} {tr : TA} {ps : List F} (ha : EvFs K tr σ H ps) (h : ∀ vs H1, Ex H H1 → AllF K H1 vs ps → ∀ Q : VK, (∀ H2, Ex H1 H2 → Q z H2) → sp vs H1 Q E0) : Ev (tCr sp tr) σ H z := fun H1 e Q k =>
  ha H1 e _ fun vs H2 e2 hvs => h vs H2 (e.trans e2) hvs Q fun H3 e3 => k H3 (e2.trans e3)
/-- the arguments plain values -/
theorem evx_crV {sp : Sp} {tr : TA} {vs : List V} (ha : EvA tr σ H vs) (h : ∀ H1, Ex H H1 → ∀ Q : VK, (∀ v H2, Ex H1 H2 → R v H2 → Q v H2) → sp vs H1 Q E0) : EvX R (tCr sp tr) σ H := fun H1 e Q k =>
  ha H1 e _ fun H2 e2 => h H2 (e.trans e2) Q fun v H3 e3 r => k v H3 (e2.trans e3) r
theorem ev_crV {sp : Sp} {tr : TA} {vs : List V} (ha : EvA tr σ H vs) (h : ∀ H1, Ex H H1 → ∀ Q : VK, (∀ H2, Ex H1 H2 → Q z H2) → sp vs H1 Q E0) : Ev (tCr sp tr) σ H z := fun H1 e Q k =>
  ha H1 e _ fun H2 e2 => h H2 (e.trans e2) Q fun H3 e3 => k H3 (e2.trans e3)
theorem ea1 {x : V} (h : Ev ta σ H x) : EvA (tCons ta tNil) σ H [x] := ea_cons h ea_nil
theorem ea2 {x y : V} (h : Ev ta σ H x) (h2 : Ev tb σ H y) : EvA (tCons ta (tCons tb tNil)) σ H [x, y] := ea_cons h (ea1 h2)
end
/-! ### what the top leaves -/
structure Txt (K : PySem.W.Frag) (mg : Str → Option Value) : Prop where
  whole : DefOk K mg "is_whole" sWhole
  cd : DefOk K mg "common_divisor" sCd
  lowest : DefOk K mg "lowest" sLowest
  isF : DefOk K mg "is_fraction" sIsF
  chk : DefOk K mg "check_fraction" sChk
  times : DefOk K mg "times_of" sTimes
  over : DefOk K mg "over_of" sOver
  order : DefOk K mg "order_of" sOrder
  shown : DefOk K mg "shown" sShown
  rdW : DefOk K mg "read_whole" sRdW
  rdF : DefOk K mg "read_fraction" sRdF
  frac : ∃ (f : Addr) (fd : FuncData), FunD K "fraction" "fraction" (defArgs sFrac) (defBody sFrac) (defScope sFrac) [.int 1] [] f fd ∧ mg "fraction" = some (.ref f)
  prod : DefOk K mg "product" sProd
  quot : DefOk K mg "quotient" sQuot
  cmp : DefOk K mg "compare" sCmp
  fmt : DefOk K mg "format_fraction" sFmt
  prs : DefOk K mg "parse_fraction" sPrs
  cell : DefOk K mg "_law_cell" sCell
  pool : DefOk K mg "_law_pool" sPool
  draw : DefOk K mg "_law_draw" sDraw
  low : DefOk K mg "_law_low" sLow
  part : DefOk K mg "_law_part" sPart
  less : DefOk K mg "_law_less" sLess
  two : DefOk K mg "_law_two_right" sTwo
  kept : DefOk K mg "_law_kept_right" sKept
  three : DefOk K mg "_law_three_right" sThree
  right : DefOk K mg "_law_right" sRight
  one : ∃ a : Addr, mg "ONE" = some (.ref a) ∧ ∀ H, SqT K H a [.int 1, .int 1]
  digits : ∃ t : Tok, mg "DIGITS" = some (.str "0123456789" t)
  isinstance : mg "isinstance" = none
  int : mg "int" = none
  bool : mg "bool" = none
  tuple : mg "tuple" = none
  str : mg "str" = none
  len : mg "len" = none
  all : mg "all" = none
  abs : mg "abs" = none
  divmod : mg "divmod" = none
  range : mg "range" = none
  max : mg "max" = none
  min : mg "min" = none
end Sz

/-! part 4 -/
namespace Sz
open PySem PySem.Spec PyProof.Rows L2 Evl Fx
section
variable {P : Program} {w : World} {K : PySem.W.Frag} {mg : Str → Option Value} {base : Heap}
/-! ### is_whole -/
def spWhole : Sp := fun vs H Q _ => ∃ i : Int, vs = [.int i, .int 1, .non] ∧ 1 ≤ i ∧ ∀ H', Ex H H' → Q (.bl true) H'
theorem scWhole : FnScope ["value", "low", "high"] ["value", "low", "high"] (defScope sWhole) := ⟨rfl, rfl, rfl, by decide +kernel, rfl, by decide +kernel, by decide +kernel⟩
theorem rc_isi {H : Hp} {x : V} {n m : String} {b : Bool} (h : ∀ H1, Ex H H1 → TyX K H1 x (.type m)) (k : kitB m n = some b) : RC (rIsi K) [x, .ty n] H (.bl b) := fun H1 e Q q =>
  ⟨x, .ty n, .type m, .type n, b, rfl, .ty n, h H1 e, kit_ty k, q H1 (Ex.refl H1)⟩
theorem ok_whole (T : Txt K mg) : CalR P w K mg base 1 "is_whole" spWhole := by
  refine calR_of T.whole scWhole (fun vs H Q E h => ?_) (fun _ _ _ _ _ _ us hl => match us, hl with | [_, _, _], _ => rfl) (fun f cdv A outer s H vs Q E hr h => ?_)
  · obtain ⟨i, rfl, _⟩ := h
    rfl
  · obtain ⟨i, rfl, h1, q⟩ := h
    refine ⟨_, pss_cons (ps_if (PW.pt (pw_or (pt_not (pt_val (pe_callB call_isi (by rfl) T.isinstance (by decide +kernel) (pa_cons (pv 0) (pa_cons (pe_bltn (by rfl) T.int (by decide +kernel) (v := .ty "int") rfl) pa_nil)))))
        (pw_or (pt_val (pe_callB call_isi (by rfl) T.isinstance (by decide +kernel) (pa_cons (pv 0) (pa_cons (pe_bltn (by rfl) T.bool (by decide +kernel) (v := .ty "bool") rfl) pa_nil))))
        (pw_or1 (pt_cmpR op_lt (pv 0) (pv 1) (nomark _)))))) (pss_one (ps_ret pe_bl)) pss_nil)
      (pss_one (ps_ret (pe_or (pe_cmpR op_isN (pv 2) pe_non (nomark _)) (pe_one (pe_cmpR op_le (pv 0) (pv 2) (nomark _)))))), ?_⟩
    refine q_skip (et_orF (et_not (a := true) (et_B (ev_cb (ea2 (ev_var rfl) ev_c) (rc_isi (fun _ _ => .base (.int i)) (by decide +kernel)))))
      (et_orF (et_B (ev_cb (ea2 (ev_var rfl) ev_c) (rc_isi (fun _ _ => .base (.int i)) (by decide +kernel)))) (et_is (et_test (ev_op (ev_var rfl) (ev_var rfl) (rv_I0 (g := fun i j => .bl (decide (i < j)))))) (decide_eq_false (by omega))))) fun H1 e1 => ?_
    refine s_ret (v := .bl true) ?_ (fun H2 e2 => q H2 (e1.trans e2))
    refine fun H2 e2 Q2 k => ⟨.non, rfl, rfl, true, rfl, ?_⟩
    exact k H2 (Ex.refl H2)
/-! ### common_divisor, lowest -/
def spCd : Sp := fun vs H Q _ => ∃ a b : Nat, vs = [.int (a : Int), .int (b : Int)] ∧ ∀ H', Ex H H' → Q (.int ((Nat.gcd a b : Nat) : Int)) H'
theorem scCd : FnScope ["one", "other"] ["one", "other"] (defScope sCd) := ⟨rfl, rfl, rfl, by decide +kernel, rfl, by decide +kernel, by decide +kernel⟩
theorem ok_cd (T : Txt K mg) : CalR P w K mg base 1 "common_divisor" spCd := by
  refine calR_of T.cd scCd (fun vs H Q E h => ?_) (fun _ _ _ _ _ _ us hl => match us, hl with | [_, _], _ => rfl) (fun f cdv A outer s H vs Q E hr h => ?_)
  · obtain ⟨a, b, rfl, _⟩ := h
    rfl
  · obtain ⟨a, b, rfl, q⟩ := h
    refine ⟨_, pss_cons (ps_while PassesOwn.never (pt_cmpR op_ne (pv 1) pe_int (nomark _)) (pss_one (ps_par (i := 0) (j := 1) (by rfl) scCd.nd rfl rfl (by decide) rfl rfl (pa_cons (pv 1) (pa_cons (pe_op op_mod (pv 0) (pv 1)) pa_nil)) (by rfl))))
      (pss_one (ps_ret (pv 0))), ?_⟩
    refine q_while (fun m σ' H' => ∃ x y : Nat, σ' = [some (.int (x : Int)), some (.int (y : Int))] ∧ Nat.gcd x y = Nat.gcd a b ∧ m = y ∧ Ex H H') b ⟨a, b, rfl, rfl, rfl, Ex.refl H⟩ ?_
    rintro m σ' H' ⟨x, y, rfl, hg, rfl, e⟩
    refine ⟨!decide ((V.int (m : Int)) = V.int 0), et_test (ev_op (ev_var rfl) ev_c (rv_ne rfl)), fun hb H1 e1 => ?_, fun hb H1 e1 => ?_⟩
    · have hm : 0 < m := by
        refine Nat.pos_of_ne_zero fun z => ?_
        subst z
        exact absurd hb (by decide)
      refine ⟨fun σ2 H2 => σ2 = [some (.int (m : Int)), some (.int ((x % m : Nat) : Int))] ∧ Ex H H2, fun σ2 H2 ⟨e2, e3⟩ => ⟨x % m, Nat.mod_lt _ hm, m, x % m, e2, ?_, rfl, e3⟩, ?_⟩
      · rw [← hg, Nat.gcd_comm x m, Nat.gcd_rec m x, Nat.gcd_comm]
      · exact s_par (ea2 (ev_var rfl) (ev_op (ev_var rfl) (ev_var rfl) (rv_mod hm))) fun H2 e2 => ⟨rfl, (e.trans e1).trans e2⟩
    · have hm : m = 0 := by
        refine Nat.eq_zero_of_not_pos fun z => ?_
        rw [decide_eq_false (show ¬ (V.int (m : Int) = V.int 0) from fun k => by injection k with k; omega)] at hb
        cases hb
      subst hm
      rw [Nat.gcd_zero_right] at hg
      refine s_ret (ev_var rfl) fun H2 e2 => ?_
      show Q (.int (x : Int)) H2
      rw [hg]
      exact q H2 ((e.trans e1).trans e2)
def spLowest (K : PySem.W.Frag) : Sp := fun vs H Q _ => ∃ a b : Nat, vs = [.int (a : Int), .int (b : Int)] ∧ 0 < a ∧ 0 < b ∧ a < 2 ^ 8000 ∧ ∀ v H', Ex H H' → IsF K (low a b) v H' → Q v H'
theorem scLowest : FnScope ["top", "bottom", "divisor"] ["top", "bottom"] (defScope sLowest) := ⟨rfl, rfl, rfl, by decide +kernel, rfl, by decide +kernel, by decide +kernel⟩
theorem ok_lowest (T : Txt K mg) : CalR P w K mg base 2 "lowest" (spLowest K) := by
  refine calR_of T.lowest scLowest (fun vs H Q E h => ?_) (fun _ _ _ _ _ _ us hl => match us, hl with | [_, _], _ => rfl) (fun f cdv A outer s H vs Q E hr h => ?_)
  · obtain ⟨a, b, rfl, _⟩ := h
    rfl
  · obtain ⟨a, b, rfl, ha, hb, hz, q⟩ := h
    have g0 : 0 < Nat.gcd a b := Nat.gcd_pos_of_pos_left _ ha
    have gz : Nat.gcd a b < 2 ^ 8000 := Nat.lt_of_le_of_lt (Nat.le_of_dvd ha (Nat.gcd_dvd_left a b)) hz
    refine ⟨_, pss_cons (ps_set (i := 2) scLowest.nd rfl (.inl rfl) (pe_cr (ok_cd T) hr (by decide) (by rfl) (pa_cons (pv 0) (pa_cons (pv 1) pa_nil))))
      (pss_one (ps_ret (pe_tup (pa_cons (pe_op op_fdivW (pv 0) (pv 2)) (pa_cons (pe_op op_fdivW (pv 1) (pv 2)) pa_nil))))), ?_⟩
    refine q_asg (v := .int ((Nat.gcd a b : Nat) : Int)) (ev_crV (ea2 (ev_var rfl) (ev_var rfl)) fun H1 e1 Q1 k => ⟨a, b, rfl, k⟩) fun H1 e1 => ?_
    refine s_retX (R := IsF K (low a b)) (evf_tup (ev_op (ev_var rfl) (ev_var rfl) (rv_div (div_ok g0 gz (Nat.le_refl _)))) (ev_op (ev_var rfl) (ev_var rfl) (rv_div (div_ok g0 gz (Nat.le_refl _))))) fun v H2 e2 r => q v H2 (e1.trans e2) r
end
end Sz

/-! part 5 -/
namespace Sz
open PySem PySem.Spec PyProof.Rows L2 Evl Fx
theorem tyx_tup {K : PySem.W.Frag} {H : Hp} {p : Addr} {xs : List V} (h : SqT K H p xs) : TyX K H (.ref p) (.type "tuple") := by
  rcases h with (h | ⟨o, h⟩) | ⟨o, its, n, h, c, _⟩
  · exact .base (.tup h)
  · exact .fTuple h
  · exact .kTuple h c
theorem rc_lenT {K : PySem.W.Frag} {H : Hp} {p : Addr} {xs : List V} (h : SqT K H p xs) : RC (rLenS K) [.ref p] H (.int (xs.length : Int)) := fun H1 e Q q => ⟨p, xs, rfl, .inr (ex_t e h), q H1 (Ex.refl H1)⟩
theorem gcd_lt {a b n : Nat} (ha : 0 < a) (h : a < 2 ^ n) : Nat.gcd a b < 2 ^ n := Nat.lt_of_le_of_lt (Nat.le_of_dvd ha (Nat.gcd_dvd_left a b)) h
theorem pow_le {a n m : Nat} (h : a < 2 ^ n) (hn : n ≤ m) : a < 2 ^ m := Nat.lt_of_lt_of_le h (Nat.pow_le_pow_right (by decide) hn)
section
variable {P : Program} {w : World} {K : PySem.W.Frag} {mg : Str → Option Value} {base : Heap}
/-! ### is_fraction, check_fraction -/
def spIsF (K : PySem.W.Frag) : Sp := fun vs H Q _ => ∃ (v : V) (q : F), vs = [v] ∧ IsF K q v H ∧ Red q ∧ ∀ H', Ex H H' → Q (.bl true) H'
theorem scIsF : FnScope ["value"] ["value"] (defScope sIsF) := ⟨rfl, rfl, rfl, by decide +kernel, rfl, by decide +kernel, by decide +kernel⟩
theorem ok_isF (T : Txt K mg) : CalR P w K mg base 2 "is_fraction" (spIsF K) := by
  refine calR_of T.isF scIsF (fun vs H Q E h => ?_) (fun _ _ _ _ _ _ us hl => match us, hl with | [_], _ => rfl) (fun f cdv A outer s H vs Q E hr h => ?_)
  · obtain ⟨v, q, rfl, _⟩ := h
    rfl
  · obtain ⟨v, p, rfl, ⟨a, rfl, hx⟩, ⟨r1, r2, r3⟩, q⟩ := h
    refine ⟨_, pss_cons (ps_if (PW.pt (pw_or (pt_not (pt_val (pe_callB call_isi (by rfl) T.isinstance (by decide +kernel) (pa_cons (pv 0) (pa_cons (pe_bltn (by rfl) T.tuple (by decide +kernel) (v := .ty "tuple") rfl) pa_nil)))))
        (pw_or1 (pt_cmpR op_ne (pe_callB call_len_seq (by rfl) T.len PySem.boot_len (pa_cons (pv 0) pa_nil)) pe_int (nomark _))))) (pss_one (ps_ret pe_bl)) pss_nil)
      (pss_cons (ps_if (PW.pt (pw_or (pt_not (pt_val (pe_cr (ok_whole T) hr (by decide) (by rfl) (pa_cons (pe_ix ix_tup (pv 0) pe_int (fun _ _ => rfl)) (pa_cons pe_int (pa_cons pe_non pa_nil))))))
        (pw_or1 (pt_not (pt_val (pe_cr (ok_whole T) hr (by decide) (by rfl) (pa_cons (pe_ix ix_tup (pv 0) pe_int (fun _ _ => rfl)) (pa_cons pe_int (pa_cons pe_non pa_nil))))))))) (pss_one (ps_ret pe_bl)) pss_nil)
      (pss_one (ps_ret (pe_cmpR op_eq (pe_cr (ok_cd T) hr (by decide) (by rfl) (pa_cons (pe_ix ix_tup (pv 0) pe_int (fun _ _ => rfl)) (pa_cons (pe_ix ix_tup (pv 0) pe_int (fun _ _ => rfl)) pa_nil))) pe_int (nomark _))))), ?_⟩
    refine q_skip (et_orF (et_not (a := true) (et_B (ev_cb (ea2 (ev_var rfl) ev_c) (rc_isi (fun H1 e1 => tyx_tup (ex_t e1 hx)) (by decide +kernel)))))
      (et_is (et_test (ev_op (ev_cb (ea1 (ev_var rfl)) (rc_lenT hx)) ev_c (rv_ne rfl))) (by show (!decide (V.int 2 = V.int 2)) = false; decide))) fun H1 e1 => ?_
    have hx1 := ex_t e1 hx
    have f1 : Ev (tOp (rIxT K) (tVar 0) (tC (.int 0))) (L2.start ["value"] [.ref a]) H1 (.int (p.1 : Int)) := ev_op (ev_var rfl) ev_c (rv_ixT hx1 rfl)
    have f2 : Ev (tOp (rIxT K) (tVar 0) (tC (.int 1))) (L2.start ["value"] [.ref a]) H1 (.int (p.2 : Int)) := ev_op (ev_var rfl) ev_c (rv_ixT hx1 rfl)
    refine q_skip (et_orF (et_not (a := true) (et_B (ev_crV (ea_cons f1 (ea2 ev_c ev_c)) fun H2 e2 Q2 k => ⟨_, rfl, by omega, k⟩))) (et_not (a := true) (et_B (ev_crV (ea_cons f2 (ea2 ev_c ev_c)) fun H2 e2 Q2 k => ⟨_, rfl, by omega, k⟩)))) fun H2 e2 => ?_
    refine s_ret (v := .bl true) (ev_is (ev_op (ev_crV (z := .int ((Nat.gcd p.1 p.2 : Nat) : Int)) (ea2 (f1.mono e2) (f2.mono e2)) fun H3 e3 Q2 k => ⟨_, _, rfl, k⟩) ev_c (rv_eq rfl)) ?_) fun H3 e3 => q H3 ((e1.trans e2).trans e3)
    rw [r3]
    exact congrArg V.bl (decide_eq_true rfl)
def spChk (K : PySem.W.Frag) : Sp := fun vs H Q _ => ∃ (v : V) (q : F), vs = [v] ∧ IsF K q v H ∧ Red q ∧ ∀ H', Ex H H' → Q .non H'
theorem scChk : FnScope ["value"] ["value"] (defScope sChk) := ⟨rfl, rfl, rfl, by decide +kernel, rfl, by decide +kernel, by decide +kernel⟩
theorem ok_chk (T : Txt K mg) : CalR P w K mg base 3 "check_fraction" (spChk K) := by
  refine calR_of T.chk scChk (fun vs H Q E h => ?_) (fun _ _ _ _ _ _ us hl => match us, hl with | [_], _ => rfl) (fun f cdv A outer s H vs Q E hr h => ?_)
  · obtain ⟨v, q, rfl, _⟩ := h
    rfl
  · obtain ⟨v, p, rfl, hx, r, q⟩ := h
    refine ⟨_, pss_one (ps_if (pt_not (pt_val (pe_cr (ok_isF T) hr (by decide) (by rfl) (pa_cons (pv 0) pa_nil)))) (pss_one ps_never) pss_nil), ?_⟩
    exact s_skip (et_not (a := true) (et_B (ev_cr (efs_cons (evf_var rfl hx) efs_nil) fun vs H1 e1 hvs Q2 k => by
      cases hvs with
      | cons a b =>
        cases b
        exact ⟨_, p, rfl, a, r, k⟩))) fun H1 e1 => q H1 e1
/-! ### times_of, over_of, order_of -/
def spF2 (K : PySem.W.Frag) (g : F → F → F) : Sp := fun vs H Q _ => ∃ p q, AllF K H vs [p, q] ∧ G 3500 p ∧ G 3500 q ∧ ∀ v H', Ex H H' → IsF K (g p q) v H' → Q v H'
theorem spF2.two {g : F → F → F} {vs : List V} {H : Hp} {Q : VK} {E : XK} (h : spF2 K g vs H Q E) : ∃ v w p q, vs = [v, w] ∧ IsF K p v H ∧ IsF K q w H ∧ G 3500 p ∧ G 3500 q ∧ ∀ v H', Ex H H' → IsF K (g p q) v H' → Q v H' := by
  obtain ⟨p, q, hvs, g1, g2, k⟩ := h
  cases hvs with
  | cons a b =>
    cases b with
    | cons b c =>
      cases c
      exact ⟨_, _, p, q, rfl, a, b, g1, g2, k⟩
theorem scTimes : FnScope ["one", "other"] ["one", "other"] (defScope sTimes) := ⟨rfl, rfl, rfl, by decide +kernel, rfl, by decide +kernel, by decide +kernel⟩
theorem ok_times (T : Txt K mg) : CalR P w K mg base 3 "times_of" (spF2 K tm) := by
  refine calR_of T.times scTimes (fun vs H Q E h => ?_) (fun _ _ _ _ _ _ us hl => match us, hl with | [_, _], _ => rfl) (fun f cdv A outer s H vs Q E hr h => ?_)
  · obtain ⟨_, _, _, _, rfl, _⟩ := h.two
    rfl
  · obtain ⟨v, w, p, r, rfl, hp, hq, gp, gq, q⟩ := h.two
    refine ⟨_, pss_one (ps_ret (pe_cr (ok_lowest T) hr (by decide) (by rfl) (pa_cons (pe_op op_mulW (pe_ix ix_tup (pv 0) pe_int (fun _ _ => rfl)) (pe_ix ix_tup (pv 1) pe_int (fun _ _ => rfl)))
      (pa_cons (pe_op op_mulW (pe_ix ix_tup (pv 0) pe_int (fun _ _ => rfl)) (pe_ix ix_tup (pv 1) pe_int (fun _ _ => rfl))) pa_nil)))), ?_⟩
    refine s_retX (R := IsF K (tm p r)) (evx_crV (ea2 (ev_op (ev_fst (evf_var rfl hp)) (ev_fst (evf_var rfl hq)) (rv_mul (mul_ok gp.hi gq.hi (by decide) (by decide)))) (ev_op (ev_snd (evf_var rfl hp)) (ev_snd (evf_var rfl hq)) (rv_mul (mul_ok gp.lo gq.lo (by decide) (by decide)))))
      fun H1 e1 Q1 k => ⟨p.1 * r.1, p.2 * r.2, rfl, Nat.mul_pos gp.red.1 gq.red.1, Nat.mul_pos gp.red.2.1 gq.red.2.1, pow_le (mul_pow gp.hi gq.hi) (by decide), k⟩) fun v H1 e1 hv => q v H1 e1 hv
theorem scOver : FnScope ["one", "other"] ["one", "other"] (defScope sOver) := ⟨rfl, rfl, rfl, by decide +kernel, rfl, by decide +kernel, by decide +kernel⟩
theorem ok_over (T : Txt K mg) : CalR P w K mg base 3 "over_of" (spF2 K ov) := by
  refine calR_of T.over scOver (fun vs H Q E h => ?_) (fun _ _ _ _ _ _ us hl => match us, hl with | [_, _], _ => rfl) (fun f cdv A outer s H vs Q E hr h => ?_)
  · obtain ⟨_, _, _, _, rfl, _⟩ := h.two
    rfl
  · obtain ⟨v, w, p, r, rfl, hp, hq, gp, gq, q⟩ := h.two
    refine ⟨_, pss_one (ps_ret (pe_cr (ok_lowest T) hr (by decide) (by rfl) (pa_cons (pe_op op_mulW (pe_ix ix_tup (pv 0) pe_int (fun _ _ => rfl)) (pe_ix ix_tup (pv 1) pe_int (fun _ _ => rfl)))
      (pa_cons (pe_op op_mulW (pe_ix ix_tup (pv 0) pe_int (fun _ _ => rfl)) (pe_ix ix_tup (pv 1) pe_int (fun _ _ => rfl))) pa_nil)))), ?_⟩
    refine s_retX (R := IsF K (ov p r)) (evx_crV (ea2 (ev_op (ev_fst (evf_var rfl hp)) (ev_snd (evf_var rfl hq)) (rv_mul (mul_ok gp.hi gq.lo (by decide) (by decide)))) (ev_op (ev_snd (evf_var rfl hp)) (ev_fst (evf_var rfl hq)) (rv_mul (mul_ok gp.lo gq.hi (by decide) (by decide)))))
      fun H1 e1 Q1 k => ⟨p.1 * r.2, p.2 * r.1, rfl, Nat.mul_pos gp.red.1 gq.red.2.1, Nat.mul_pos gp.red.2.1 gq.red.1, pow_le (mul_pow gp.hi gq.lo) (by decide), k⟩) fun v H1 e1 hv => q v H1 e1 hv
def spI2 (K : PySem.W.Frag) : Sp := fun vs H Q _ => ∃ p q, AllF K H vs [p, q] ∧ G 3500 p ∧ G 3500 q ∧ ∀ H', Ex H H' → Q (.int (ord p q)) H'
theorem spI2.two {vs : List V} {H : Hp} {Q : VK} {E : XK} (h : spI2 K vs H Q E) : ∃ v w p q, vs = [v, w] ∧ IsF K p v H ∧ IsF K q w H ∧ G 3500 p ∧ G 3500 q ∧ ∀ H', Ex H H' → Q (.int (ord p q)) H' := by
  obtain ⟨p, q, hvs, g1, g2, k⟩ := h
  cases hvs with
  | cons a b =>
    cases b with
    | cons b c =>
      cases c
      exact ⟨_, _, p, q, rfl, a, b, g1, g2, k⟩
theorem scOrder : FnScope ["one", "other", "left", "right"] ["one", "other"] (defScope sOrder) := ⟨rfl, rfl, rfl, by decide +kernel, rfl, by decide +kernel, by decide +kernel⟩
theorem ok_order (T : Txt K mg) : CalR P w K mg base 1 "order_of" (spI2 K) := by
  refine calR_of T.order scOrder (fun vs H Q E h => ?_) (fun _ _ _ _ _ _ us hl => match us, hl with | [_, _], _ => rfl) (fun f cdv A outer s H vs Q E hr h => ?_)
  · obtain ⟨_, _, _, _, rfl, _⟩ := h.two
    rfl
  · obtain ⟨v, w, p, r, rfl, hp, hq, gp, gq, q⟩ := h.two
    refine ⟨_, pss_cons (ps_par (i := 2) (j := 3) (by rfl) scOrder.nd rfl rfl (by decide) rfl rfl (pa_cons (pe_op op_mulW (pe_ix ix_tup (pv 0) pe_int (fun _ _ => rfl)) (pe_ix ix_tup (pv 1) pe_int (fun _ _ => rfl)))
      (pa_cons (pe_op op_mulW (pe_ix ix_tup (pv 1) pe_int (fun _ _ => rfl)) (pe_ix ix_tup (pv 0) pe_int (fun _ _ => rfl))) pa_nil)) (by rfl))
      (pss_cons (ps_if (pt_cmpR op_eq (pv 2) (pv 3) (nomark _)) (pss_one (ps_ret pe_int)) pss_nil)
      (pss_one (ps_ret (pe_ifExp (pt_cmpR op_lt (pv 2) (pv 3) (nomark _)) (pe_un un_neg pe_int) pe_int)))), ?_⟩
    refine q_par (ea2 (ev_op (ev_fst (evf_var rfl hp)) (ev_snd (evf_var rfl hq)) (rv_mul (mul_ok gp.hi gq.lo (by decide) (by decide)))) (ev_op (ev_fst (evf_var rfl hq)) (ev_snd (evf_var rfl hp)) (rv_mul (mul_ok gq.hi gp.lo (by decide) (by decide))))) fun H1 e1 => ?_
    refine q_when (b := decide (p.1 * r.2 = r.1 * p.2)) (et_is (et_test (ev_op (ev_var rfl) (ev_var rfl) (rv_eq rfl))) ?_) (fun hb H2 e2 => ?_) (fun hb H2 e2 => ?_)
    · refine decide_eq_decide.mpr ⟨fun h => ?_, fun h => by rw [h]⟩
      injection h with h
      exact Int.ofNat.inj h
    · refine s_ret (v := .int 0) ev_c fun H3 e3 => ?_
      have z := q H3 ((e1.trans e2).trans e3)
      rw [show ord p r = 0 from if_pos (of_decide_eq_true hb)] at z
      exact z
    · have hne := of_decide_eq_false hb
      refine s_ret (v := .int (ord p r)) (ev_if (b := decide (p.1 * r.2 < r.1 * p.2)) (et_is (et_test (ev_op (ev_var rfl) (ev_var rfl) (rv_I0 (g := fun i j => .bl (decide (i < j)))))) (decide_eq_decide.mpr Int.ofNat_lt)) (fun hc => ?_) (fun hc => ?_)) fun H3 e3 => q H3 ((e1.trans e2).trans e3)
      · rw [show ord p r = -1 from (if_neg hne).trans (if_pos (of_decide_eq_true hc))]
        exact ev_un ev_c ru_neg
      · rw [show ord p r = 1 from (if_neg hne).trans (if_neg (of_decide_eq_false hc))]
        exact ev_c
/-! ### quotient, compare -/
theorem ev_chk {te : TE} {σ : L2.St} {H : Hp} {p : F} (h : EvF K te σ H p) (r : Red p) : Ev (tCr (spChk K) (tCons te tNil)) σ H .non := ev_cr (efs_cons h efs_nil) fun vs H1 e1 hvs Q2 k => by
  cases hvs with
  | cons a b =>
    cases b
    exact ⟨_, p, rfl, a, r, k⟩
theorem evf_2 {g : F → F → F} {ta tb : TE} {σ : L2.St} {H : Hp} {p q : F} (ha : EvF K ta σ H p) (hb : EvF K tb σ H q) (gp : G 3500 p) (gq : G 3500 q) : EvF K (tCr (spF2 K g) (tCons ta (tCons tb tNil))) σ H (g p q) :=
  evx_cr (efs_cons ha (efs_cons hb efs_nil)) fun vs H1 e1 hvs Q2 k => ⟨p, q, hvs, gp, gq, k⟩
theorem evi_2 {ta tb : TE} {σ : L2.St} {H : Hp} {p q : F} (ha : EvF K ta σ H p) (hb : EvF K tb σ H q) (gp : G 3500 p) (gq : G 3500 q) : Ev (tCr (spI2 K) (tCons ta (tCons tb tNil))) σ H (.int (ord p q)) :=
  ev_cr (efs_cons ha (efs_cons hb efs_nil)) fun vs H1 e1 hvs Q2 k => ⟨p, q, hvs, gp, gq, k⟩
theorem scQuot : FnScope ["one", "other"] ["one", "other"] (defScope sQuot) := ⟨rfl, rfl, rfl, by decide +kernel, rfl, by decide +kernel, by decide +kernel⟩
theorem ok_quot (T : Txt K mg) : CalR P w K mg base 4 "quotient" (spF2 K ov) := by
  refine calR_of T.quot scQuot (fun vs H Q E h => ?_) (fun _ _ _ _ _ _ us hl => match us, hl with | [_, _], _ => rfl) (fun f cdv A outer s H vs Q E hr h => ?_)
  · obtain ⟨_, _, _, _, rfl, _⟩ := h.two
    rfl
  · obtain ⟨v, w, p, r, rfl, hp, hq, gp, gq, q⟩ := h.two
    refine ⟨_, pss_cons (ps_expr (pe_cr (ok_chk T) hr (by decide) (by rfl) (pa_cons (pv 0) pa_nil))) (pss_cons (ps_expr (pe_cr (ok_chk T) hr (by decide) (by rfl) (pa_cons (pv 1) pa_nil)))
      (pss_one (ps_ret (pe_cr (ok_over T) hr (by decide) (by rfl) (pa_cons (pv 0) (pa_cons (pv 1) pa_nil)))))), ?_⟩
    refine q_drop (ev_chk (evf_var rfl hp) gp.red) fun H1 e1 => q_drop (ev_chk (evf_var rfl (hq.ex e1)) gq.red) fun H2 e2 => ?_
    exact s_retX (evf_2 (evf_var rfl (hp.ex (e1.trans e2))) (evf_var rfl (hq.ex (e1.trans e2))) gp gq) fun v H3 e3 hv => q v H3 ((e1.trans e2).trans e3) hv
theorem scCmp : FnScope ["one", "other"] ["one", "other"] (defScope sCmp) := ⟨rfl, rfl, rfl, by decide +kernel, rfl, by decide +kernel, by decide +kernel⟩
theorem ok_cmp (T : Txt K mg) : CalR P w K mg base 4 "compare" (spI2 K) := by
  refine calR_of T.cmp scCmp (fun vs H Q E h => ?_) (fun _ _ _ _ _ _ us hl => match us, hl with | [_, _], _ => rfl) (fun f cdv A outer s H vs Q E hr h => ?_)
  · obtain ⟨_, _, _, _, rfl, _⟩ := h.two
    rfl
  · obtain ⟨v, w, p, r, rfl, hp, hq, gp, gq, q⟩ := h.two
    refine ⟨_, pss_cons (ps_expr (pe_cr (ok_chk T) hr (by decide) (by rfl) (pa_cons (pv 0) pa_nil))) (pss_cons (ps_expr (pe_cr (ok_chk T) hr (by decide) (by rfl) (pa_cons (pv 1) pa_nil)))
      (pss_one (ps_ret (pe_cr (ok_order T) hr (by decide) (by rfl) (pa_cons (pv 0) (pa_cons (pv 1) pa_nil)))))), ?_⟩
    refine q_drop (ev_chk (evf_var rfl hp) gp.red) fun H1 e1 => q_drop (ev_chk (evf_var rfl (hq.ex e1)) gq.red) fun H2 e2 => ?_
    exact s_ret (evi_2 (evf_var rfl (hp.ex (e1.trans e2))) (evf_var rfl (hq.ex (e1.trans e2))) gp gq) fun H3 e3 => q H3 ((e1.trans e2).trans e3)
end
end Sz

/-! part 6 -/
namespace Sz
open PySem PySem.Spec PyProof.Rows L2 Evl Fx
theorem prod_take {ps : List F} {i : Nat} {q : F} (h : ps[i]? = some q) : prod (ps.take (i + 1)) = tm (prod (ps.take i)) q := by
  unfold prod
  rw [List.take_add_one, h, List.foldl_append]
  rfl
theorem g_fold {n : Nat} : ∀ (ps : List F) {m : Nat} {a : F}, G m a → (∀ q ∈ ps, G n q) → G (m + n * ps.length) (ps.foldl tm a)
  | [], m, a, ha, _ => ha.mono (Nat.le_add_right _ _)
  | q :: ps, m, a, ha, h => by
    have z := g_fold ps (ha.tm (h q (List.mem_cons_self ..))) fun r hr => h r (List.mem_cons_of_mem _ hr)
    refine z.mono ?_
    rw [List.length_cons, Nat.mul_add]
    omega
theorem g_prod {n : Nat} {ps : List F} (h : ∀ q ∈ ps, G n q) : G (1 + n * ps.length) (prod ps) := g_fold ps G.one h
section
variable {P : Program} {w : World} {K : PySem.W.Frag} {mg : Str → Option Value} {base : Heap}
theorem AllF.get {H : Hp} : ∀ {vs : List V} {ps : List F} {i : Nat} {x : V}, AllF K H vs ps → vs[i]? = some x → ∃ q, ps[i]? = some q ∧ IsF K q x H
  | _, _, _, _, .nil, e => by simp at e
  | _, _, 0, _, .cons r _, e => by
    simp at e
    subst e
    exact ⟨_, rfl, r⟩
  | _, _, i + 1, x, .cons _ t, e => by
    obtain ⟨q, h1, h2⟩ := AllF.get (i := i) (x := x) t (by simpa using e)
    exact ⟨q, by simpa using h1, h2⟩
theorem AllF.len {H : Hp} {vs : List V} {ps : List F} (h : AllF K H vs ps) : vs.length = ps.length := Paired.length h
/-! ### product -/
def spProd (K : PySem.W.Frag) : Sp := fun vs H Q _ => ∃ (ps : List F) (n : Nat), AllF K H vs ps ∧ (∀ q ∈ ps, G n q) ∧ n ≤ 3000 ∧ n * ps.length ≤ 3000 ∧ ps.length ≤ 100 ∧ ∀ v H', Ex H H' → IsF K (prod ps) v H' → Q v H'
def spProdB (K : PySem.W.Frag) : Sp := fun vs H Q _ => ∃ (p : Addr) (ws : List V) (ps : List F) (n : Nat), vs = [.ref p] ∧ H p = some (.tup ws) ∧ AllF K H ws ps ∧ (∀ q ∈ ps, G n q) ∧ n ≤ 3000 ∧ n * ps.length ≤ 3000 ∧ ∀ v H', Ex H H' → IsF K (prod ps) v H' → Q v H'
theorem scProd : FnScope ["fractions", "number", "found"] ["fractions"] (defScope sProd) := ⟨rfl, rfl, rfl, by decide +kernel, rfl, by decide +kernel, by decide +kernel⟩
theorem ok_prod (T : Txt K mg) : CalR P w K mg base 4 "product" (spProd K) := by
  obtain ⟨f, fd, Fu, hm⟩ := T.prod.ex
  refine ⟨f, ?_, hm, Fu.kp⟩
  obtain ⟨oc, od, kV, doc, pm, an, cdv, ct, osl, rfl, lk, hcd⟩ := Fu.ex
  refine FnR.imp (StX.fn_star (k := 3) (ps := []) (pv := "fractions") (sp := spProdB K) lk hcd scProd StX.cxUp_none (fun us rest hl => ?_) fun A outer s H vs Q E hr h => ?_) fun vs H Q E h => ?_
  · match us, rest, hl with
    | [], [], _ => rfl
    | [], _ :: _, _ => rfl
  · obtain ⟨p, ws, ps, n, rfl, hp, hall, hg, hn, hn2, q⟩ := h
    obtain ⟨aO, mO, sO⟩ := T.one
    have hx : SqT K H p ws := st_of hp
    refine ⟨_, PSs.nox (pss_cons (ps_for PassesOwn.never rfl (pi_tup (pv 0)) (pg_name (i := 1) scProd.nd rfl (.inl rfl)) (pss_one (ps_expr (pe_cr (ok_chk T) hr (by decide) (by rfl) (pa_cons (pv 1) pa_nil)))))
      (pss_cons (ps_set (i := 2) scProd.nd rfl (.inl rfl) (pe_glob (by rfl) mO (v := .ref aO) rfl))
      (pss_cons (ps_for PassesOwn.never rfl (pi_tup (pv 0)) (pg_name (i := 1) scProd.nd rfl (.inl rfl)) (pss_one (ps_set (i := 2) scProd.nd rfl (.inl rfl) (pe_cr (ok_times T) hr (by decide) (by rfl) (pa_cons (pv 2) (pa_cons (pv 1) pa_nil))))))
      (pss_one (ps_ret (pv 2)))))), ?_⟩
    refine q_forT (ev_var rfl) hx (fun i σ' H' => ∃ y, σ' = [some (.ref p), y, none] ∧ Ex H H') (fun H1 e1 => ⟨none, rfl, e1⟩) (fun i σ' H' _ ⟨y, _, e⟩ => ex_t e hx) (fun i x σ' H' hi ⟨y, es, e⟩ => ?_) (fun σ' H' ⟨y, es, e⟩ => ?_)
    · subst es
      obtain ⟨r, hr1, hr2⟩ := hall.get hi
      exact s_drop (ev_chk (evf_var rfl (hr2.ex e)) (hg r (List.mem_of_getElem? hr1)).red) fun H1 e1 => ⟨some x, rfl, e.trans e1⟩
    · subst es
      refine q_asg (v := .ref aO) ev_c fun H1 e1 => ?_
      refine q_forT (ev_var rfl) (ex_t (e.trans e1) hx) (fun i σ' H' => ∃ y v, σ' = [some (.ref p), y, some v] ∧ Ex H H' ∧ IsF K (prod (ps.take i)) v H') (fun H2 e2 => ⟨y, .ref aO, rfl, (e.trans e1).trans e2, aO, rfl, sO H2⟩) (fun i σ' H' _ ⟨_, _, _, e, _⟩ => ex_t e hx)
        (fun i x σ' H' hi ⟨y, v, es, e, hv⟩ => ?_) (fun σ' H' ⟨y, v, es, e, hv⟩ => ?_)
      · subst es
        obtain ⟨r, hr1, hr2⟩ := hall.get hi
        have il : i < ps.length := (List.getElem?_eq_some_iff.mp hr1).1
        have gr := hg r (List.mem_of_getElem? hr1)
        have gp : G 3500 (prod (ps.take i)) := (g_prod (n := n) (ps := ps.take i) fun z hz => hg z (List.mem_of_mem_take hz)).mono (by
          rw [List.length_take, Nat.min_eq_left (Nat.le_of_lt il)]
          have := Nat.mul_le_mul_left n (Nat.le_of_lt il)
          omega)
        refine s_asgX (R := IsF K (prod (ps.take (i + 1)))) ?_ fun u H1 e1 hu => ⟨some x, u, rfl, e.trans e1, hu⟩
        rw [prod_take hr1]
        exact evf_2 (evf_var rfl hv) (evf_var rfl (hr2.ex e)) gp (gr.mono (by omega))
      · subst es
        refine s_ret (ev_var rfl) fun H2 e2 => q v H2 (e.trans e2) ?_
        rw [hall.len, List.take_length] at hv
        exact hv.ex e2
  · obtain ⟨ps, n, hall, hg, hn, hn2, hl, q⟩ := h
    refine ⟨[], vs, rfl, rfl, by rw [hall.len]; exact sz_of (by omega), fun p hp => ⟨p, vs, ps, n, rfl, upd_same, hall.ex (Ex.new hp), hg, hn, hn2, fun v H' e hv => q v H' ((Ex.new hp).trans e) hv⟩⟩
theorem evf_prod {tr : TA} {σ : L2.St} {H : Hp} {ps : List F} {n : Nat} (h : EvFs K tr σ H ps) (hg : ∀ q ∈ ps, G n q) (hn : n ≤ 3000) (hn2 : n * ps.length ≤ 3000) (hl : ps.length ≤ 100) : EvF K (tCr (spProd K) tr) σ H (prod ps) :=
  evx_cr h fun vs H1 e1 hvs Q2 k => ⟨ps, n, hvs, hg, hn, hn2, hl, k⟩
/-! ### fraction -/
theorem q_forNT {xs : List V} {tl : TE} {σ : L2.St} {H : Hp} {D : Ends} {g : TG} {tu tz : TS} (h : EvU tl σ H xs) (Pv : Addr → Nat → L2.St → Hp → Prop) (h0 : ∀ p H1, H p = none → Ex H H1 → H1 p = some (.tup xs) → Pv p 0 σ H1) (hl : ∀ p i σ' H', i ≤ xs.length → Pv p i σ' H' → SqT K H' p xs)
    (hs : ∀ p i x σ' H', xs[i]? = some x → Pv p i σ' H' → g x σ' H' fun σ2 H2 => tu { D with nx := Pv p (i + 1), ct := Pv p (i + 1), bk := tz D } σ2 H2) (hd : ∀ p σ' H', Pv p xs.length σ' H' → tz D σ' H') : tSeq (tFor (iTup K tl) g tu) tz D σ H :=
  h H (Ex.refl H) _ fun p H1 hp e h1 => ⟨p, rfl, ⟨xs, st_of h1⟩, for_tup (D := { D with nx := tz D }) (Pv p) (h0 p H1 hp e h1) (hl p) (hs p) (hd p)⟩
theorem scFrac : FnScope ["top", "bottom", "part"] ["top", "bottom"] (defScope sFrac) := ⟨rfl, rfl, rfl, by decide +kernel, rfl, by decide +kernel, by decide +kernel⟩
theorem ok_frac (T : Txt K mg) : CalR P w K mg base 3 "fraction" (spLowest K) := by
  obtain ⟨f, fd, Fu, hm⟩ := T.frac
  obtain ⟨ds, hds, hb⟩ := Fu.binds1 (ps := ["top", "bottom"]) 2 1 (List.cons_ne_nil _ _) rfl (fun Ta kV doc pm an cdv ct us its h1 h2 => match us, its, h1, h2 with | [_, _], [_], _, _ => ⟨_, rfl, rfl⟩)
  have e0 : ds = [] := by
    cases hds
    rfl
  subst e0
  refine ⟨f, FnOk.toR (Fu.ok scFrac (fun vs H Q E h => ?_) fun cdv A outer s H vs Q E hr h => ?_) hb, hm, Fu.kp⟩
  · obtain ⟨a, b, rfl, _⟩ := h
    rfl
  · obtain ⟨a, b, rfl, ha, hb, hz, q⟩ := h
    refine ⟨_, PSs.nox (pss_cons (ps_for PassesOwn.never rfl (pi_tup (pe_tup (pa_cons (pv 0) (pa_cons (pv 1) pa_nil)))) (pg_name (i := 2) scFrac.nd rfl (.inl rfl))
        (pss_one (ps_if (pt_not (pt_val (pe_cr (ok_whole T) hr (by decide) (by rfl) (pa_cons (pv 2) (pa_cons pe_int (pa_cons pe_non pa_nil)))))) (pss_one ps_never) pss_nil)))
      (pss_one (ps_ret (pe_cr (ok_lowest T) hr (by decide) (by rfl) (pa_cons (pv 0) (pa_cons (pv 1) pa_nil)))))), ?_⟩
    refine q_forNT (eu_tup (ea2 (ev_var rfl) (ev_var rfl)) (by show 2 ≤ 100000; decide)) (fun p i σ' H' => ∃ y, σ' = [some (.int (a : Int)), some (.int (b : Int)), y] ∧ Ex H H' ∧ H' p = some (.tup [.int (a : Int), .int (b : Int)])) (fun p H1 hp e h1 => ⟨none, rfl, e, h1⟩) (fun p i σ' H' _ ⟨_, _, _, h⟩ => st_of h)
      (fun p i x σ' H' hi ⟨y, es, e, hp⟩ => ?_) (fun p σ' H' ⟨y, es, e, hp⟩ => ?_)
    · subst es
      have hx : ∃ c : Int, x = .int c ∧ 1 ≤ c := by
        match i, hi with
        | 0, hi => exact ⟨a, (Option.some.inj hi).symm, by omega⟩
        | 1, hi => exact ⟨b, (Option.some.inj hi).symm, by omega⟩
        | i + 2, hi => simp at hi
      obtain ⟨c, rfl, hc⟩ := hx
      exact s_skip (et_not (a := true) (et_B (ev_crV (ea_cons (ev_var rfl) (ea2 ev_c ev_c)) fun H2 e2 Q2 k => ⟨_, rfl, hc, k⟩))) fun H1 e1 => ⟨some (.int c), rfl, e.trans e1, e1 _ _ hp⟩
    · subst es
      exact s_retX (R := IsF K (low a b)) (evx_crV (ea2 (ev_var rfl) (ev_var rfl)) fun H1 e1 Q1 k => ⟨a, b, rfl, ha, hb, hz, k⟩) fun v H1 e1 hv => q v H1 (e.trans e1) hv
end
end Sz

/-! part 7 -/
namespace Sz
open PySem PySem.Spec PyProof.Rows L2 Evl Fx
/-! ### the written form -/
def shownL (q : F) : List Nat := if q.2 = 1 then TL.numL q.1 else TL.numL q.1 ++ (47 :: TL.numL q.2)
def strL (l : List Nat) : Str := ⟨l.toArray⟩
theorem tl_strL (l : List Nat) : TL.tl (strL l) = l := rfl
theorem len_strL (l : List Nat) : (strL l).length = l.length := by
  rw [TL.len_tl]
  rfl
theorem num_strL (n : Nat) : Str.ofString (toString ((n : Nat) : Int)) = strL (TL.numL n) := TL.ext_tl (by rw [TL.tl_num]; rfl)
theorem pow1900 : (2 : Nat) ^ 1900 ≤ 10 ^ 640 := by
  have h1 : (2 : Nat) ^ 1900 ≤ 2 ^ 1920 := Nat.pow_le_pow_right (by decide) (by decide)
  have h2 : (2 : Nat) ^ 1920 = (2 ^ 3) ^ 640 := by rw [← Nat.pow_mul]
  have h3 : ((2 : Nat) ^ 3) ^ 640 ≤ 10 ^ 640 := Nat.pow_le_pow_left (by decide) 640
  rw [h2] at h1
  exact Nat.le_trans h1 h3
theorem numL_640 {n : Nat} (h : n < 2 ^ 1900) : (TL.numL n).length ≤ 640 := TL.numL_len (by decide) (Nat.lt_of_lt_of_le h pow1900)
theorem log_1920 {n : Nat} (h : n < 2 ^ 1900) : ((n : Int)).natAbs.log2 < 1920 := by
  rw [Int.natAbs_natCast]
  exact Nat.lt_trans (PySem.Flt.log2_lt_of (by decide) h) (by decide)
/-- the first digit of a positive number is not 0 -/
theorem numL_head {n : Nat} (h : 0 < n) : ∃ c r, TL.numL n = c :: r ∧ 49 ≤ c := by
  induction n using Nat.strongRecOn with
  | _ n ih =>
    by_cases h10 : n < 10
    · exact ⟨48 + n, [], TL.numL_lt h10, by omega⟩
    · obtain ⟨c, r, e, hc⟩ := ih (n / 10) (by omega) (by omega)
      exact ⟨c, r ++ [48 + n % 10], by rw [TL.numL_step (by omega), e]; rfl, hc⟩
theorem split_1 (n : Nat) : Txt.split (strL (TL.numL n)) "/" = [strL (TL.numL n)] := by
  have h := TL.split_join (y := "/") (s := 47) (S := []) (by decide +kernel) (by decide +kernel) (parts := [strL (TL.numL n)]) (List.cons_ne_nil _ _) (fun p hp => by
    rw [List.mem_singleton.mp hp]
    exact TL.numL_free (.inl (by decide)))
  have e : Txt.join "/" [strL (TL.numL n)] = strL (TL.numL n) := by
    rw [TL.join_eq]
    refine TL.ext_tl ?_
    rw [TL.tl_join]
    rfl
  rw [e] at h
  exact h
theorem split_2 (n m : Nat) : Txt.split (strL (TL.numL n ++ (47 :: TL.numL m))) "/" = [strL (TL.numL n), strL (TL.numL m)] := by
  have h := TL.split_join (y := "/") (s := 47) (S := []) (by decide +kernel) (by decide +kernel) (parts := [strL (TL.numL n), strL (TL.numL m)]) (List.cons_ne_nil _ _) (fun p hp => by
    rcases List.mem_cons.mp hp with e | hp
    · rw [e]
      exact TL.numL_free (.inl (by decide))
    · rw [List.mem_singleton.mp hp]
      exact TL.numL_free (.inl (by decide)))
  have e : Txt.join "/" [strL (TL.numL n), strL (TL.numL m)] = strL (TL.numL n ++ (47 :: TL.numL m)) := by
    rw [TL.join_eq]
    refine TL.ext_tl ?_
    rw [TL.tl_join]
    show TL.numL n ++ (TL.tl "/" ++ TL.numL m) = _
    rw [show TL.tl "/" = [47] by decide +kernel]
    rfl
  rw [e] at h
  exact h
theorem digit_in {c : Nat} (h1 : 48 ≤ c) (h2 : c ≤ 57) : c ∈ ("0123456789" : Str).cps.toList := by
  have e : ("0123456789" : Str).cps.toList = [48, 49, 50, 51, 52, 53, 54, 55, 56, 57] := by decide +kernel
  rw [e]
  simp only [List.mem_cons, List.not_mem_nil]
  omega
section
variable {P : Program} {w : World} {K : PySem.W.Frag} {mg : Str → Option Value} {base : Heap}
theorem q_unpack2 {i j : Nat} {te : TE} {σ : L2.St} {H : Hp} {D : Ends} {tz : TS} {a : Addr} {x y : V} (h : Ev te σ H (.ref a)) (hx : SqT K H a [x, y]) (k : ∀ H1, Ex H H1 → tz D ((σ.set i (some x)).set j (some y)) H1) :
    tSeq (tAsg te (gTup K 2 (gCons (gName i) (gCons (gName j) gNil)))) tz D σ H := h H (Ex.refl H) _ fun H1 e1 => ⟨a, _, rfl, ex_t e1 hx, rfl, _, _, rfl, _, _, rfl, rfl, k H1 e1⟩
/-! ### shown -/
def spShown (K : PySem.W.Frag) : Sp := fun vs H Q _ => ∃ (v : V) (q : F), vs = [v] ∧ IsF K q v H ∧ G 1900 q ∧ ∀ H', Ex H H' → Q (.str (strL (shownL q))) H'
theorem scShown : FnScope ["number", "top", "bottom"] ["number"] (defScope sShown) := ⟨rfl, rfl, rfl, by decide +kernel, rfl, by decide +kernel, by decide +kernel⟩
theorem ok_shown (T : Txt K mg) : CalR P w K mg base 1 "shown" (spShown K) := by
  refine calR_of T.shown scShown (fun vs H Q E h => ?_) (fun _ _ _ _ _ _ us hl => match us, hl with | [_], _ => rfl) (fun f cdv A outer s H vs Q E hr h => ?_)
  · obtain ⟨v, q, rfl, _⟩ := h
    rfl
  · obtain ⟨v, p, rfl, ⟨a, rfl, hx⟩, g, q⟩ := h
    refine ⟨_, pss_cons (ps_asg (pv 0) (pg_tup (by rfl) (pgs_cons (pg_name (i := 1) scShown.nd rfl (.inl rfl)) (pgs_cons (pg_name (i := 2) scShown.nd rfl (.inl rfl)) pgs_nil))))
      (pss_one (ps_ret (pe_ifExp (pt_cmpR op_eq (pv 2) pe_int (nomark _)) (pe_callTy call_str_int (by rfl) T.str (by decide +kernel) (pa_cons (pv 1) pa_nil)) (pe_joined (.cons (pe_fmt (pv 1)) (.cons pe_str (.cons (pe_fmt (pv 2)) .nil))))))), ?_⟩
    refine q_unpack2 (ev_var rfl) hx fun H0 e0 => ?_
    refine s_ret (v := .str (strL (shownL p))) (ev_if (b := decide (p.2 = 1)) (et_is (et_test (ev_op (ev_var rfl) ev_c (rv_eq rfl))) ?_) (fun hb => ?_) (fun hb => ?_)) fun H1 e1 => q H1 (e0.trans e1)
    · refine decide_eq_decide.mpr ⟨fun h => ?_, fun h => by rw [h]; rfl⟩
      injection h with h
      omega
    · have hb := of_decide_eq_true hb
      refine fun H1 e1 Q1 k => ⟨_, rfl, _, rfl, log_1920 g.hi, ?_⟩
      have z := k H1 (Ex.refl H1)
      rw [show shownL p = TL.numL p.1 from if_pos hb, ← num_strL] at z
      exact z
    · have hb := of_decide_eq_false hb
      have l1 := numL_640 g.hi
      have l2 := numL_640 g.lo
      have d : TL.tl ("/" : Str) = [47] := by decide +kernel
      have t1 : TL.tl (Str.empty ++ Str.ofString (toString ((p.1 : Nat) : Int))) = TL.numL p.1 := by
        rw [TL.tl_append, TL.tl_num]
        rfl
      have t2 : TL.tl (Str.empty ++ Str.ofString (toString ((p.1 : Nat) : Int)) ++ "/") = TL.numL p.1 ++ [47] := by
        rw [TL.tl_append, t1, d]
      have t3 : TL.tl (Str.empty ++ Str.ofString (toString ((p.1 : Nat) : Int)) ++ "/" ++ Str.ofString (toString ((p.2 : Nat) : Int))) = TL.numL p.1 ++ [47] ++ TL.numL p.2 := by
        rw [TL.tl_append, t2, TL.tl_num]
      refine fun H1 e1 Q1 k => ⟨_, rfl, .inr ⟨_, rfl, log_1920 g.hi, _, rfl, ?_, _, rfl, ?_, _, rfl, .inr ⟨_, rfl, log_1920 g.lo, _, rfl, ?_, ?_⟩⟩⟩
      · rw [TL.len_tl, t1]
        exact sz_of (by omega)
      · rw [TL.len_tl, t2, List.length_append]
        exact sz_of (by show _ + 1 ≤ _; omega)
      · rw [TL.len_tl, t3, List.length_append, List.length_append]
        exact sz_of (by show _ + 1 + _ ≤ _; omega)
      · have z := k H1 (Ex.refl H1)
        have e : strL (shownL p) = Str.empty ++ Str.ofString (toString ((p.1 : Nat) : Int)) ++ "/" ++ Str.ofString (toString ((p.2 : Nat) : Int)) := TL.ext_tl (by
          rw [t3, tl_strL, show shownL p = TL.numL p.1 ++ (47 :: TL.numL p.2) from if_neg hb, List.append_assoc]
          rfl)
        rw [e] at z
        exact z
theorem scFmt : FnScope ["number"] ["number"] (defScope sFmt) := ⟨rfl, rfl, rfl, by decide +kernel, rfl, by decide +kernel, by decide +kernel⟩
theorem ok_fmt (T : Txt K mg) : CalR P w K mg base 4 "format_fraction" (spShown K) := by
  refine calR_of T.fmt scFmt (fun vs H Q E h => ?_) (fun _ _ _ _ _ _ us hl => match us, hl with | [_], _ => rfl) (fun f cdv A outer s H vs Q E hr h => ?_)
  · obtain ⟨v, q, rfl, _⟩ := h
    rfl
  · obtain ⟨v, p, rfl, hx, g, q⟩ := h
    refine ⟨_, pss_cons (ps_expr (pe_cr (ok_chk T) hr (by decide) (by rfl) (pa_cons (pv 0) pa_nil))) (pss_one (ps_ret (pe_cr (ok_shown T) hr (by decide) (by rfl) (pa_cons (pv 0) pa_nil)))), ?_⟩
    refine q_drop (ev_chk (evf_var rfl hx) g.red) fun H1 e1 => ?_
    refine s_ret (v := .str (strL (shownL p))) (ev_cr (efs_cons (evf_var rfl (hx.ex e1)) efs_nil) fun vs H2 e2 hvs Q2 k => ?_) fun H2 e2 => q H2 (e1.trans e2)
    cases hvs with
    | cons a b =>
      cases b
      exact ⟨_, p, rfl, a, g, k⟩
/-! ### read_whole -/
section
variable {σ : L2.St} {H : Hp} {te tl : TE} {t : TT}
theorem el_lcS {z : Str} {j : Nat} {vs : List Nat} (f : Nat → Bool) (v : Nat → V) (h : Ev tl σ H (.str z)) (hz : z.cps.size ≤ 40000) (hw : ∀ x, wipe ((wipe σ vs).set j (some x)) vs = wipe σ vs)
    (ht : ∀ (i c : Nat) H1, Ex H H1 → z.cps[i]? = some c → EvT t ((wipe σ vs).set j (some (.str ⟨#[c]⟩))) H1 (f i)) (he : ∀ (i c : Nat) H1, Ex H H1 → z.cps[i]? = some c → f i = true → Ev te ((wipe σ vs).set j (some (.str ⟨#[c]⟩))) H1 (v i)) :
    EvL (tLc (iStr tl) (gName j) t te vs) σ H (given z.cps.size f v) := fun H0 e Q q => h H0 e _ fun H1 e1 => ⟨z, rfl, fun Dl hD =>
  lc_it (walk_str (z := z)) (Cw H1 f v Dl) ⟨hD, Ex.new hD, upd_same⟩ (fun _ _ _ _ => True.intro) (fun i x H' H'' hi p y => by
    obtain ⟨rfl, c, hc, rfl⟩ := y
    exact ⟨hw _, cw_turn p (by omega) (ht i c H1 (e.trans e1) hc) (fun hf => he i c H1 (e.trans e1) hc hf)⟩) (fun H' p => q Dl H' (fresh_back e1 p.1) (e1.trans p.2.1) p.2.2)⟩
theorem given_bl (n : Nat) (b : Nat → Bool) : given n (fun _ => true) (fun i => .bl (b i)) = ((List.range n).map b).map V.bl := by
  unfold given
  rw [List.filter_eq_self.mpr (fun _ _ => rfl), List.map_map]
  rfl
theorem ev_all {ta : TE} {bs : List Bool} (h : EvL ta σ H (bs.map V.bl)) : Ev (tCB (rAll K) (tCons ta tNil)) σ H (.bl (bs.all id)) := fun H1 e Q k =>
  h H1 e _ fun p H2 hp e2 h2 => ⟨p, bs, rfl, sq_of h2, k H2 e2⟩
theorem all_range {n : Nat} {b : Nat → Bool} (h : ∀ i, i < n → b i = true) : ((List.range n).map b).all id = true := by
  rw [List.all_eq_true]
  intro x hx
  obtain ⟨i, hi, rfl⟩ := List.mem_map.mp hx
  exact h i (List.mem_range.mp hi)
theorem et_yes : EvT tYes σ H true := fun H1 _ Q k => k H1 (Ex.refl H1)
end
def spRdW : Sp := fun vs H Q _ => ∃ n : Nat, vs = [.str (strL (TL.numL n))] ∧ 0 < n ∧ n < 2 ^ 1900 ∧ ∀ H', Ex H H' → Q (.int (n : Int)) H'
theorem scRdW : FnScope ["text", "letter"] ["text"] (defScope sRdW) := ⟨rfl, rfl, rfl, by decide +kernel, rfl, by decide +kernel, by decide +kernel⟩
theorem ok_rdW (T : Txt K mg) : CalR P w K mg base 1 "read_whole" spRdW := by
  refine calR_of T.rdW scRdW (fun vs H Q E h => ?_) (fun _ _ _ _ _ _ us hl => match us, hl with | [_], _ => rfl) (fun f cdv A outer s H vs Q E hr h => ?_)
  · obtain ⟨n, rfl, _⟩ := h
    rfl
  · obtain ⟨n, rfl, h0, hn, q⟩ := h
    obtain ⟨tD, mD⟩ := T.digits
    have hl := numL_640 hn
    obtain ⟨c, r, hc, hc49⟩ := numL_head h0
    refine ⟨_, pss_cons (ps_if (PW.pt (pw_or (pt_cmpR op_eq (pv 0) pe_str (nomark _)) (pw_or (pt_cmpR op_eq (pe_ix ix_str (pv 0) pe_int (fun _ _ => rfl)) pe_str (nomark _))
        (pw_or1 (pt_not (pt_val (pe_callB (cr_all rfl) (by rfl) T.all (by decide +kernel) (pa_cons (pe_lc (own := [("letter", 1)]) (g := gName 1) (tt := tYes) rfl scRdW.nd (pi_str (pv 0)) (blkOk_by (N := ["text", "letter"]) (sc := defScope sRdW) (by decide +kernel))
          (fun _ _ _ _ _ => pg_name (i := 1) scRdW.nd rfl (Or.inl rfl)) (fun _ _ _ _ _ => pts_nil) (fun _ _ _ _ _ => pe_cmpR op_in_sign (pv 1) (pe_glob (by rfl) mD (v := .str "0123456789") ⟨tD, rfl⟩) (by rfl))) pa_nil)))))))) (pss_one (ps_ret pe_non)) pss_nil)
      (pss_one (ps_ret (pe_callTy call_int_str (by rfl) T.int (by decide +kernel) (pa_cons (pv 0) pa_nil)))), ?_⟩
    refine q_skip (et_orF (et_is (et_test (ev_op (ev_var rfl) ev_c (rv_eq rfl))) ?_) (et_orF (et_is (et_test (ev_op (ev_op (ev_var rfl) ev_c (rv_ixS (i := 0) (c := c) ?_ ?_)) ev_c (rv_eq rfl))) ?_)
      (et_not (a := true) (et_B (ev_is (ev_all (bs := (List.range (strL (TL.numL n)).cps.size).map fun _ => true) ?_) (congrArg V.bl (all_range fun _ _ => rfl))))))) fun H1 e1 => ?_
    · refine decide_eq_false fun h => ?_
      injection h with h
      have h2 := congrArg TL.tl h
      rw [tl_strL, hc, show TL.tl "" = [] by decide +kernel] at h2
      cases h2
    · rw [len_strL]
      omega
    · show atI (TL.numL n) 0 = some c
      rw [hc]
      exact atI_nat (show (c :: r)[0]? = some c from rfl)
    · refine decide_eq_false fun h => ?_
      injection h with h
      have h2 : [c] = TL.tl "0" := congrArg TL.tl h
      rw [show TL.tl "0" = [48] by decide +kernel] at h2
      injection h2 with h2
      omega
    · rw [← given_bl]
      refine el_lcS (fun _ => true) (fun _ => .bl true) (ev_var rfl) ?_ (fun _ => rfl) (fun _ _ _ _ _ => et_yes) (fun i d H1 e1 hd _ => ?_)
      · show (TL.numL n).toArray.size ≤ 40000
        rw [List.size_toArray]
        omega
      · have hm : d ∈ TL.numL n := by
          have h2 : (TL.numL n).toArray[i]? = some d := hd
          rw [List.getElem?_toArray] at h2
          exact List.mem_of_getElem? h2
        have hdg := TL.numL_digits n d hm
        refine fun H2 e2 Q2 k => ⟨_, rfl, d, "0123456789", rfl, rfl, ?_⟩
        rw [decide_eq_true (digit_in hdg.1 hdg.2)]
        exact k H2 (Ex.refl H2)
    · refine s_ret (v := .int (n : Int)) (fun H2 e2 Q2 k => ⟨_, rfl, _, (n : Int), rfl, ?_, ?_, k H2 (Ex.refl H2)⟩) fun H2 e2 => q H2 (e1.trans e2)
      · rw [← num_strL]
        exact TL.int_num (by omega)
      · rw [len_strL]
        exact hl
end
end Sz

/-! part 8 -/
namespace Sz
open PySem PySem.Spec PyProof.Rows L2 Evl Fx
section
variable {P : Program} {w : World} {K : PySem.W.Frag} {mg : Str → Option Value} {base : Heap}
/-! ### read_fraction, parse_fraction -/
theorem shownL_len {q : F} (g : G 1900 q) : (shownL q).length ≤ 1281 := by
  have l1 := numL_640 g.hi
  have l2 := numL_640 g.lo
  unfold shownL
  split
  · omega
  · rw [List.length_append, List.length_cons]
    omega
theorem el_split {z : Str} {te : TE} {σ : L2.St} {H : Hp} (h : Ev te σ H (.str z)) (hz : z.length ≤ 50000) :
    EvL (tM1 (fun x xs H Q => ∃ a b, x = .str a ∧ xs = [.str b] ∧ (b.length == 0) = false ∧ a.length + 2 ≤ sizeLine ∧ rNewStrs (Txt.split a b) H Q) te (tC (.str "/"))) σ H ((Txt.split z "/").map V.str) := fun H1 e Q q =>
  h H1 e _ fun H2 e2 => ⟨⟨z, rfl⟩, z, "/", rfl, rfl, by decide +kernel, sz_of (by omega), fun p hp => q p _ (fresh_back e2 hp) (e2.trans (Ex.new hp)) upd_same⟩
theorem ev_rdW {te : TE} {σ : L2.St} {H : Hp} {n : Nat} (h : Ev te σ H (.str (strL (TL.numL n)))) (h0 : 0 < n) (hn : n < 2 ^ 1900) : Ev (tCr spRdW (tCons te tNil)) σ H (.int (n : Int)) :=
  ev_crV (ea1 h) fun H1 e1 Q1 k => ⟨n, rfl, h0, hn, k⟩
def spRdF (K : PySem.W.Frag) : Sp := fun vs H Q _ => ∃ q : F, vs = [.str (strL (shownL q))] ∧ G 1900 q ∧ ∀ v H', Ex H H' → IsF K q v H' → Q v H'
theorem scRdF : FnScope ["text", "parts", "found", "part"] ["text"] (defScope sRdF) := ⟨rfl, rfl, rfl, by decide +kernel, rfl, by decide +kernel, by decide +kernel⟩
theorem ok_rdF (T : Txt K mg) : CalR P w K mg base 3 "read_fraction" (spRdF K) := by
  refine calR_of T.rdF scRdF (fun vs H Q E h => ?_) (fun _ _ _ _ _ _ us hl => match us, hl with | [_], _ => rfl) (fun f cdv A outer s H vs Q E hr h => ?_)
  · obtain ⟨q, rfl, _⟩ := h
    rfl
  · obtain ⟨p, rfl, g, q⟩ := h
    refine ⟨_, pss_cons (ps_setLc (i := 1) (own := [("part", 3)]) (g := gName 3) (tt := tYes) rfl scRdF.nd rfl rfl (sw_true rfl rfl rfl (by decide +kernel)) (pi_list (pe_split (pv 0) pe_str)) (blkOk_by (N := ["text", "parts", "found", "part"]) (sc := defScope sRdF) (by decide +kernel))
          (fun _ _ _ _ _ => pg_name (i := 3) scRdF.nd rfl (Or.inl rfl)) (fun _ _ _ _ _ => pts_nil) (fun _ _ _ _ _ => pe_cr (ok_rdW T) hr (by decide) (by rfl) (pa_cons (pv 3) pa_nil)))
      (pss_cons (ps_if (PW.pt (pw_or (pt_cmpR op_in_seq pe_non (pv 1) (by rfl)) (pw_or1 (pt_cmpR op_gt (pe_callB call_len_seq (by rfl) T.len PySem.boot_len (pa_cons (pv 1) pa_nil)) pe_int (nomark _))))) (pss_one (ps_ret pe_non)) pss_nil)
      (pss_cons (ps_if (pt_cmpR op_eq (pe_callB call_len_seq (by rfl) T.len PySem.boot_len (pa_cons (pv 1) pa_nil)) pe_int (nomark _)) (pss_one (ps_ret (pe_tup (pa_cons (pe_ix ix_list (pv 1) pe_int (fun _ _ => rfl)) (pa_cons pe_int pa_nil))))) pss_nil)
      (pss_cons (ps_set (i := 2) scRdF.nd rfl (.inl rfl) (pe_tup (pa_cons (pe_ix ix_list (pv 1) pe_int (fun _ _ => rfl)) (pa_cons (pe_ix ix_list (pv 1) pe_int (fun _ _ => rfl)) pa_nil))))
      (pss_one (ps_ret (pe_ifExp (PW.pt (pw_and (pt_val (pe_cr (ok_isF T) hr (by decide) (by rfl) (pa_cons (pv 2) pa_nil))) (pw_and1 (pt_cmpR op_gt (pe_ix ix_tup (pv 2) pe_int (fun _ _ => rfl)) pe_int (nomark _))))) (pv 2) pe_non)))))), ?_⟩
    have hl := shownL_len g
    by_cases hb : p.2 = 1
    · have hs : EvL (tM1 (fun x xs H Q => ∃ a b, x = .str a ∧ xs = [.str b] ∧ (b.length == 0) = false ∧ a.length + 2 ≤ sizeLine ∧ rNewStrs (Txt.split a b) H Q) (tVar 0) (tC (.str "/"))) (L2.start ["text", "parts", "found", "part"] [.str (strL (shownL p))]) H [.str (strL (TL.numL p.1))] := by
        have z := el_split (te := tVar 0) (σ := L2.start ["text", "parts", "found", "part"] [.str (strL (shownL p))]) (H := H) (ev_var rfl) (by rw [len_strL]; omega)
        rw [show shownL p = TL.numL p.1 from if_pos hb, split_1] at z
        rw [show shownL p = TL.numL p.1 from if_pos hb]
        exact z
      refine q_asgL (xs := [.int (p.1 : Int)]) (el_lcNL (fun _ => true) (fun _ => .int (p.1 : Int)) hs (by show 1 ≤ 40000; decide) (fun _ => rfl) (fun _ _ _ _ _ => et_yes) (fun i x H1 e1 hx _ => ?_)) fun a H1 ha e1 h1 => ?_
      · match i, hx with
        | 0, hx =>
          obtain rfl := Option.some.inj hx
          exact ev_rdW (ev_var rfl) g.red.1 g.hi
        | i + 1, hx => simp at hx
      · have hL : SqL K H1 a [.int (p.1 : Int)] := sq_of h1
        refine q_skip (et_orF (et_is (et_test (ev_op ev_c (ev_var rfl) (rv_isL hL rfl rfl))) rfl) (et_is (et_test (ev_op (ev_len (ev_var rfl) hL) ev_c (rv_I0 (g := fun i j => .bl (decide (j < i)))))) (decide_eq_false (by show ¬ ((2 : Int) < 1); decide)))) fun H2 e2 => ?_
        refine q_when (b := true) (et_is (et_test (ev_op (ev_len (ev_var rfl) (ex_l e2 hL)) ev_c (rv_eq rfl))) (by show decide (V.int 1 = V.int 1) = true; decide)) (fun _ H3 e3 => ?_) (fun z => nomatch z)
        refine s_retX (R := IsF K p) ?_ fun v H4 e4 hv => q v H4 (((e1.trans e2).trans e3).trans e4) hv
        rw [show p = (p.1, 1) from by rw [← hb]]
        exact evf_tup (b := 1) (ev_op (ev_var rfl) ev_c (rv_ixL (ex_l (e2.trans e3) hL) rfl)) ev_c
    · have hs : EvL (tM1 (fun x xs H Q => ∃ a b, x = .str a ∧ xs = [.str b] ∧ (b.length == 0) = false ∧ a.length + 2 ≤ sizeLine ∧ rNewStrs (Txt.split a b) H Q) (tVar 0) (tC (.str "/"))) (L2.start ["text", "parts", "found", "part"] [.str (strL (shownL p))]) H [.str (strL (TL.numL p.1)), .str (strL (TL.numL p.2))] := by
        have z := el_split (te := tVar 0) (σ := L2.start ["text", "parts", "found", "part"] [.str (strL (shownL p))]) (H := H) (ev_var rfl) (by rw [len_strL]; omega)
        rw [show shownL p = TL.numL p.1 ++ (47 :: TL.numL p.2) from if_neg hb, split_2] at z
        rw [show shownL p = TL.numL p.1 ++ (47 :: TL.numL p.2) from if_neg hb]
        exact z
      refine q_asgL (xs := [.int (p.1 : Int), .int (p.2 : Int)]) (el_lcNL (fun _ => true) (fun i => if i = 0 then .int (p.1 : Int) else .int (p.2 : Int)) hs (by show 2 ≤ 40000; decide) (fun _ => rfl) (fun _ _ _ _ _ => et_yes) (fun i x H1 e1 hx _ => ?_)) fun a H1 ha e1 h1 => ?_
      · match i, hx with
        | 0, hx =>
          obtain rfl := Option.some.inj hx
          exact ev_rdW (ev_var rfl) g.red.1 g.hi
        | 1, hx =>
          obtain rfl := Option.some.inj hx
          exact ev_rdW (ev_var rfl) g.red.2.1 g.lo
        | i + 2, hx => simp at hx
      · have hL : SqL K H1 a [.int (p.1 : Int), .int (p.2 : Int)] := sq_of h1
        have h2 : 1 < p.2 := by
          have := g.red.2.1
          omega
        refine q_skip (et_orF (et_is (et_test (ev_op ev_c (ev_var rfl) (rv_isL hL rfl rfl))) rfl) (et_is (et_test (ev_op (ev_len (ev_var rfl) hL) ev_c (rv_I0 (g := fun i j => .bl (decide (j < i)))))) (decide_eq_false (by show ¬ ((2 : Int) < 2); decide)))) fun H2 e2 => ?_
        refine q_skip (et_is (et_test (ev_op (ev_len (ev_var rfl) (ex_l e2 hL)) ev_c (rv_eq rfl))) (by show decide (V.int 2 = V.int 1) = false; decide)) fun H3 e3 => ?_
        have hL3 := ex_l (e2.trans e3) hL
        refine q_asgX (R := IsF K p) (evf_tup (ev_op (ev_var rfl) ev_c (rv_ixL hL3 rfl)) (ev_op (ev_var rfl) ev_c (rv_ixL hL3 rfl))) fun v H4 e4 hv => ?_
        refine s_retX (R := IsF K p) (evx_if (b := true) (et_andT (et_B (ev_cr (efs_cons (evf_var rfl hv) efs_nil) fun vs H5 e5 hvs Q2 k => ?_)) (et_is (et_test (ev_op (ev_snd (evf_var rfl hv)) ev_c (rv_I0 (g := fun i j => .bl (decide (j < i)))))) (decide_eq_true (by omega)))) (fun _ => evf_var rfl hv) (fun z => nomatch z)) fun u H5 e5 hu => q u H5 ((((e1.trans e2).trans e3).trans e4).trans e5) hu
        cases hvs with
        | cons a b =>
          cases b
          exact ⟨_, p, rfl, a, g.red, k⟩
theorem scPrs : FnScope ["text", "found"] ["text"] (defScope sPrs) := ⟨rfl, rfl, rfl, by decide +kernel, rfl, by decide +kernel, by decide +kernel⟩
theorem ok_prs (T : Txt K mg) : CalR P w K mg base 4 "parse_fraction" (spRdF K) := by
  refine calR_of T.prs scPrs (fun vs H Q E h => ?_) (fun _ _ _ _ _ _ us hl => match us, hl with | [_], _ => rfl) (fun f cdv A outer s H vs Q E hr h => ?_)
  · obtain ⟨q, rfl, _⟩ := h
    rfl
  · obtain ⟨p, rfl, g, q⟩ := h
    refine ⟨_, pss_cons (ps_set (i := 1) scPrs.nd rfl (.inl rfl) (pe_ifExp (pt_val (pe_callB call_isi (by rfl) T.isinstance (by decide +kernel) (pa_cons (pv 0) (pa_cons (pe_bltn (by rfl) T.str (by decide +kernel) (v := .ty "str") rfl) pa_nil)))) (pe_cr (ok_rdF T) hr (by decide) (by rfl) (pa_cons (pv 0) pa_nil)) pe_non))
      (pss_cons (ps_if (pt_cmpR op_isN (pv 1) pe_non (nomark _)) (pss_one ps_never) pss_nil) (pss_one (ps_ret (pv 1)))), ?_⟩
    refine q_asgX (R := IsF K p) (evx_if (b := true) (et_B (ev_cb (ea2 (ev_var rfl) ev_c) (rc_isi (fun _ _ => .base (.str _)) (by decide +kernel)))) (fun _ => evx_crV (ea1 (ev_var rfl)) fun H1 e1 Q1 k => ⟨p, rfl, g, k⟩) (fun z => nomatch z)) fun v H1 e1 hv => ?_
    obtain ⟨a, rfl, hx⟩ := id hv
    refine q_skip (fun H2 e2 Q2 k => ⟨.ref a, rfl, rfl, false, rfl, k H2 (Ex.refl H2)⟩) fun H2 e2 => ?_
    exact s_retX (R := IsF K p) (evf_var rfl (hv.ex e2)) fun u H3 e3 hu => q u H3 ((e1.trans e2).trans e3) hu
end
end Sz

/-! part 9 -/
namespace Sz
open PySem PySem.Spec PyProof.Rows L2 Evl Fx
section
variable {P : Program} {w : World} {K : PySem.W.Frag} {mg : Str → Option Value} {base : Heap}
/-! ### _law_less -/
def spLess (K : PySem.W.Frag) : Sp := fun vs H Q _ => ∃ p q, AllF K H vs [p, q] ∧ G 3500 p ∧ G 3500 q ∧ ∀ H', Ex H H' → Q (.bl (less p q)) H'
theorem scLess : FnScope ["_law_lead", "_law_more"] ["_law_lead", "_law_more"] (defScope sLess) := ⟨rfl, rfl, rfl, by decide +kernel, rfl, by decide +kernel, by decide +kernel⟩
theorem all2 {H : Hp} {vs : List V} {p q : F} (h : AllF K H vs [p, q]) : ∃ v w, vs = [v, w] ∧ IsF K p v H ∧ IsF K q w H := by
  cases h with
  | cons a b =>
    cases b with
    | cons b c =>
      cases c
      exact ⟨_, _, rfl, a, b⟩
theorem all1 {H : Hp} {vs : List V} {p : F} (h : AllF K H vs [p]) : ∃ v, vs = [v] ∧ IsF K p v H := by
  cases h with
  | cons a b =>
    cases b
    exact ⟨_, rfl, a⟩
theorem ok_less (T : Txt K mg) : CalR P w K mg base 1 "_law_less" (spLess K) := by
  refine calR_of T.less scLess (fun vs H Q E h => ?_) (fun _ _ _ _ _ _ us hl => match us, hl with | [_, _], _ => rfl) (fun f cdv A outer s H vs Q E hr h => ?_)
  · obtain ⟨p, q, h, _⟩ := h
    obtain ⟨_, _, rfl, _⟩ := all2 h
    rfl
  · obtain ⟨p, r, h, gp, gq, q⟩ := h
    obtain ⟨v, w, rfl, hp, hq⟩ := all2 h
    refine ⟨_, pss_one (ps_ret (pe_cmpR op_lt (pe_op op_mulW (pe_ix ix_tup (pv 0) pe_int (fun _ _ => rfl)) (pe_ix ix_tup (pv 1) pe_int (fun _ _ => rfl))) (pe_op op_mulW (pe_ix ix_tup (pv 1) pe_int (fun _ _ => rfl)) (pe_ix ix_tup (pv 0) pe_int (fun _ _ => rfl))) (nomark _))), ?_⟩
    refine s_ret (v := .bl (less p r)) (ev_is (ev_op (ev_op (ev_fst (evf_var rfl hp)) (ev_snd (evf_var rfl hq)) (rv_mul (mul_ok gp.hi gq.lo (by decide) (by decide)))) (ev_op (ev_fst (evf_var rfl hq)) (ev_snd (evf_var rfl hp)) (rv_mul (mul_ok gq.hi gp.lo (by decide) (by decide)))) (rv_I0 (g := fun i j => .bl (decide (i < j))))) ?_) fun H1 e1 => q H1 e1
    exact congrArg V.bl (decide_eq_decide.mpr Int.ofNat_lt)
/-! ### products by their number of factors -/
section
variable {σ : L2.St} {H : Hp} {ta tb tc : TE} {p q r : F} {n : Nat}
theorem evf_p1 (h : EvF K ta σ H p) (g : G n p) (hn : n ≤ 1500) : EvF K (tCr (spProd K) (tCons ta tNil)) σ H p := by
  have z := evf_prod (n := n) (efs_cons h efs_nil) (fun x hx => by rw [List.mem_singleton.mp hx]; exact g) (by omega) (by show n * 1 ≤ 3000; omega) (by show 1 ≤ 100; decide)
  rw [prod1 g.red] at z
  exact z
theorem evf_p2 (h1 : EvF K ta σ H p) (h2 : EvF K tb σ H q) (g1 : G n p) (g2 : G n q) (hn : n ≤ 1500) : EvF K (tCr (spProd K) (tCons ta (tCons tb tNil))) σ H (tm p q) := by
  have z := evf_prod (n := n) (efs_cons h1 (efs_cons h2 efs_nil)) (fun x hx => by
    rcases List.mem_cons.mp hx with e | hx
    · rw [e]; exact g1
    · rw [List.mem_singleton.mp hx]; exact g2) (by omega) (by show n * 2 ≤ 3000; omega) (by show 2 ≤ 100; decide)
  rw [prod2 g1.red] at z
  exact z
theorem evf_p3 (h1 : EvF K ta σ H p) (h2 : EvF K tb σ H q) (h3 : EvF K tc σ H r) (g1 : G n p) (g2 : G n q) (g3 : G n r) (hn : n ≤ 1000) : EvF K (tCr (spProd K) (tCons ta (tCons tb (tCons tc tNil)))) σ H (tm (tm p q) r) := by
  have z := evf_prod (n := n) (efs_cons h1 (efs_cons h2 (efs_cons h3 efs_nil))) (fun x hx => by
    rcases List.mem_cons.mp hx with e | hx
    · rw [e]; exact g1
    · rcases List.mem_cons.mp hx with e | hx
      · rw [e]; exact g2
      · rw [List.mem_singleton.mp hx]; exact g3) (by omega) (by show n * 3 ≤ 3000; omega) (by show 3 ≤ 100; decide)
  rw [prod3 g1.red] at z
  exact z
end
theorem gUp {n : Nat} {p : F} (g : G n p) (h : n ≤ 3500) : G 3500 p := g.mono h
/-! ### _law_two_right -/
def spTwo (K : PySem.W.Frag) : Sp := fun vs H Q _ => ∃ p q, AllF K H vs [p, q] ∧ G 67 p ∧ G 67 q ∧ ∀ H', Ex H H' → Q (.bl true) H'
theorem scTwo : FnScope ["_law_lead", "_law_more", "_law_both", "_law_over", "_law_sign"] ["_law_lead", "_law_more"] (defScope sTwo) := ⟨rfl, rfl, rfl, by decide +kernel, rfl, by decide +kernel, by decide +kernel⟩
theorem ok_two (T : Txt K mg) : CalR P w K mg base 5 "_law_two_right" (spTwo K) := by
  refine calR_of T.two scTwo (fun vs H Q E h => ?_) (fun _ _ _ _ _ _ us hl => match us, hl with | [_, _], _ => rfl) (fun f cdv A outer s H vs Q E hr h => ?_)
  · obtain ⟨p, q, h, _⟩ := h
    obtain ⟨_, _, rfl, _⟩ := all2 h
    rfl
  · obtain ⟨l, m, h, gl, gm, q⟩ := h
    obtain ⟨vl, vm, rfl, hl, hm⟩ := all2 h
    have cP : CalR P w K mg base 4 "product" (spProd K) := ok_prod T
    have cQ : CalR P w K mg base 4 "quotient" (spF2 K ov) := ok_quot T
    have cC : CalR P w K mg base 4 "compare" (spI2 K) := ok_cmp T
    have cL : CalR P w K mg base 1 "_law_less" (spLess K) := ok_less T
    refine ⟨_, pss_cons (ps_par (i := 2) (j := 3) (by rfl) scTwo.nd rfl rfl (by decide) rfl rfl (pa_cons (pe_cr cP hr (by decide) (by rfl) (pa_cons (pv 0) (pa_cons (pv 1) pa_nil))) (pa_cons (pe_cr cQ hr (by decide) (by rfl) (pa_cons (pv 0) (pa_cons (pv 1) pa_nil))) pa_nil)) (by rfl))
      (pss_cons (ps_if (PW.pt (pw_or (pt_cmpR (op_neD hr.units) (pe_cr cQ hr (by decide) (by rfl) (pa_cons (pv 2) (pa_cons (pv 1) pa_nil))) (pv 0) (nomark _))
        (pw_or (pt_cmpR (op_neD hr.units) (pe_cr cP hr (by decide) (by rfl) (pa_cons (pv 3) (pa_cons (pv 1) pa_nil))) (pv 0) (nomark _))
        (pw_or1 (pt_cmpR (op_neD hr.units) (pe_cr cP hr (by decide) (by rfl) (pa_cons (pv 1) (pa_cons (pv 0) pa_nil))) (pv 2) (nomark _)))))) (pss_one (ps_ret pe_bl)) pss_nil)
      (pss_cons (ps_if (PW.pt (pw_or (pt_cmpR (op_neD hr.units) (pe_cr cQ hr (by decide) (by rfl) (pa_cons (pv 0) (pa_cons (pv 0) pa_nil))) (pe_tup (pa_cons pe_int (pa_cons pe_int pa_nil))) (nomark _))
        (pw_or1 (pt_cmpR (op_neD hr.units) (pe_cr cP hr (by decide) (by rfl) (pa_cons (pv 3) (pa_cons (pe_cr cQ hr (by decide) (by rfl) (pa_cons (pv 1) (pa_cons (pv 0) pa_nil))) pa_nil))) (pe_tup (pa_cons pe_int (pa_cons pe_int pa_nil))) (nomark _))))) (pss_one (ps_ret pe_bl)) pss_nil)
      (pss_cons (ps_if (PW.pt (pw_or (pt_cmpR (op_neD hr.units) (pe_cr cQ hr (by decide) (by rfl) (pa_cons (pe_tup (pa_cons pe_int (pa_cons pe_int pa_nil))) (pa_cons (pv 3) pa_nil))) (pe_cr cQ hr (by decide) (by rfl) (pa_cons (pv 1) (pa_cons (pv 0) pa_nil))) (nomark _))
        (pw_or (pt_cmpR (op_neD hr.units) (pe_cr cP hr (by decide) (by rfl) (pa_cons (pv 0) pa_nil)) (pv 0) (nomark _))
        (pw_or1 (pt_cmpR (op_neD hr.units) (pe_cr cQ hr (by decide) (by rfl) (pa_cons (pv 0) (pa_cons (pe_tup (pa_cons pe_int (pa_cons pe_int pa_nil))) pa_nil))) (pv 0) (nomark _)))))) (pss_one (ps_ret pe_bl)) pss_nil)
      (pss_cons (ps_set (i := 4) scTwo.nd rfl (.inl rfl) (pe_cr cC hr (by decide) (by rfl) (pa_cons (pv 0) (pa_cons (pv 1) pa_nil))))
      (pss_cons (ps_if (PW.pt (pw_or (pt_cmpR op_ne (pv 4) (pe_op op_sub pe_int (pe_cr cC hr (by decide) (by rfl) (pa_cons (pv 1) (pa_cons (pv 0) pa_nil)))) (nomark _))
        (pw_or (pt_cmpR op_ne (pe_cmpR op_eq (pv 4) pe_int (nomark _)) (pe_cmpR (op_eqD hr.units) (pv 0) (pv 1) (nomark _)) (nomark _))
        (pw_or1 (pt_cmpR op_ne (pv 4) (pe_cr cC hr (by decide) (by rfl) (pa_cons (pv 3) (pa_cons (pe_tup (pa_cons pe_int (pa_cons pe_int pa_nil))) pa_nil))) (nomark _)))))) (pss_one (ps_ret pe_bl)) pss_nil)
      (pss_one (ps_ret (pe_cmpR op_eq (pe_cmpR op_lt (pv 4) pe_int (nomark _)) (pe_cr cL hr (by decide) (by rfl) (pa_cons (pv 0) (pa_cons (pv 1) pa_nil))) (nomark _)))))))))
      , ?_⟩
    have gl' := gUp gl (by decide)
    have gm' := gUp gm (by decide)
    have gB := G.tm gl gm
    have gO := G.ov gl gm
    have gB' := gUp gB (by decide)
    have gO' := gUp gO (by decide)
    have g1 : G 3500 one := gUp G.one (by decide)
    have gml := G.ov gm gl
    refine q_parF (efs_cons (evf_p2 (evf_var rfl hl) (evf_var rfl hm) gl gm (by decide)) (efs_cons (evf_2 (evf_var rfl hl) (evf_var rfl hm) gl' gm') efs_nil)) fun vB vO H1 e1 hB hO => ?_
    have hl1 := hl.ex e1
    have hm1 := hm.ex e1
    refine q_skip (et_orF (et_test (ev_neF0 (evf_2 (evf_var rfl hB) (evf_var rfl hm1) gB' gm') (evf_var rfl hl1) (two_a gl.red gm.red)))
      (et_orF (et_test (ev_neF0 (evf_p2 (evf_var rfl hO) (evf_var rfl hm1) gO (gm.mono (by decide)) (by decide)) (evf_var rfl hl1) (two_b gl.red gm.red)))
      (et_test (ev_neF0 (evf_p2 (evf_var rfl hm1) (evf_var rfl hl1) gm gl (by decide)) (evf_var rfl hB) (two_c gl.red gm.red))))) fun H2 e2 => ?_
    have hl2 := hl1.ex e2
    have hm2 := hm1.ex e2
    have hB2 := hB.ex e2
    have hO2 := hO.ex e2
    refine q_skip (et_orF (et_test (ev_neF0 (evf_2 (evf_var rfl hl2) (evf_var rfl hl2) gl' gl') evf_one (one_d gl.red)))
      (et_test (ev_neF0 (evf_p2 (evf_var rfl hO2) (evf_2 (evf_var rfl hm2) (evf_var rfl hl2) gm' gl') gO gml (by decide)) evf_one (two_e gl.red gm.red)))) fun H3 e3 => ?_
    have hl3 := hl2.ex e3
    have hm3 := hm2.ex e3
    have hO3 := hO2.ex e3
    refine q_skip (et_orF (et_test (ev_neF0 (evf_2 evf_one (evf_var rfl hO3) g1 gO') (evf_2 (evf_var rfl hm3) (evf_var rfl hl3) gm' gl') (two_f gl.red gm.red)))
      (et_orF (et_test (ev_neF0 (evf_p1 (evf_var rfl hl3) gl (by decide)) (evf_var rfl hl3) rfl))
      (et_test (ev_neF0 (evf_2 (evf_var rfl hl3) evf_one gl' g1) (evf_var rfl hl3) (one_g gl.red))))) fun H4 e4 => ?_
    have hl4 := hl3.ex e4
    have hm4 := hm3.ex e4
    have hO4 := hO3.ex e4
    refine q_asg (v := .int (ord l m)) (evi_2 (evf_var rfl hl4) (evf_var rfl hm4) gl' gm') fun H5 e5 => ?_
    have hl5 := hl4.ex e5
    have hm5 := hm4.ex e5
    have hO5 := hO4.ex e5
    refine q_skip (et_orF (et_is (et_test (ev_op (ev_var rfl) (ev_op ev_c (evi_2 (evf_var rfl hm5) (evf_var rfl hl5) gm' gl') (rv_I0 (g := fun i j => .int (i - j)))) (rv_ne rfl))) ?_)
      (et_orF (et_is (et_test (ev_op (ev_op (ev_var rfl) ev_c (rv_eq rfl)) (ev_eqF (evf_var rfl hl5) (evf_var rfl hm5)) (rv_ne rfl))) ?_)
      (et_is (et_test (ev_op (ev_var rfl) (evi_2 (evf_var rfl hO5) evf_one gO' g1) (rv_ne rfl))) ?_))) fun H6 e6 => ?_
    · rw [← two_h gl.red gm.red, decide_eq_true rfl]
      rfl
    · have e : decide (V.int (ord l m) = V.int 0) = decide (l = m) := decide_eq_decide.mpr ⟨fun z => (two_i gl.red gm.red).mp (by injection z), fun z => congrArg V.int ((two_i gl.red gm.red).mpr z)⟩
      rw [e, decide_eq_true rfl]
      rfl
    · rw [← two_j gl.red gm.red, decide_eq_true rfl]
      rfl
    · have hl6 := hl5.ex e6
      have hm6 := hm5.ex e6
      refine s_ret (v := .bl true) (ev_is (ev_op (ev_op (ev_var rfl) ev_c (rv_I0 (g := fun i j => .bl (decide (i < j))))) (ev_cr (z := .bl (less l m)) (efs_cons (evf_var rfl hl6) (efs_cons (evf_var rfl hm6) efs_nil)) fun vs H7 e7 hvs Q2 k => ⟨l, m, hvs, gl', gm', k⟩) (rv_eq rfl)) ?_) fun H7 e7 => q H7 ((((((e1.trans e2).trans e3).trans e4).trans e5).trans e6).trans e7)
      rw [less_cmp, decide_eq_true rfl]
/-! ### _law_kept_right -/
def spKept (K : PySem.W.Frag) : Sp := fun vs H Q _ => ∃ q, AllF K H vs [q] ∧ G 1900 q ∧ ∀ H', Ex H H' → Q (.bl true) H'
theorem scKept : FnScope ["_law_found"] ["_law_found"] (defScope sKept) := ⟨rfl, rfl, rfl, by decide +kernel, rfl, by decide +kernel, by decide +kernel⟩
theorem ok_kept (T : Txt K mg) : CalR P w K mg base 5 "_law_kept_right" (spKept K) := by
  refine calR_of T.kept scKept (fun vs H Q E h => ?_) (fun _ _ _ _ _ _ us hl => match us, hl with | [_], _ => rfl) (fun f cdv A outer s H vs Q E hr h => ?_)
  · obtain ⟨p, h, _⟩ := h
    obtain ⟨_, rfl, _⟩ := all1 h
    rfl
  · obtain ⟨p, h, g, q⟩ := h
    obtain ⟨v, rfl, hp⟩ := all1 h
    have cI : CalR P w K mg base 2 "is_fraction" (spIsF K) := ok_isF T
    have cPr : CalR P w K mg base 4 "parse_fraction" (spRdF K) := ok_prs T
    have cFm : CalR P w K mg base 4 "format_fraction" (spShown K) := ok_fmt T
    have cFr : CalR P w K mg base 3 "fraction" (spLowest K) := ok_frac T
    have cC : CalR P w K mg base 4 "compare" (spI2 K) := ok_cmp T
    refine ⟨_, pss_cons (ps_if (PW.pt (pw_or (pt_not (pt_val (pe_cr cI hr (by decide) (by rfl) (pa_cons (pv 0) pa_nil))))
        (pw_or1 (pt_cmpR (op_neD hr.units) (pe_cr cPr hr (by decide) (by rfl) (pa_cons (pe_cr cFm hr (by decide) (by rfl) (pa_cons (pv 0) pa_nil)) pa_nil)) (pv 0) (nomark _))))) (pss_one (ps_ret pe_bl)) pss_nil)
      (pss_one (ps_ret (pe_and (pe_cmpR (op_eqD hr.units) (pe_cr cFr hr (by decide) (by rfl) (pa_cons (pe_ix ix_tup (pv 0) pe_int (fun _ _ => rfl)) (pa_cons (pe_ix ix_tup (pv 0) pe_int (fun _ _ => rfl)) pa_nil))) (pv 0) (nomark _))
        (pe_one (pe_cmpR op_eq (pe_cr cC hr (by decide) (by rfl) (pa_cons (pv 0) (pa_cons (pv 0) pa_nil))) pe_int (nomark _)))))), ?_⟩
    have g' := gUp g (by decide)
    refine q_skip (et_orF (et_not (a := true) (et_B (ev_cr (efs_cons (evf_var rfl hp) efs_nil) fun vs H1 e1 hvs Q2 k => ?_))) (et_test (ev_neF0 (p := p) (evx_crV (ea1 (ev_cr (z := .str (strL (shownL p))) (efs_cons (evf_var rfl hp) efs_nil) fun vs H1 e1 hvs Q2 k => ?_)) fun H1 e1 Q2 k => ⟨p, rfl, g, k⟩) (evf_var rfl hp) rfl))) fun H1 e1 => ?_
    · obtain ⟨u, rfl, hu⟩ := all1 hvs
      exact ⟨u, p, rfl, hu, g.red, k⟩
    · obtain ⟨u, rfl, hu⟩ := all1 hvs
      exact ⟨u, p, rfl, hu, g, k⟩
    · have hp1 := hp.ex e1
      refine s_ret (v := .bl (true && true)) (ev_andV (ev_eqF1 (p := low p.1 p.2) (evx_crV (ea2 (ev_fst (evf_var rfl hp1)) (ev_snd (evf_var rfl hp1))) fun H2 e2 Q2 k => ⟨p.1, p.2, rfl, g.red.1, g.red.2.1, pow_le g.hi (by decide), k⟩) (evf_var rfl hp1) (low_red g.red))
        fun _ => ev_is (ev_op (evi_2 (evf_var rfl hp1) (evf_var rfl hp1) g' g') ev_c (rv_eq rfl)) ?_) fun H2 e2 => q H2 (e1.trans e2)
      rw [ord_self]
      rfl
end
end Sz

/-! part 10 -/
namespace Sz
open PySem PySem.Spec PyProof.Rows L2 Evl Fx
theorem prod5 {a b c d e : F} (ha : Red a) : prod [a, b, c, d, e] = tm (tm (tm (tm a b) c) d) e := by
  show tm (tm (tm (tm (tm one a) b) c) d) e = _
  rw [tm_one ha]
section
variable {P : Program} {w : World} {K : PySem.W.Frag} {mg : Str → Option Value} {base : Heap}
theorem all3 {H : Hp} {vs : List V} {p q r : F} (h : AllF K H vs [p, q, r]) : ∃ v w x, vs = [v, w, x] ∧ IsF K p v H ∧ IsF K q w H ∧ IsF K r x H := by
  cases h with
  | cons a b =>
    obtain ⟨_, _, rfl, h2, h3⟩ := all2 b
    exact ⟨_, _, _, rfl, a, h2, h3⟩
/-- rows = [a, b, ..], fractions -/
theorem q_asgRows {i : Nat} {ta : TA} {σ : L2.St} {H : Hp} {D : Ends} {tz : TS} {ps : List F} (h : EvFs K ta σ H ps) (hz : ps.length ≤ 1000) (k : ∀ p vs H1, Ex H H1 → H1 p = some (.lst vs) → AllF K H1 vs ps → tz D (σ.set i (some (.ref p))) H1) :
    tSeq (tAsg (tLst ta) (gName i)) tz D σ H := h H (Ex.refl H) _ fun vs H1 e1 hvs => ⟨sz_of (by rw [hvs.len]; omega), fun p hp => k p vs _ (e1.trans (Ex.new hp)) upd_same (hvs.ex (Ex.new hp))⟩
def spThree (K : PySem.W.Frag) : Sp := fun vs H Q _ => ∃ p q r, AllF K H vs [p, q, r] ∧ G 67 p ∧ G 67 q ∧ G 67 r ∧ ∀ H', Ex H H' → Q (.bl true) H'
theorem scThree : FnScope ["_law_lead", "_law_more", "_law_last", "_law_whole", "_law_sign", "_law_grand", "_law_rows", "_law_found"] ["_law_lead", "_law_more", "_law_last"] (defScope sThree) := ⟨rfl, rfl, rfl, by decide +kernel, rfl, by decide +kernel, by decide +kernel⟩
theorem ok_three (T : Txt K mg) : CalR P w K mg base 6 "_law_three_right" (spThree K) := by
  refine calR_of T.three scThree (fun vs H Q E h => ?_) (fun _ _ _ _ _ _ us hl => match us, hl with | [_, _, _], _ => rfl) (fun f cdv A outer s H vs Q E hr h => ?_)
  · obtain ⟨p, q, r, h, _⟩ := h
    obtain ⟨_, _, _, rfl, _⟩ := all3 h
    rfl
  · obtain ⟨l, m, z, h, gl, gm, gz, q⟩ := h
    obtain ⟨vl, vm, vz, rfl, hl, hm, hz⟩ := all3 h
    have cP : CalR P w K mg base 4 "product" (spProd K) := ok_prod T
    have cQ : CalR P w K mg base 4 "quotient" (spF2 K ov) := ok_quot T
    have cC : CalR P w K mg base 4 "compare" (spI2 K) := ok_cmp T
    have cK : CalR P w K mg base 5 "_law_kept_right" (spKept K) := ok_kept T
    refine ⟨_, pss_cons (ps_set (i := 3) scThree.nd rfl (.inl rfl) (pe_cr cP hr (by decide) (by rfl) (pa_cons (pv 0) (pa_cons (pv 1) (pa_cons (pv 2) pa_nil)))))
      (pss_cons (ps_if (PW.pt (pw_or (pt_cmpR (op_neD hr.units) (pv 3) (pe_cr cP hr (by decide) (by rfl) (pa_cons (pv 0) (pa_cons (pe_cr cP hr (by decide) (by rfl) (pa_cons (pv 1) (pa_cons (pv 2) pa_nil))) pa_nil))) (nomark _))
        (pw_or1 (pt_cmpR (op_neD hr.units) (pv 3) (pe_cr cP hr (by decide) (by rfl) (pa_cons (pe_cr cP hr (by decide) (by rfl) (pa_cons (pv 2) (pa_cons (pv 0) pa_nil))) (pa_cons (pv 1) pa_nil))) (nomark _))))) (pss_one (ps_ret pe_bl)) pss_nil)
      (pss_cons (ps_if (pt_cmpR (op_neD hr.units) (pe_cr cQ hr (by decide) (by rfl) (pa_cons (pe_cr cQ hr (by decide) (by rfl) (pa_cons (pv 0) (pa_cons (pv 1) pa_nil))) (pa_cons (pv 2) pa_nil))) (pe_cr cQ hr (by decide) (by rfl) (pa_cons (pv 0) (pa_cons (pe_cr cP hr (by decide) (by rfl) (pa_cons (pv 1) (pa_cons (pv 2) pa_nil))) pa_nil))) (nomark _)) (pss_one (ps_ret pe_bl)) pss_nil)
      (pss_cons (ps_set (i := 4) scThree.nd rfl (.inl rfl) (pe_cr cC hr (by decide) (by rfl) (pa_cons (pv 0) (pa_cons (pv 1) pa_nil))))
      (pss_cons (ps_if (pt_cmpR op_ne (pe_cr cC hr (by decide) (by rfl) (pa_cons (pe_cr cP hr (by decide) (by rfl) (pa_cons (pv 0) (pa_cons (pv 2) pa_nil))) (pa_cons (pe_cr cP hr (by decide) (by rfl) (pa_cons (pv 1) (pa_cons (pv 2) pa_nil))) pa_nil))) (pv 4) (nomark _)) (pss_one (ps_ret pe_bl)) pss_nil)
      (pss_cons (ps_if (pt_cmpR op_ne (pe_cr cC hr (by decide) (by rfl) (pa_cons (pe_cr cQ hr (by decide) (by rfl) (pa_cons (pv 2) (pa_cons (pv 0) pa_nil))) (pa_cons (pe_cr cQ hr (by decide) (by rfl) (pa_cons (pv 2) (pa_cons (pv 1) pa_nil))) pa_nil))) (pe_op op_sub pe_int (pv 4)) (nomark _)) (pss_one (ps_ret pe_bl)) pss_nil)
      (pss_cons (ps_if (PW.pt (pw_and (pt_cmpR op_lt (pv 4) pe_int (nomark _)) (pw_and (pt_cmpR op_lt (pe_cr cC hr (by decide) (by rfl) (pa_cons (pv 1) (pa_cons (pv 2) pa_nil))) pe_int (nomark _)) (pw_and1 (pt_cmpR op_gt (pe_cr cC hr (by decide) (by rfl) (pa_cons (pv 0) (pa_cons (pv 2) pa_nil))) pe_int (nomark _)))))) (pss_one (ps_ret pe_bl)) pss_nil)
      (pss_cons (ps_set (i := 5) scThree.nd rfl (.inl rfl) (pe_cr cP hr (by decide) (by rfl) (pa_cons (pv 3) (pa_cons (pv 3) (pa_cons (pv 3) (pa_cons (pe_cr cQ hr (by decide) (by rfl) (pa_cons (pv 3) (pa_cons (pv 2) pa_nil))) (pa_cons (pv 0) pa_nil)))))))
      (pss_cons (ps_set (i := 6) scThree.nd rfl (.inl rfl) (pe_lst (pa_cons (pv 3) (pa_cons (pv 5) (pa_cons (pe_cr cQ hr (by decide) (by rfl) (pa_cons (pv 5) (pa_cons (pv 3) pa_nil))) (pa_cons (pe_cr cQ hr (by decide) (by rfl) (pa_cons (pv 0) (pa_cons (pv 1) pa_nil))) (pa_cons (pe_cr cP hr (by decide) (by rfl) (pa_cons (pv 5) (pa_cons (pv 5) pa_nil))) pa_nil)))))))
      (pss_one (ps_ret (pe_and (pe_callB (cr_all rfl) (by rfl) T.all (by decide +kernel) (pa_cons (pe_lc (own := [("_law_found", 7)]) (g := gName 7) (tt := tYes) rfl scThree.nd (pi_list (pv 6)) (blkOk_by (N := ["_law_lead", "_law_more", "_law_last", "_law_whole", "_law_sign", "_law_grand", "_law_rows", "_law_found"]) (sc := defScope sThree) (by decide +kernel))
          (fun _ _ _ _ _ => pg_name (i := 7) scThree.nd rfl (Or.inl rfl)) (fun _ _ _ _ _ => pts_nil) (fun _ _ _ _ _ => pe_cr cK hr (by decide) (by rfl) (pa_cons (pv 7) pa_nil))) pa_nil))
        (pe_one (pe_cmpR (op_eqD hr.units) (pe_cr cQ hr (by decide) (by rfl) (pa_cons (pe_cr cP hr (by decide) (by rfl) (pa_cons (pv 5) (pa_cons (pv 5) pa_nil))) (pa_cons (pv 5) pa_nil))) (pv 5) (nomark _))))))))))))))
      , ?_⟩
    have gl' := gUp gl (by decide)
    have gm' := gUp gm (by decide)
    have gz' := gUp gz (by decide)
    have glm := G.tm gl gm
    have gmz := G.tm gm gz
    have gzl := G.tm gz gl
    have gW := G.tm glm gz
    have gW' := gUp gW (by decide)
    have gWz := G.ov gW gz
    -- whole
    refine q_asgX (evf_p3 (evf_var rfl hl) (evf_var rfl hm) (evf_var rfl hz) gl gm gz (by decide)) fun vW H1 e1 hW => ?_
    have hl1 := hl.ex e1
    have hm1 := hm.ex e1
    have hz1 := hz.ex e1
    refine q_skip (et_orF (et_test (ev_neF0 (evf_var rfl hW) (evf_p2 (evf_var rfl hl1) (evf_p2 (evf_var rfl hm1) (evf_var rfl hz1) gm gz (by decide)) (gl.mono (by decide)) gmz (by decide)) (three_a gl.red gm.red gz.red)))
      (et_test (ev_neF0 (evf_var rfl hW) (evf_p2 (evf_p2 (evf_var rfl hz1) (evf_var rfl hl1) gz gl (by decide)) (evf_var rfl hm1) gzl (gm.mono (by decide)) (by decide)) (three_b gl.red gm.red gz.red)))) fun H2 e2 => ?_
    have hl2 := hl1.ex e2
    have hm2 := hm1.ex e2
    have hz2 := hz1.ex e2
    have hW2 := hW.ex e2
    refine q_skip (et_test (ev_neF0 (evf_2 (evf_2 (evf_var rfl hl2) (evf_var rfl hm2) gl' gm') (evf_var rfl hz2) (gUp (G.ov gl gm) (by decide)) gz') (evf_2 (evf_var rfl hl2) (evf_p2 (evf_var rfl hm2) (evf_var rfl hz2) gm gz (by decide)) gl' (gUp gmz (by decide))) (three_c gl.red gm.red gz.red))) fun H3 e3 => ?_
    have hl3 := hl2.ex e3
    have hm3 := hm2.ex e3
    have hz3 := hz2.ex e3
    have hW3 := hW2.ex e3
    refine q_asg (v := .int (ord l m)) (evi_2 (evf_var rfl hl3) (evf_var rfl hm3) gl' gm') fun H4 e4 => ?_
    have hl4 := hl3.ex e4
    have hm4 := hm3.ex e4
    have hz4 := hz3.ex e4
    have hW4 := hW3.ex e4
    refine q_skip (et_is (et_test (ev_op (evi_2 (evf_p2 (evf_var rfl hl4) (evf_var rfl hz4) gl gz (by decide)) (evf_p2 (evf_var rfl hm4) (evf_var rfl hz4) gm gz (by decide)) (gUp (G.tm gl gz) (by decide)) (gUp gmz (by decide))) (ev_var rfl) (rv_ne rfl))) ?_) fun H5 e5 => ?_
    · rw [three_d gl.red gm.red gz.red, decide_eq_true rfl]
      rfl
    have hl5 := hl4.ex e5
    have hm5 := hm4.ex e5
    have hz5 := hz4.ex e5
    have hW5 := hW4.ex e5
    refine q_skip (et_is (et_test (ev_op (evi_2 (evf_2 (evf_var rfl hz5) (evf_var rfl hl5) gz' gl') (evf_2 (evf_var rfl hz5) (evf_var rfl hm5) gz' gm') (gUp (G.ov gz gl) (by decide)) (gUp (G.ov gz gm) (by decide))) (ev_op ev_c (ev_var rfl) (rv_I0 (g := fun i j => .int (i - j)))) (rv_ne rfl))) ?_) fun H6 e6 => ?_
    · rw [three_e gl.red gm.red gz.red, decide_eq_true rfl]
      rfl
    have hl6 := hl5.ex e6
    have hm6 := hm5.ex e6
    have hz6 := hz5.ex e6
    have hW6 := hW5.ex e6
    refine q_skip (et_is (et_and (et_test (ev_op (ev_var rfl) ev_c (rv_I0 (g := fun i j => .bl (decide (i < j)))))) fun _ => et_and (et_test (ev_op (evi_2 (evf_var rfl hm6) (evf_var rfl hz6) gm' gz') ev_c (rv_I0 (g := fun i j => .bl (decide (i < j)))))) fun _ =>
      et_test (ev_op (evi_2 (evf_var rfl hl6) (evf_var rfl hz6) gl' gz') ev_c (rv_I0 (g := fun i j => .bl (decide (j < i)))))) ?_) fun H7 e7 => ?_
    · have k := three_f gl.red gm.red gz.red
      by_cases a : ord l m < 1
      · by_cases b : ord m z < 1
        · have c : ¬ (0 < ord l z) := fun c => k ⟨a, b, c⟩
          rw [decide_eq_false c, Bool.and_false, Bool.and_false]
        · rw [decide_eq_false b, Bool.false_and, Bool.and_false]
      · rw [decide_eq_false a, Bool.false_and]
    have hl7 := hl6.ex e7
    have hm7 := hm6.ex e7
    have hz7 := hz6.ex e7
    have hW7 := hW6.ex e7
    -- grand
    generalize eW : tm (tm l m) z = W at *
    have gG := G.tm (G.tm (G.tm (G.tm gW gW) gW) gWz) gl
    have p5 : ∀ {ta tb tc td te : TE} {σ : L2.St} {H : Hp}, EvF K ta σ H W → EvF K tb σ H W → EvF K tc σ H W → EvF K td σ H (ov W z) → EvF K te σ H l → EvF K (tCr (spProd K) (tCons ta (tCons tb (tCons tc (tCons td (tCons te tNil)))))) σ H (tm (tm (tm (tm W W) W) (ov W z)) l) := fun h1 h2 h3 h4 h5 => by
      have x := evf_prod (n := 268) (efs_cons h1 (efs_cons h2 (efs_cons h3 (efs_cons h4 (efs_cons h5 efs_nil))))) (fun y hy => by
        simp only [List.mem_cons, List.not_mem_nil, or_false] at hy
        rcases hy with e | e | e | e | e
        · rw [e]; exact gW.mono (by decide)
        · rw [e]; exact gW.mono (by decide)
        · rw [e]; exact gW.mono (by decide)
        · rw [e]; exact gWz.mono (by decide)
        · rw [e]; exact gl.mono (by decide)) (by decide) (by show 268 * 5 ≤ 3000; decide) (by show 5 ≤ 100; decide)
      rw [prod5 gW.red] at x
      exact x
    refine q_asgX (p5 (evf_var rfl hW7) (evf_var rfl hW7) (evf_var rfl hW7) (evf_2 (evf_var rfl hW7) (evf_var rfl hz7) gW' gz') (evf_var rfl hl7)) fun vG H8 e8 hG => ?_
    generalize tm (tm (tm (tm W W) W) (ov W z)) l = N at *
    have gG : G 938 N := gG.mono (by decide)
    have gG' := gUp gG (by decide)
    have gGG := G.tm gG gG
    have hl8 := hl7.ex e8
    have hm8 := hm7.ex e8
    have hW8 := hW7.ex e8
    refine q_asgRows (ps := [W, N, ov N W, ov l m, tm N N]) (efs_cons (evf_var rfl hW8) (efs_cons (evf_var rfl hG) (efs_cons (evf_2 (evf_var rfl hG) (evf_var rfl hW8) gG' gW') (efs_cons (evf_2 (evf_var rfl hl8) (evf_var rfl hm8) gl' gm') (efs_cons (evf_p2 (evf_var rfl hG) (evf_var rfl hG) gG gG (by decide)) efs_nil))))) (by show 5 ≤ 1000; decide) fun a vs H9 e9 ha hall => ?_
    have hG9 := hG.ex e9
    have hsz : ∀ y ∈ [W, N, ov N W, ov l m, tm N N], G 1900 y := fun y hy => by
      simp only [List.mem_cons, List.not_mem_nil, or_false] at hy
      rcases hy with e | e | e | e | e
      · rw [e]; exact gW.mono (by decide)
      · rw [e]; exact gG.mono (by decide)
      · rw [e]; exact (G.ov gG gW).mono (by decide)
      · rw [e]; exact (G.ov gl gm).mono (by decide)
      · rw [e]; exact gGG.mono (by decide)
    refine s_ret (v := .bl (true && true)) (ev_andV (ev_is (ev_all (bs := (List.range vs.length).map fun _ => true) ?_) (congrArg V.bl (all_range fun _ _ => rfl)))
      fun _ => ev_eqF1 (evf_2 (evf_p2 (evf_var rfl hG9) (evf_var rfl hG9) gG gG (by decide)) (evf_var rfl hG9) (gUp gGG (by decide)) gG') (evf_var rfl hG9) (two_a gG.red gG.red)) fun H10 e10 => q H10 (((((((((e1.trans e2).trans e3).trans e4).trans e5).trans e6).trans e7).trans e8).trans e9).trans e10)
    rw [← given_bl]
    refine el_lcL (fun _ => true) (fun _ => .bl true) (ev_var rfl) (sq_of ha) (by rw [hall.len]; show 5 ≤ 40000; decide) (fun _ => rfl) (fun _ _ _ _ _ => et_yes) (fun i x H10 e10 hx _ => ?_)
    obtain ⟨y, hy1, hy2⟩ := hall.get hx
    exact ev_cr (efs_cons (evf_var rfl (hy2.ex e10)) efs_nil) fun vs H11 e11 hvs Q2 k => ⟨y, hvs, hsz y (List.mem_of_getElem? hy1), k⟩
end
end Sz

/-! part 11 -/
/-! ### t[::-1] of a pair -/
namespace SzT
open PySem PySem.Spec PyProof.Rows L2 HT
section
variable {prog : Program} {w : World} {A : Around} {E : Value → Shared → Prop} {s : Shared}
theorem sliceApplied_rev {sl : Addr} {vl vu vs : Value} {n : Nat} {Q : Int × Int × Nat → Shared → Prop} (hs : s.heap.IsSliceOf sl vl vu vs) (pl : IsPart vl none) (pu : IsPart vu none) (ps : IsPart vs (some (-1)))
    (h : Q ((n : Int) - 1, -1, Builtin.Slice.slicePlaces ((n : Int) - 1) (-1) (-1)) s) : wpAny (model prog w) A (Builtin.Slice.sliceApplied (.ref sl) (pure (n : Int))) Q E s := by
  obtain ⟨os, hos, hcs, hds⟩ := id hs
  unfold Builtin.Slice.sliceApplied Builtin.Slice.sliceFields
  refine wpAny_bind (wpAny_bind (wpAny_field hos hds (x := vl) rfl (wpAny_bind (wpAny_field hos hds (x := vu) rfl (wpAny_bind (wpAny_field hos hds (x := vs) rfl (wpAny_pure ?_)))))))
  refine wpAny_bind (slicePart_ ps ?_)
  show wpAny _ _ (if ((-1 : Int) == 0) = true then _ else _) _ _ s
  rw [if_neg (by decide)]
  refine wpAny_bind (slicePart_ pl (wpAny_bind (slicePart_ pu (wpAny_bind (wpAny_pure ?_)))))
  exact wpAny_pure h
theorem getItem_pair_rev {t sl : Addr} {items : Array Value} {u1 u2 : Value} {vl vu vs : Value} {Q : Value → Shared → Prop} (ht : IsTup s.heap t items) (he : items = [u1, u2].toArray) (hs : s.heap.IsSliceOf sl vl vu vs) (pl : IsPart vl none) (pu : IsPart vu none) (ps : IsPart vs (some (-1)))
    (h : Q (.ref s.heap.objs.size) { s with heap := s.heap.push { cls := .type "tuple", data := .seq [u2, u1].toArray } }) : wpAny (model prog w) A (getItem (.ref t) (.ref sl)) Q E s := by
  obtain ⟨os, hos, hcs, hds⟩ := id hs
  have hTs : s.TypeIs (.ref sl) "slice" := ⟨os, hos, hcs⟩
  have hsz : sizeOk (.seq [u2, u1].toArray) := by
    show 2 ≤ sizeLine
    decide
  have hpick : ((List.range (Builtin.Slice.slicePlaces ((items.size : Int) - 1) (-1) (-1))).filterMap fun (m : Nat) => items[(((items.size : Int) - 1) + (m : Int) * (-1)).toNat]?).toArray = [u2, u1].toArray := by
    subst he
    have e1 : Builtin.Slice.slicePlaces ((([u1, u2].toArray.size : Nat) : Int) - 1) (-1) (-1) = 2 := by
      show Builtin.Slice.slicePlaces (((2 : Nat) : Int) - 1) (-1) (-1) = 2
      decide
    rw [e1, show List.range 2 = [0, 1] from rfl]
    rfl
  have hno : ¬ (((((items.size : Int) - 1) == 0 && (-1 : Int) == 1) && (Builtin.Slice.slicePlaces ((items.size : Int) - 1) (-1) (-1)) == items.size) = true) := by
    rw [show ((-1 : Int) == 1) = false from rfl, Bool.and_false, Bool.false_and]
    exact Bool.false_ne_true
  unfold getItem
  try with_reducible refine wpAny_holding ?_
  first | refine wpAny_bind (wpAny_pure ?_) | skip
  refine wpAny_bind (wpAny_sequenceKey ht.typeIs (by decide) ?_)
  refine wpAny_bind (wpAny_callSpecial?_slot (name := Str.ofString "__getitem__") ht.typeIs PyProof.Rows.slot_tuple_getitem
    (wpAny_call_entry PyProof.Rows.slot_tuple_getitem ht.typeIs entry_tuple_getitem ?_ (args_tuple_getitem _ _)))
  show wpAny _ _ (Builtin.Tuple.tupleItemsOf (.ref t) >>= _) _ _ s
  refine wpAny_bind (tupleItemsOf_ ht ?_)
  refine wpAny_bind (wpAny_typeOf hTs ?_)
  rw [if_pos (by decide)]
  refine wpAny_bind (sliceApplied_rev hs pl pu ps ?_)
  show wpAny _ _ (if (((((items.size : Int) - 1) == 0 && (-1 : Int) == 1) && (Builtin.Slice.slicePlaces ((items.size : Int) - 1) (-1) (-1)) == items.size) = true) then _ else _) _ _ s
  rw [if_neg hno, hpick]
  first
    | exact wpAny_bind (m := Builtin.Tuple.tupleExact _) (wpAny_newObj_type (wpAny_pure ⟨_, rfl, wpAny_pure h⟩) hsz)
    | exact wpAny_bind (m := Builtin.Tuple.tupleExact _) (wpAny_newObj_type (wpAny_bind (wpAny_pure (wpAny_pure ⟨_, rfl, wpAny_pure h⟩))) hsz)
    | exact wpAny_bind (wpAny_bind (m := Builtin.Tuple.tupleExact _) (wpAny_newObj_type (wpAny_pure (wpAny_pure ⟨_, rfl, wpAny_pure h⟩)) hsz))
    | exact wpAny_bind (wpAny_bind (m := Builtin.Tuple.tupleExact _) (wpAny_newObj_type (wpAny_pure ⟨_, rfl, wpAny_pure h⟩) hsz))
end
def tRevP (K : PySem.W.Frag) (te : TE) : TE := fun σ H Q => te σ H fun x H1 => ∃ a y z, x = .ref a ∧ SqT K H1 a [y, z] ∧ ∀ p, H1 p = none → Q (.ref p) (upd H1 p (.tup [z, y]))
theorem pe_revP {X : Cx} {e : Expr} {te : TE} {k : Nat} {p1 p2 p3 pos : Pos} (he : PE X e te) : PE X (.Subscript e (.Slice none none (some (.UnaryOp .USub (.Constant (.int 1) k p1) p2)) p3) pos) (tRevP X.K te) := by
  refine ⟨fun pins s σ H Q I h => ?_⟩
  refine Subscript_ (thn (he.run pins s σ H _ I h) fun v s1 ⟨x, H1, I1, r1, q1⟩ => ?_)
  obtain ⟨a, y, z, ex, hx, q⟩ := q1
  subst ex
  cases r1
  have hst : PO X (some (.UnaryOp .USub (.Constant (.int 1) k p1) p2)) (tPart (tUn (rU fun i => .int (-i)) (tC (.int 1)))) := po_some (pe_un un_neg pe_int)
  refine wpAny_Slice (thn (po_none.run pins s1 σ H1 (fun o H2 => o = none ∧ H2 = H1) I1 ⟨rfl, rfl⟩) fun vl s2 ⟨l, H2, I2, pl, el, e2⟩ => ?_)
  subst el e2
  refine thn (po_none.run pins s2 σ H2 (fun o H3 => o = none ∧ H3 = H2) I2 ⟨rfl, rfl⟩) fun vu s3 ⟨u, H3, I3, pu, eu, e3⟩ => ?_
  subst eu e3
  refine thn (hst.run pins s3 σ H3 (fun o H4 => o = some (-1) ∧ H4 = H3) I3 ⟨1, rfl, -1, rfl, rfl, rfl⟩) fun vs s4 ⟨o, H4, I4, ps, eo, e4⟩ => ?_
  subst eo e4
  have I5 : Inv X pins σ H4 { s4 with heap := s4.heap.push { cls := .type "slice", data := .fields #[vl, vu, vs] } } := I4.kept (t' := s4.toks) fun b ob q => Heap.get?_push_of_some _ q
  obtain ⟨its, r, ht, hz⟩ := I5.tuple hx
  show wpAny (model X.prog X.w) X.A (subscriptTail e (.Slice none none (some (.UnaryOp .USub (.Constant (.int 1) k p1) p2)) p3) (.ref a) (.ref s4.heap.objs.size)) (EP X pins σ Q) X.xe { s4 with heap := s4.heap.push { cls := .type "slice", data := .fields #[vl, vu, vs] } }
  cases r with
  | cons ra rr =>
    cases rr with
    | cons rb rr =>
      cases rr
      refine tail_any (ops := [.ref a, .ref s4.heap.objs.size]) ht.typeIs (PyProof.Rows.slot_tuple_getitem.lookup) ?_ (by with_unfolding_all rfl)
      refine getItem_pair_rev ht rfl (Heap.IsSliceOf.new _ vl vu vs) pl pu ps ?_
      refine ⟨.ref _, _, I5.laid (t' := s4.toks) (o := .tup [z, y]) (fun b ob q => Heap.get?_push_of_some _ q) (Nat.le_refl _) ?_, rfl, q _ (I5.hok.fresh (Nat.le_refl _))⟩
      exact ⟨by show 2 ≤ sizeLine; decide, _, .cons rb (.cons ra .nil), IsTup.new _ _⟩
end SzT

/-! part 12 -/
namespace Sz
open PySem PySem.Spec PyProof.Rows L2 Evl Fx
/-! ### all but one object stands -/
def ExB (l : Addr) (H H' : Hp) : Prop := ∀ b o, b ≠ l → H b = some o → H' b = some o
def PoolAt (H : Hp) (l : Addr) : Prop := ∃ s d c : Int, H l = some (.lst [.int s, .int d, .int c])
section
variable {l : Addr} {H H' H1 H2 : Hp} {K : PySem.W.Frag}
theorem ExB.refl (H : Hp) : ExB l H H := fun _ _ _ h => h
theorem ExB.trans (a : ExB l H H1) (b : ExB l H1 H2) : ExB l H H2 := fun x o n h => b x o n (a x o n h)
theorem ExB.of (e : Ex H H') : ExB l H H' := fun b o _ h => e b o h
theorem ExB.upd {o : HO} : ExB l H (upd H l o) := fun b u n h => by
  rw [upd_ne n]
  exact h
theorem PoolAt.ex (p : PoolAt H l) (e : Ex H H') : PoolAt H' l := by
  obtain ⟨s, d, c, h⟩ := p
  exact ⟨s, d, c, e _ _ h⟩
theorem ExB.ex (e : ExB l H H') (h : H l = none) : Ex H H' := fun b o q => e b o (ne_of_none q h) q
theorem tup_exB {a : Addr} {xs : List V} (h : SqT K H a xs) (p : PoolAt H l) (e : ExB l H H') : SqT K H' a xs := by
  obtain ⟨s, d, c, hp⟩ := p
  rcases h with (h | ⟨o, h⟩) | h
  · exact .inl (.inl (e a _ (ne_of h hp (by intro z; cases z)) h))
  · exact .inl (.inr ⟨o, e a _ (ne_of h hp (by intro z; cases z)) h⟩)
  · exact .inr h
theorem IsF.exB {q : F} {v : V} (h : IsF K q v H) (p : PoolAt H l) (e : ExB l H H') : IsF K q v H' := by
  obtain ⟨a, rfl, h⟩ := h
  exact ⟨a, rfl, tup_exB h p e⟩
end
/-! ### what evaluates, the one object changed -/
def EvP (l : Addr) (R : V → Hp → Prop) (te : TE) (σ : L2.St) : Prop := ∀ H1, PoolAt H1 l → ∀ Q : VK, (∀ v H2, ExB l H1 H2 → PoolAt H2 l → R v H2 → Q v H2) → te σ H1 Q
section
variable {l : Addr} {K : PySem.W.Frag} {σ : L2.St} {R : V → Hp → Prop} {te ta tb : TE} {v : V}
theorem evp_of (h : ∀ H, Ev te σ H v) : EvP l (fun x _ => x = v) te σ := fun H1 p Q k => h H1 H1 (Ex.refl H1) Q fun H2 e2 => k v H2 (ExB.of e2) (p.ex e2) rfl
def IntIn (a b : Int) : V → Hp → Prop := fun x _ => ∃ i : Int, x = .int i ∧ a ≤ i ∧ i < b
def NatIn (b : Nat) : V → Hp → Prop := fun x _ => ∃ n : Nat, x = .int (n : Int) ∧ 0 < n ∧ n ≤ b
def FIn (K : PySem.W.Frag) (n : Nat) : V → Hp → Prop := fun x H => ∃ q : F, IsF K q x H ∧ G n q
theorem s_retP {D : Ends} {H : Hp} (h : EvP l R te σ) (p : PoolAt H l) (k : ∀ v H1, ExB l H H1 → PoolAt H1 l → R v H1 → D.rt v H1) : tRet te D σ H := h H p _ k
theorem q_asgP {i : Nat} {D : Ends} {H : Hp} {tz : TS} (h : EvP l R te σ) (p : PoolAt H l) (k : ∀ v H1, ExB l H H1 → PoolAt H1 l → R v H1 → tz D (σ.set i (some v)) H1) : tSeq (tAsg te (gName i)) tz D σ H := h H p _ k
theorem evp_add1 {m : Nat} (h : EvP l (IntIn 0 (m : Int)) te σ) : EvP l (NatIn m) (tOp (rI0 fun i j => .int (i + j)) (tC (.int 1)) te) σ := fun H1 p Q k => h H1 p _ fun v H2 e2 p2 ⟨i, ev, h0, h1⟩ => ⟨1, i, rfl, ev, k _ H2 e2 p2 ⟨(1 + i).toNat, by rw [Int.toNat_of_nonneg (by omega)], by omega, by omega⟩⟩
theorem low_g {a b n : Nat} (ha : 0 < a) (hb : 0 < b) (h1 : a < 2 ^ n) (h2 : b < 2 ^ n) : G n (low a b) := ⟨red_low ha hb, Nat.lt_of_le_of_lt (low_le a b).1 h1, Nat.lt_of_le_of_lt (low_le a b).2 h2⟩
theorem evp_tup1 {m : Nat} (hm : m < 2 ^ 67) (h : EvP l (NatIn m) te σ) : EvP l (FIn K 67) (tTup (tCons te (tCons (tC (.int 1)) tNil))) σ := fun H1 p Q k => h H1 p _ fun v H2 e2 p2 ⟨n, ev, h0, h1⟩ =>
  ⟨by show 2 ≤ sizeLine; decide, fun a ha => k (.ref a) _ (e2.trans (ExB.of (Ex.new ha))) (p2.ex (Ex.new ha)) ⟨(n, 1), ⟨a, rfl, by rw [ev]; exact st_of upd_same⟩, ⟨⟨h0, Nat.one_pos, Nat.gcd_one_right n⟩, Nat.lt_of_le_of_lt h1 hm, (by show 1 < 2 ^ 67; decide)⟩⟩⟩
theorem evp_low {m : Nat} (hm : m < 2 ^ 67) (h : EvP l (NatIn m) ta σ) (h' : EvP l (NatIn m) tb σ) : EvP l (FIn K 67) (tCr (spLowest K) (tCons ta (tCons tb tNil))) σ := fun H1 p Q k => h H1 p _ fun v H2 e2 p2 ⟨n, ev, h0, h1⟩ => h' H2 p2 _ fun v' H3 e3 p3 ⟨n', ev', h0', h1'⟩ => by
  subst ev ev'
  refine ⟨n, n', rfl, h0, h0', Nat.lt_of_lt_of_le (Nat.lt_of_le_of_lt h1 hm) (Nat.pow_le_pow_right (by decide) (by decide)), fun u H4 e4 hu => k u H4 ((e2.trans e3).trans (ExB.of e4)) (p3.ex e4) ⟨_, hu, low_g h0 h0' (Nat.lt_of_le_of_lt h1 hm) (Nat.lt_of_le_of_lt h1' hm)⟩⟩
end
section
variable {P : Program} {w : World} {K : PySem.W.Frag} {mg : Str → Option Value} {base : Heap}
/-! ### _law_cell -/
def spCell (K : PySem.W.Frag) : Sp := fun vs H Q _ => ∃ (a : Addr) (ns : List Int) (k : Nat), vs = [.ref a, .int (k : Int)] ∧ SqL K H a (ns.map V.int) ∧ k < 10 ∧ ∀ (i : Int) H', Ex H H' → Q (.int i) H'
theorem scCell : FnScope ["_law_script", "_law_k", "_law_state", "_law_figure"] ["_law_script", "_law_k"] (defScope sCell) := ⟨rfl, rfl, rfl, by decide +kernel, rfl, by decide +kernel, by decide +kernel⟩
def IsI : V → Hp → Prop := fun x _ => ∃ i : Int, x = .int i
theorem ok_cell (T : Txt K mg) : CalR P w K mg base 1 "_law_cell" (spCell K) := by
  refine calR_of T.cell scCell (fun vs H Q E h => ?_) (fun _ _ _ _ _ _ us hl => match us, hl with | [_, _], _ => rfl) (fun f cdv A outer s H vs Q E hr h => ?_)
  · obtain ⟨a, ns, k, rfl, _⟩ := h
    rfl
  · obtain ⟨a, ns, k, rfl, hx, hk, q⟩ := h
    refine ⟨_, pss_cons (ps_if (pt_cmpR op_lt (pv 1) (pe_callB call_len_seq (by rfl) T.len PySem.boot_len (pa_cons (pv 0) pa_nil)) (nomark _)) (pss_one (ps_ret (pe_ix ix_list (pv 0) (pv 1) (fun _ _ => rfl)))) pss_nil)
      (pss_cons (ps_set (i := 2) scCell.nd rfl (.inl rfl) (pe_op op_mod (pe_op op_mulW pe_int (pe_op op_add (pe_op op_add (pe_op op_mulW (pv 1) (pv 1)) (pe_op op_mulW pe_int (pv 1))) pe_int)) pe_int))
      (pss_cons (ps_for PassesOwn.never rfl (pi_list (pe_slice sl_list (pv 0) po_none (po_some pe_int))) (pg_name (i := 3) scCell.nd rfl (.inl rfl)) (pss_one (ps_set (i := 2) scCell.nd rfl (.inl rfl) (pe_op op_mod (pe_op op_add (pe_op op_mul (pv 2) pe_int) (pv 3)) pe_int))))
      (pss_one (ps_ret (pv 2))))), ?_⟩
    refine q_when (b := decide ((k : Int) < (((ns.map V.int).length : Nat) : Int))) (et_test (ev_op (ev_var rfl) (ev_len (ev_var rfl) hx) (rv_I0 (g := fun i j => .bl (decide (i < j)))))) (fun hb H1 e1 => ?_) (fun hb H1 e1 => ?_)
    · have hl : k < ns.length := by
        have z := of_decide_eq_true hb
        rw [List.length_map] at z
        omega
      exact s_ret (v := .int ns[k]) (ev_op (ev_var rfl) (ev_var rfl) (rv_ixL (ex_l e1 hx) (atI_nat (by rw [List.getElem?_map, List.getElem?_eq_getElem hl]; rfl)))) fun H2 e2 => q _ H2 (e1.trans e2)
    · have hkk : CMulW (k : Int) (k : Int) := wide_mul (a := 64) (b := 64) (by rw [Int.natAbs_natCast]; omega) (by rw [Int.natAbs_natCast]; omega) (by decide) (by decide) (by decide)
      have h7 : CMulW 7 (k : Int) := wide_mul (a := 64) (b := 64) (by decide) (by rw [Int.natAbs_natCast]; omega) (by decide) (by decide) (by decide)
      have hsq : k * k < 100 := Nat.mul_lt_mul'' hk hk
      have h6 : CMulW 60017 (((k : Int) * (k : Int)) + 7 * (k : Int) + 5) := wide_mul (a := 64) (b := 64) (by decide) (by
        have e : ((k : Int) * (k : Int)) + 7 * (k : Int) + 5 = ((k * k + 7 * k + 5 : Nat) : Int) := by
          rw [Int.natCast_add, Int.natCast_add, Int.natCast_mul, Int.natCast_mul]
          rfl
        rw [e, Int.natAbs_natCast]
        omega) (by decide) (by decide) (by decide)
      refine q_asgX (R := IsI) (evx_ofV (ev_op (ev_op ev_c (ev_op (ev_op (ev_op (ev_var rfl) (ev_var rfl) (rv_I hkk)) (ev_op ev_c (ev_var rfl) (rv_I h7)) (rv_I0 (g := fun i j => .int (i + j)))) ev_c (rv_I0 (g := fun i j => .int (i + j)))) (rv_I h6)) ev_c (rv_I (C := fun _ j => 0 < j) (by decide))) fun _ _ => ⟨_, rfl⟩) fun v H2 e2 ⟨i0, ei⟩ => ?_
      subst ei
      refine q_forNLn (el_sl (ev_var rfl) eo_none (eo_some ev_c) (ex_l (e1.trans e2) hx)) (fun p i σ' H' => ∃ (j : Int) (y : Option V), σ' = [some (.ref a), some (.int (k : Int)), some (.int j), y] ∧ Ex H H' ∧ H' p = some (.lst (cutV (ns.map V.int) none (some 3)))) (fun p H3 hp e3 h3 => ⟨i0, none, rfl, (e1.trans e2).trans e3, h3⟩) (fun p i σ' H' _ ⟨_, _, _, _, h⟩ => sq_of h)
        (fun p i x σ' H' hi ⟨j, y, es, e, hp⟩ => ?_) (fun p σ' H' ⟨j, y, es, e, hp⟩ => ?_)
      · subst es
        have hm : x ∈ ns.map V.int := List.mem_of_mem_drop (List.mem_of_mem_take (List.mem_of_getElem? hi))
        obtain ⟨n, _, rfl⟩ := List.mem_map.mp hm
        exact s_asg (ev_op (ev_op (ev_op (ev_var rfl) ev_c (rv_I (C := CMul) (.inr ⟨by decide, by decide⟩))) (ev_var rfl) (rv_I0 (g := fun i j => .int (i + j)))) ev_c (rv_I (C := fun _ j => 0 < j) (by decide))) fun H3 e3 => ⟨_, _, rfl, e.trans e3, e3 _ _ hp⟩
      · subst es
        exact s_ret (ev_var rfl) fun H3 e3 => q j H3 (e.trans e3)
/-! ### _law_pool -/
def spPool : Sp := fun vs H Q _ => ∃ i : Int, vs = [.int i] ∧ ∀ p H', H p = none → Ex H H' → PoolAt H' p → Q (.ref p) H'
theorem scPool : FnScope ["_law_figure", "_law_digits"] ["_law_figure"] (defScope sPool) := ⟨rfl, rfl, rfl, by decide +kernel, rfl, by decide +kernel, by decide +kernel⟩
theorem ok_pool (T : Txt K mg) : CalR P w K mg base 1 "_law_pool" spPool := by
  refine calR_of T.pool scPool (fun vs H Q E h => ?_) (fun _ _ _ _ _ _ us hl => match us, hl with | [_], _ => rfl) (fun f cdv A outer s H vs Q E hr h => ?_)
  · obtain ⟨i, rfl, _⟩ := h
    rfl
  · obtain ⟨i, rfl, q⟩ := h
    refine ⟨_, pss_cons (ps_set (i := 1) scPool.nd rfl (.inl rfl) (pe_ifExp (PW.pt (pw_or (pt_cmpR op_lt (pv 0) pe_int (nomark _)) (pw_or1 (pt_cmpR op_ge (pv 0) (pe_op op_pow pe_int pe_int) (nomark _))))) (pe_callB call_abs (by rfl) T.abs (by decide +kernel) (pa_cons (pv 0) pa_nil)) pe_int))
      (pss_one (ps_ret (pe_lst (pa_cons (pe_op op_mod (pv 0) pe_int) (pa_cons (pv 1) (pa_cons pe_int pa_nil)))))), ?_⟩
    refine q_asgX (R := IsI) (evx_if (et_or (et_test (ev_op (ev_var rfl) ev_c (rv_I0 (g := fun i j => .bl (decide (i < j)))))) fun _ => et_test (ev_op (ev_var rfl) (ev_op ev_c ev_c (rv_I (C := CPow) ⟨by decide, by decide, by decide⟩)) (rv_I0 (g := fun i j => .bl (decide (j ≤ i)))))) (fun _ => evx_ofV (ev_cb (ea1 (ev_var rfl)) fun H1 e1 Q1 k => ⟨i, rfl, k H1 (Ex.refl H1)⟩) fun _ _ => ⟨_, rfl⟩) fun _ => evx_ofV ev_c fun _ _ => ⟨_, rfl⟩) fun v H1 e1 ⟨d, ed⟩ => ?_
    subst ed
    exact s_retL (el_lst (ea_cons (ev_op (ev_var rfl) ev_c (rv_I (C := fun _ j => 0 < j) (by decide))) (ea2 (ev_var rfl) ev_c)) (by show 3 ≤ 100000; decide)) fun p H2 hp e2 h2 => q p H2 (fresh_back e1 hp) (e1.trans e2) ⟨_, _, _, h2⟩
/-! ### _law_draw -/
def spDraw : Sp := fun vs H Q _ => ∃ (l : Addr) (m : Nat), vs = [.ref l, .int (m : Int)] ∧ PoolAt H l ∧ 0 < m ∧ m < 2 ^ 8000 ∧ ∀ (i : Int) H', 0 ≤ i → i < (m : Int) → ExB l H H' → PoolAt H' l → Q (.int i) H'
theorem q_asgDM {te : TE} {D : Ends} {tz : TS} {σ : L2.St} {H : Hp} {l : Addr} {x y : V} {xs : List V} (h : EvU te σ H [x, y]) (h0 : σ[0]? = some (some (.ref l))) (hl : H l = some (.lst xs)) (hn : 1 < xs.length) (k : ∀ H1, Ex H H1 → tz D (σ.set 3 (some y)) (upd H1 l (.lst (xs.set 1 x)))) :
    tSeq (tAsg te (gTup K 2 (gCons (gSub (tVar 0) (tC (.int 1)) rSetL) (gCons (gName 3) gNil)))) tz D σ H :=
  h H (Ex.refl H) _ fun p H5 hp e5 hpt => ⟨p, _, rfl, st_of hpt, rfl, _, _, rfl, .ref l, h0, l, xs, 1, 1, rfl, rfl, e5 _ _ hl, ixN_nat (j := 1) hn, _, _, rfl, rfl, k H5 e5⟩
theorem scDraw : FnScope ["_law_pool_here", "_law_most", "_law_state", "_law_digit"] ["_law_pool_here", "_law_most"] (defScope sDraw) := ⟨rfl, rfl, rfl, by decide +kernel, rfl, by decide +kernel, by decide +kernel⟩
theorem ok_draw (T : Txt K mg) : CalR P w K mg base 1 "_law_draw" spDraw := by
  refine calR_of T.draw scDraw (fun vs H Q E h => ?_) (fun _ _ _ _ _ _ us hl => match us, hl with | [_, _], _ => rfl) (fun f cdv A outer s H vs Q E hr h => ?_)
  · obtain ⟨l, m, rfl, _⟩ := h
    rfl
  · obtain ⟨l, m, rfl, ⟨s0, d0, c0, hl⟩, hm, hz, q⟩ := h
    refine ⟨_, pss_cons (ps_asg (pe_op op_add (pe_ix ix_list (pv 0) pe_int (fun _ _ => rfl)) pe_int) (pg_sub (pv 0) pe_int set_list))
      (pss_cons (ps_set (i := 2) scDraw.nd rfl (.inl rfl) (pe_ix ix_list (pv 0) pe_int (fun _ _ => rfl)))
      (pss_cons (ps_asg (pe_op op_mod (pe_op op_add (pe_op op_mul (pv 2) (pe_op op_add (pe_op op_mod (pv 2) pe_int) pe_int)) (pe_op op_mul pe_int (pe_ix ix_list (pv 0) pe_int (fun _ _ => rfl)))) pe_int) (pg_sub (pv 0) pe_int set_list))
      (pss_cons (ps_if (pt_cmpR op_gt (pe_ix ix_list (pv 0) pe_int (fun _ _ => rfl)) pe_int (nomark _))
        (pss_cons (ps_asg (pe_callB call_divmodW (by rfl) T.divmod (by decide +kernel) (pa_cons (pe_ix ix_list (pv 0) pe_int (fun _ _ => rfl)) (pa_cons (pv 1) pa_nil))) (pg_tup (by rfl) (pgs_cons (pg_sub (pv 0) pe_int set_list) (pgs_cons (pg_name (i := 3) scDraw.nd rfl (.inl rfl)) pgs_nil))))
        (pss_one (ps_ret (pv 3)))) pss_nil)
      (pss_one (ps_ret (pe_op op_mod (pe_op op_fdiv (pe_ix ix_list (pv 0) pe_int (fun _ _ => rfl)) pe_int) (pv 1))))))), ?_⟩
    have hm1 : (0 : Int) < (m : Int) := by omega
    have hd : CDivP d0 (m : Int) := ⟨hm1, PyProof.noPylong_of_log2 (by
      rw [Int.natAbs_natCast]
      exact Nat.lt_trans (PySem.Flt.log2_lt_of (by decide) hz) (by decide))⟩
    -- pool[2] = pool[2] + 1
    refine q_setL (j := 2) hl (ev_op (ev_op (ev_var rfl) ev_c (rv_ixL (i := 2) (sq_of hl) rfl)) ev_c (rv_I0 (g := fun i j => .int (i + j)))) (ev_var rfl) ev_c (by show 2 < 3; decide) fun H1 e1 => ?_
    have h2 : (upd H1 l (.lst [.int s0, .int d0, .int (c0 + 1)])) l = some (.lst [.int s0, .int d0, .int (c0 + 1)]) := upd_same
    have b1 : ExB l H (upd H1 l (.lst [.int s0, .int d0, .int (c0 + 1)])) := (ExB.of e1).trans ExB.upd
    -- state = pool[0]
    refine q_asg (v := .int s0) (ev_op (ev_var rfl) ev_c (rv_ixL (i := 0) (sq_of h2) rfl)) fun H2 e2 => ?_
    have h3 := e2 _ _ h2
    have b2 := b1.trans (ExB.of e2)
    have m1 := Int.emod_nonneg s0 (show (50023 : Int) ≠ 0 by decide)
    have m2 := Int.emod_lt_of_pos s0 (show (0 : Int) < 50023 by decide)
    refine q_setL (j := 0) h3 (ev_op (ev_op (ev_op (ev_var rfl) (ev_op (ev_op (ev_var rfl) ev_c (rv_I (C := fun _ j => 0 < j) (by decide))) ev_c (rv_I0 (g := fun i j => .int (i + j)))) (rv_I (C := CMul) (.inr ⟨by omega, by omega⟩))) (ev_op ev_c (ev_op (ev_var rfl) ev_c (rv_ixL (i := 2) (sq_of h3) rfl)) (rv_I (C := CMul) (.inl ⟨by decide, by decide⟩))) (rv_I0 (g := fun i j => .int (i + j)))) ev_c (rv_I (C := fun _ j => 0 < j) (by decide))) (ev_var rfl) ev_c (by show 0 < 3; decide) fun H3 e3 => ?_
    generalize (s0 * (s0 % 50023 + 30013) + 80029 * (c0 + 1)) % 2147483137 = s1
    have h4 : (upd H3 l (.lst [.int s1, .int d0, .int (c0 + 1)])) l = some (.lst [.int s1, .int d0, .int (c0 + 1)]) := upd_same
    have b3 : ExB l H (upd H3 l (.lst [.int s1, .int d0, .int (c0 + 1)])) := (b2.trans (ExB.of e3)).trans ExB.upd
    refine q_when (b := decide (0 < d0)) (et_test (ev_op (ev_op (ev_var rfl) ev_c (rv_ixL (i := 1) (sq_of h4) rfl)) ev_c (rv_I0 (g := fun i j => .bl (decide (j < i)))))) (fun hb H4 e4 => ?_) (fun hb H4 e4 => ?_)
    · have h5 := e4 _ _ h4
      have b4 := b3.trans (ExB.of e4)
      have i0 := Int.emod_nonneg d0 (show (m : Int) ≠ 0 by omega)
      have i1 := Int.emod_lt_of_pos d0 hm1
      have dm : EvU (tCB (fun xs H Q => ∃ i j, xs = [.int i, .int j] ∧ CDivP i j ∧ ∀ p, H p = none → Q (.ref p) (upd H p (.tup [.int (i / j), .int (i % j)]))) (tCons (tOp (rIxL K) (tVar 0) (tC (.int 1))) (tCons (tVar 1) tNil))) [some (.ref l), some (.int (m : Int)), some (.int s0), none] H4 [.int (d0 / (m : Int)), .int (d0 % (m : Int))] := fun H5 e5 Q5 k =>
        ea2 (ev_op (ev_var rfl) ev_c (rv_ixL (i := 1) (sq_of h5) rfl)) (ev_var rfl) H5 e5 _ fun H6 e6 => ⟨d0, m, rfl, hd, fun p hp => k p _ (fresh_back e6 hp) (e6.trans (Ex.new hp)) upd_same⟩
      refine q_asgDM dm rfl h5 (by show 1 < 3; decide) fun H5 e5 => ?_
      exact s_ret (v := .int (d0 % (m : Int))) (ev_var rfl) fun H6 e6 => q _ H6 i0 i1 (((b4.trans (ExB.of e5)).trans ExB.upd).trans (ExB.of e6)) (PoolAt.ex ⟨_, _, _, upd_same⟩ e6)
    · have h5 := e4 _ _ h4
      have b4 := b3.trans (ExB.of e4)
      exact s_ret (v := .int (s1 / 64 % (m : Int))) (ev_op (ev_op (ev_op (ev_var rfl) ev_c (rv_ixL (i := 0) (sq_of h5) rfl)) ev_c (rv_I (C := CDiv) ⟨by decide, by decide⟩)) (ev_var rfl) (rv_I (C := fun _ j => 0 < j) hm1)) fun H6 e6 => q _ H6 (Int.emod_nonneg _ (by omega)) (Int.emod_lt_of_pos _ hm1) (b4.trans (ExB.of e6)) (PoolAt.ex ⟨_, _, _, h5⟩ e6)
end
end Sz

/-! part 13 -/
namespace Sz
open PySem PySem.Spec PyProof.Rows L2 Evl Fx
section
variable {P : Program} {w : World} {K : PySem.W.Frag} {mg : Str → Option Value} {base : Heap}
/-! ### _law_low -/
theorem scLow : FnScope ["_law_high_part", "_law_low_part", "_law_lead", "_law_rest"] ["_law_high_part", "_law_low_part"] (defScope sLow) := ⟨rfl, rfl, rfl, by decide +kernel, rfl, by decide +kernel, by decide +kernel⟩
theorem ok_low (T : Txt K mg) : CalR P w K mg base 1 "_law_low" (spLowest K) := by
  refine calR_of T.low scLow (fun vs H Q E h => ?_) (fun _ _ _ _ _ _ us hl => match us, hl with | [_, _], _ => rfl) (fun f cdv A outer s H vs Q E hr h => ?_)
  · obtain ⟨a, b, rfl, _⟩ := h
    rfl
  · obtain ⟨a, b, rfl, ha, hb, hz, q⟩ := h
    have g0 : 0 < Nat.gcd a b := Nat.gcd_pos_of_pos_left _ ha
    have gz : Nat.gcd a b < 2 ^ 8000 := gcd_lt ha hz
    refine ⟨_, pss_cons (ps_par (i := 2) (j := 3) (by rfl) scLow.nd rfl rfl (by decide) rfl rfl (pa_cons (pv 0) (pa_cons (pv 1) pa_nil)) (by rfl))
      (pss_cons (ps_while PassesOwn.never (pt_cmpR op_gt (pv 3) pe_int (nomark _)) (pss_one (ps_par (i := 2) (j := 3) (by rfl) scLow.nd rfl rfl (by decide) rfl rfl (pa_cons (pv 3) (pa_cons (pe_op op_mod (pv 2) (pv 3)) pa_nil)) (by rfl))))
      (pss_one (ps_ret (pe_tup (pa_cons (pe_op op_fdivW (pv 0) (pv 2)) (pa_cons (pe_op op_fdivW (pv 1) (pv 2)) pa_nil)))))), ?_⟩
    refine q_par (ea2 (ev_var rfl) (ev_var rfl)) fun H1 e1 => ?_
    refine q_while (fun m σ' H' => ∃ x y : Nat, σ' = [some (.int (a : Int)), some (.int (b : Int)), some (.int (x : Int)), some (.int (y : Int))] ∧ Nat.gcd x y = Nat.gcd a b ∧ m = y ∧ Ex H H') b ⟨a, b, rfl, rfl, rfl, e1⟩ ?_
    rintro m σ' H' ⟨x, y, rfl, hg, rfl, e⟩
    refine ⟨decide ((0 : Int) < (m : Int)), et_test (ev_op (ev_var rfl) ev_c (rv_I0 (g := fun i j => .bl (decide (j < i))))), fun hb H1 e1 => ?_, fun hb H1 e1 => ?_⟩
    · have hm : 0 < m := by
        have := of_decide_eq_true hb
        omega
      refine ⟨fun σ2 H2 => σ2 = [some (.int (a : Int)), some (.int (b : Int)), some (.int (m : Int)), some (.int ((x % m : Nat) : Int))] ∧ Ex H H2, fun σ2 H2 ⟨e2, e3⟩ => ⟨x % m, Nat.mod_lt _ hm, m, x % m, e2, ?_, rfl, e3⟩, ?_⟩
      · rw [← hg, Nat.gcd_comm x m, Nat.gcd_rec m x, Nat.gcd_comm]
      · exact s_par (ea2 (ev_var rfl) (ev_op (ev_var rfl) (ev_var rfl) (rv_mod hm))) fun H2 e2 => ⟨rfl, (e.trans e1).trans e2⟩
    · have hm : m = 0 := by
        have := of_decide_eq_false hb
        omega
      subst hm
      rw [Nat.gcd_zero_right] at hg
      subst hg
      exact s_retX (R := IsF K (low a b)) (evf_tup (ev_op (ev_var rfl) (ev_var rfl) (rv_div (div_ok g0 gz (Nat.le_refl _)))) (ev_op (ev_var rfl) (ev_var rfl) (rv_div (div_ok g0 gz (Nat.le_refl _))))) fun v H2 e2 r => q v H2 ((e.trans e1).trans e2) r
/-! ### _law_part -/
theorem evp_draw {l : Addr} {σ : L2.St} {te : TE} {B : Nat} (h0 : σ[0]? = some (some (.ref l))) (hz : B < 2 ^ 8000) (h : EvP l (NatIn B) te σ) : EvP l (IntIn 0 (B : Int)) (tCr spDraw (tCons (tVar 0) (tCons te tNil))) σ := fun H1 p Q k =>
  ⟨.ref l, h0, h H1 p _ fun v H2 e2 p2 ⟨m, ev, hm0, hm⟩ => by
    subst ev
    exact ⟨l, m, rfl, p2, hm0, Nat.lt_of_le_of_lt hm hz, fun i H' a b c d => k _ H' (e2.trans c) d ⟨i, rfl, a, by omega⟩⟩⟩
theorem evp_ixN {l : Addr} {σ : L2.St} {ta : TA} {ti : TE} {vs : List V} {i : Int} {B : Nat} (ha : ∀ H, EvA ta σ H vs) (hl : vs.length ≤ 1000) (hi : ∀ H, Ev ti σ H (.int i)) (h : ∃ m : Nat, atI vs i = some (.int (m : Int)) ∧ 0 < m ∧ m ≤ B) : EvP l (NatIn B) (tOp (rIxL K) (tLst ta) ti) σ := fun H1 p Q k =>
  el_lst (ha H1) (Nat.le_trans hl (by decide)) H1 (Ex.refl H1) _ fun a H2 _ e2 h2 => hi H2 H2 (Ex.refl H2) _ fun H3 e3 => by
    obtain ⟨m, h4, h5, h6⟩ := h
    exact ⟨a, vs, i, _, rfl, rfl, sq_of (e3 _ _ h2), h4, k _ H3 (ExB.of (e2.trans e3)) (p.ex (e2.trans e3)) ⟨m, rfl, h5, h6⟩⟩
def spPart (K : PySem.W.Frag) : Sp := fun vs H Q _ => ∃ l : Addr, vs = [.ref l, .bl true] ∧ PoolAt H l ∧ ∀ v H', ExB l H H' → PoolAt H' l → FIn K 67 v H' → Q v H'
theorem scPart : FnScope ["_law_pool_here", "_law_great", "_law_way", "_law_most"] ["_law_pool_here", "_law_great"] (defScope sPart) := ⟨rfl, rfl, rfl, by decide +kernel, rfl, by decide +kernel, by decide +kernel⟩
theorem ok_part (T : Txt K mg) : CalR P w K mg base 2 "_law_part" (spPart K) := by
  refine calR_of T.part scPart (fun vs H Q E h => ?_) (fun _ _ _ _ _ _ us hl => match us, hl with | [_, _], _ => rfl) (fun f cdv A outer s H vs Q E hr h => ?_)
  · obtain ⟨l, rfl, _⟩ := h
    rfl
  · obtain ⟨l, rfl, pl, q⟩ := h
    have cD : CalR P w K mg base 1 "_law_draw" spDraw := ok_draw T
    have cL : CalR P w K mg base 1 "_law_low" (spLowest K) := ok_low T
    refine ⟨_, pss_cons (ps_set (i := 2) scPart.nd rfl (.inl rfl) (pe_cr cD hr (by decide) (by rfl) (pa_cons (pv 0) (pa_cons pe_int pa_nil))))
      (pss_cons (ps_if (pt_cmpR op_lt (pv 2) pe_int (nomark _)) (pss_one (ps_ret (pe_tup (pa_cons (pe_op op_add pe_int (pe_cr cD hr (by decide) (by rfl) (pa_cons (pv 0) (pa_cons (pe_ix ix_list (pe_lst (pa_cons pe_int (pa_cons pe_int pa_nil))) (pv 2) (fun _ _ => rfl)) pa_nil)))) (pa_cons pe_int pa_nil))))) pss_nil)
      (pss_cons (ps_set (i := 3) scPart.nd rfl (.inl rfl) (pe_ix ix_list (pe_lst (pa_cons pe_int (pa_cons pe_int (pa_cons (pe_op op_pow pe_int pe_int) (pa_cons (pe_ifExp (pt_val (pv 1)) (pe_op op_pow pe_int pe_int) pe_int) pa_nil))))) (pe_op op_sub (pv 2) pe_int) (fun _ _ => rfl)))
      (pss_one (ps_ret (pe_cr cL hr (by decide) (by rfl) (pa_cons (pe_op op_add pe_int (pe_cr cD hr (by decide) (by rfl) (pa_cons (pv 0) (pa_cons (pv 3) pa_nil)))) (pa_cons (pe_op op_add pe_int (pe_cr cD hr (by decide) (by rfl) (pa_cons (pv 0) (pa_cons (pv 3) pa_nil)))) pa_nil))))))), ?_⟩
    have big : ∀ {B : Nat}, B ≤ 10 ^ 20 → B < 2 ^ 8000 := fun {B} h => Nat.lt_of_le_of_lt h (Nat.lt_of_lt_of_le (show 10 ^ 20 < 2 ^ 67 by decide) (Nat.pow_le_pow_right (by decide) (by decide)))
    refine q_asgP (R := IntIn 0 ((6 : Nat) : Int)) (evp_draw (B := 6) rfl (big (by decide)) fun H1 p Q1 k => k _ H1 (ExB.refl H1) p ⟨6, rfl, by decide, Nat.le_refl _⟩) pl fun v H1 e1 p1 ⟨i, ev, i0, i6⟩ => ?_
    subst ev
    refine q_when (b := decide (i < 2)) (et_test (ev_op (ev_var rfl) ev_c (rv_I0 (g := fun i j => .bl (decide (i < j)))))) (fun hb H2 e2 => ?_) (fun hb H2 e2 => ?_)
    · have hi := of_decide_eq_true hb
      refine s_retP (R := FIn K 67) (evp_tup1 (m := 2000) (by decide) (evp_add1 (evp_draw rfl (big (by decide)) (evp_ixN (vs := [.int 12, .int 2000]) (fun H => ea2 ev_c ev_c) (by show 2 ≤ 1000; decide) (fun H => ev_var rfl) ?_)))) (p1.ex e2) fun v H3 e3 p3 hv => q v H3 ((e1.trans (ExB.of e2)).trans e3) p3 hv
      have hc : i = 0 ∨ i = 1 := by omega
      rcases hc with e | e
      · subst e
        exact ⟨12, rfl, by decide, by decide⟩
      · subst e
        exact ⟨2000, rfl, by decide, by decide⟩
    · have hi := of_decide_eq_false hb
      refine q_asgP (R := NatIn (10 ^ 20)) (evp_ixN (vs := [.int 12, .int 60, .int 1000000, .int 100000000000000000000]) (i := i - 2)
        (fun H => ea_cons ev_c (ea_cons ev_c (ea2 (ev_is (ev_op ev_c ev_c (rv_I (C := CPow) ⟨by decide, by decide, by decide⟩)) (congrArg V.int (by decide))) (ev_if (b := true) (et_B (ev_var rfl)) (fun _ => ev_is (ev_op ev_c ev_c (rv_I (C := CPow) ⟨by decide, by decide, by decide⟩)) (congrArg V.int (by decide))) (fun z => nomatch z)))))
        (by show 4 ≤ 1000; decide) (fun H => ev_op (ev_var rfl) ev_c (rv_I0 (g := fun i j => .int (i - j)))) ?_) (p1.ex e2) fun v H3 e3 p3 ⟨m, ev, m0, m1⟩ => ?_
      · have hc : i = 2 ∨ i = 3 ∨ i = 4 ∨ i = 5 := by omega
        rcases hc with e | e | e | e
        · subst e
          exact ⟨12, rfl, by decide, by decide⟩
        · subst e
          exact ⟨60, rfl, by decide, by decide⟩
        · subst e
          exact ⟨1000000, rfl, by decide, by decide⟩
        · subst e
          exact ⟨100000000000000000000, rfl, by decide, by decide⟩
      · subst ev
        have hd : EvP l (NatIn (10 ^ 20)) (tVar 3) [some (.ref l), some (.bl true), some (.int i), some (.int (m : Int))] := fun H4 p4 Q4 k => ⟨_, rfl, k _ H4 (ExB.refl H4) p4 ⟨m, rfl, m0, m1⟩⟩
        exact s_retP (R := FIn K 67) (evp_low (m := 10 ^ 20) (by decide) (evp_add1 (evp_draw rfl (big (Nat.le_refl _)) hd)) (evp_add1 (evp_draw rfl (big (Nat.le_refl _)) hd))) p3 fun v H4 e4 p4 hv => q v H4 (((e1.trans (ExB.of e2)).trans e3).trans e4) p4 hv
end
end Sz

/-! part 14 -/
namespace Sz
open PySem PySem.Spec PyProof.Rows L2 Evl Fx
section
variable {P : Program} {w : World} {K : PySem.W.Frag} {mg : Str → Option Value} {base : Heap}
/-! ### rows of three fractions -/
def Rw (K : PySem.W.Frag) : V → Hp → Prop := fun v H => ∃ (t : Addr) (x y z : V) (a b c : F), v = .ref t ∧ SqT K H t [x, y, z] ∧ IsF K a x H ∧ IsF K b y H ∧ IsF K c z H ∧ G 67 a ∧ G 67 b ∧ G 67 c
theorem Rw.ex {v : V} {H H' : Hp} (h : Rw K v H) (e : Ex H H') : Rw K v H' := by
  obtain ⟨t, x, y, z, a, b, c, e0, h1, h2, h3, h4, g⟩ := h
  exact ⟨t, x, y, z, a, b, c, e0, ex_t e h1, h2.ex e, h3.ex e, h4.ex e, g⟩
theorem evr_tup {ta tb tc : TE} {σ : L2.St} {H : Hp} {a b c : F} (h1 : EvF K ta σ H a) (h2 : EvF K tb σ H b) (h3 : EvF K tc σ H c) (g1 : G 67 a) (g2 : G 67 b) (g3 : G 67 c) : EvX (Rw K) (tTup (tCons ta (tCons tb (tCons tc tNil)))) σ H := fun H1 e1 Q k =>
  h1 H1 e1 _ fun x H2 e2 hx => h2 H2 (e1.trans e2) _ fun y H3 e3 hy => h3 H3 ((e1.trans e2).trans e3) _ fun z H4 e4 hz => ⟨by show 3 ≤ sizeLine; decide, fun t ht =>
    k (.ref t) _ (((e2.trans e3).trans e4).trans (Ex.new ht)) ⟨t, x, y, z, a, b, c, rfl, st_of upd_same, hx.ex ((e3.trans e4).trans (Ex.new ht)), hy.ex (e4.trans (Ex.new ht)), hz.ex (Ex.new ht), g1, g2, g3⟩⟩
theorem evf_rev {te : TE} {σ : L2.St} {H : Hp} {a : F} (h : EvF K te σ H a) : EvF K (SzT.tRevP K te) σ H (inv a) := fun H1 e1 Q k => h H1 e1 _ fun x H2 e2 hx => by
  obtain ⟨p, ep, hp⟩ := hx
  exact ⟨p, _, _, ep, hp, fun r hr => k (.ref r) _ (e2.trans (Ex.new hr)) ⟨r, rfl, st_of upd_same⟩⟩
theorem q_asgL4 {i : Nat} {t1 t2 t3 t4 : TE} {σ : L2.St} {H : Hp} {D : Ends} {tz : TS} (h1 : EvX (Rw K) t1 σ H) (h2 : EvX (Rw K) t2 σ H) (h3 : EvX (Rw K) t3 σ H) (h4 : EvX (Rw K) t4 σ H)
    (k : ∀ p vs H1, Ex H H1 → H1 p = some (.lst vs) → (∀ x ∈ vs, Rw K x H1) → tz D (σ.set i (some (.ref p))) H1) : tSeq (tAsg (tLst (tCons t1 (tCons t2 (tCons t3 (tCons t4 tNil))))) (gName i)) tz D σ H :=
  h1 H (Ex.refl H) _ fun x1 H1 e1 r1 => h2 H1 e1 _ fun x2 H2 e2 r2 => h3 H2 (e1.trans e2) _ fun x3 H3 e3 r3 => h4 H3 ((e1.trans e2).trans e3) _ fun x4 H4 e4 r4 => ⟨by show 4 ≤ sizeLine; decide, fun p hp =>
    k p _ _ ((((e1.trans e2).trans e3).trans e4).trans (Ex.new hp)) upd_same fun x hx => by
      simp only [List.mem_cons, List.not_mem_nil, or_false] at hx
      rcases hx with e | e | e | e
      · rw [e]; exact r1.ex (((e2.trans e3).trans e4).trans (Ex.new hp))
      · rw [e]; exact r2.ex ((e3.trans e4).trans (Ex.new hp))
      · rw [e]; exact r3.ex (e4.trans (Ex.new hp))
      · rw [e]; exact r4.ex (Ex.new hp)⟩
theorem evp_part {l : Addr} {σ : L2.St} (h0 : σ[0]? = some (some (.ref l))) : EvP l (FIn K 67) (tCr (spPart K) (tCons (tVar 0) (tCons (tC (.bl true)) tNil))) σ := fun H1 p Q k => ⟨.ref l, h0, l, rfl, p, k⟩
theorem q_par3P {i j n : Nat} {l : Addr} {t1 t2 t3 : TE} {σ : L2.St} {H : Hp} {D : Ends} {tz : TS} (h1 : EvP l (FIn K 67) t1 σ) (h2 : EvP l (FIn K 67) t2 σ) (h3 : EvP l (FIn K 67) t3 σ) (p : PoolAt H l)
    (k : ∀ u v x a b c H1, ExB l H H1 → PoolAt H1 l → IsF K a u H1 → IsF K b v H1 → IsF K c x H1 → G 67 a → G 67 b → G 67 c → tz D (((σ.set i (some u)).set j (some v)).set n (some x)) H1) : tSeq (tPar3 i j n (tCons t1 (tCons t2 (tCons t3 tNil)))) tz D σ H :=
  h1 H p _ fun u H1 e1 p1 ⟨a, ha, ga⟩ => h2 H1 p1 _ fun v H2 e2 p2 ⟨b, hb, gb⟩ => h3 H2 p2 _ fun x H3 e3 p3 ⟨c, hc, gc⟩ =>
    ⟨u, v, x, rfl, k u v x a b c H3 ((e1.trans e2).trans e3) p3 (ha.exB p1 (e2.trans e3)) (hb.exB p2 e3) hc ga gb gc⟩
/-! ### _law_right -/
def spRight : Sp := fun vs H Q _ => ∃ l : Addr, vs = [.ref l] ∧ PoolAt H l ∧ ∀ H', ExB l H H' → Q (.bl true) H'
theorem scRight : FnScope ["_law_pool_here", "_law_turn", "_law_lead", "_law_more", "_law_last", "_law_rows", "_law_row"] ["_law_pool_here"] (defScope sRight) := ⟨rfl, rfl, rfl, by decide +kernel, rfl, by decide +kernel, by decide +kernel⟩
theorem ok_right (T : Txt K mg) : CalR P w K mg base 7 "_law_right" spRight := by
  refine calR_of T.right scRight (fun vs H Q E h => ?_) (fun _ _ _ _ _ _ us hl => match us, hl with | [_], _ => rfl) (fun f cdv A outer s H vs Q E hr h => ?_)
  · obtain ⟨l, rfl, _⟩ := h
    rfl
  · obtain ⟨l, rfl, pl, q⟩ := h
    have cPt : CalR P w K mg base 2 "_law_part" (spPart K) := ok_part T
    have c2 : CalR P w K mg base 5 "_law_two_right" (spTwo K) := ok_two T
    have c3 : CalR P w K mg base 6 "_law_three_right" (spThree K) := ok_three T
    refine ⟨_, pss_cons (ps_for PassesOwn.never rfl (pi_range1 (by rfl) T.range (pa_cons pe_int pa_nil)) (pg_name (i := 1) scRight.nd rfl (.inl rfl))
        (pss_cons (ps_par3 (i := 2) (j := 3) (l := 4) rfl scRight.nd rfl rfl rfl (by decide) (by decide) (by decide) rfl rfl rfl (pa_cons (pe_cr cPt hr (by decide) (by rfl) (pa_cons (pv 0) (pa_cons pe_bl pa_nil))) (pa_cons (pe_cr cPt hr (by decide) (by rfl) (pa_cons (pv 0) (pa_cons pe_bl pa_nil))) (pa_cons (pe_cr cPt hr (by decide) (by rfl) (pa_cons (pv 0) (pa_cons pe_bl pa_nil))) pa_nil))) (by rfl))
        (pss_cons (ps_set (i := 5) scRight.nd rfl (.inl rfl) (pe_lst (pa_cons (pe_tup (pa_cons (pv 2) (pa_cons (pv 3) (pa_cons (pv 4) pa_nil)))) (pa_cons (pe_tup (pa_cons (pv 2) (pa_cons (pv 2) (pa_cons (pv 4) pa_nil)))) (pa_cons (pe_tup (pa_cons (pv 2) (pa_cons (SzT.pe_revP (pv 2)) (pa_cons (pv 3) pa_nil)))) (pa_cons (pe_tup (pa_cons (pv 3) (pa_cons (pv 4) (pa_cons (pv 4) pa_nil)))) pa_nil))))))
        (pss_one (ps_for PassesOwn.never rfl (pi_list (pv 5)) (pg_name (i := 6) scRight.nd rfl (.inl rfl))
          (pss_one (ps_if (PW.pt (pw_or (pt_not (pt_val (pe_cr c2 hr (by decide) (by rfl) (pa_cons (pe_ix ix_tup (pv 6) pe_int (fun _ _ => rfl)) (pa_cons (pe_ix ix_tup (pv 6) pe_int (fun _ _ => rfl)) pa_nil)))))
            (pw_or1 (pt_not (pt_val (pe_cr c3 hr (by decide) (by rfl) (pa_cons (pe_ix ix_tup (pv 6) pe_int (fun _ _ => rfl)) (pa_cons (pe_ix ix_tup (pv 6) pe_int (fun _ _ => rfl)) (pa_cons (pe_ix ix_tup (pv 6) pe_int (fun _ _ => rfl)) pa_nil))))))))) (pss_one (ps_ret pe_bl)) pss_nil)))))))
      (pss_one (ps_ret pe_bl)), ?_⟩
    refine q_forR1 (n := 5) (ea1 ev_c) ⟨by decide, by decide⟩ (fun i σ' H' => ∃ y1 y2 y3 y4 y5 y6, σ' = [some (.ref l), y1, y2, y3, y4, y5, y6] ∧ ExB l H H' ∧ PoolAt H' l) (fun H1 e1 => ⟨none, none, none, none, none, none, rfl, ExB.of e1, pl.ex e1⟩)
      (fun i σ' H' hi ⟨y1, y2, y3, y4, y5, y6, es, e, p⟩ => ?_) (fun σ' H' ⟨y1, y2, y3, y4, y5, y6, es, e, p⟩ => ?_)
    · subst es
      refine q_par3P (evp_part rfl) (evp_part rfl) (evp_part rfl) p fun u v x a b c H1 e1 p1 ha hb hc ga gb gc => ?_
      refine q_asgL4 (evr_tup (evf_var rfl ha) (evf_var rfl hb) (evf_var rfl hc) ga gb gc) (evr_tup (evf_var rfl ha) (evf_var rfl ha) (evf_var rfl hc) ga ga gc) (evr_tup (evf_var rfl ha) (evf_rev (evf_var rfl ha)) (evf_var rfl hb) ga ga.inv gb) (evr_tup (evf_var rfl hb) (evf_var rfl hc) (evf_var rfl hc) gb gc gc)
        fun r vs H2 e2 hr2 hrows => ?_
      refine s_forLn (ev_var rfl) (sq_of hr2) (fun i' σ' H' => ∃ z, σ' = [some (.ref l), some (.int (i : Int)), some u, some v, some x, some (.ref r), z] ∧ Ex H2 H') (fun H3 e3 => ⟨y6, rfl, e3⟩) (fun i' σ' H' _ ⟨_, _, e⟩ => sq_of (e _ _ hr2))
        (fun i' rw' σ' H3 hi' ⟨z, es, e3⟩ => ?_) (fun σ' H3 ⟨z, es, e3⟩ => ?_)
      · subst es
        obtain ⟨t, x0, x1, x2, a0, a1, a2, er, ht, h0, h1, h2, g0, g1, g2⟩ := (hrows _ (List.mem_of_getElem? hi')).ex e3
        subst er
        have f0 : EvF K (tOp (rIxT K) (tVar 6) (tC (.int 0))) [some (.ref l), some (.int (i : Int)), some u, some v, some x, some (.ref r), some (.ref t)] H3 a0 := evx_ofV (ev_op (ev_var rfl) ev_c (rv_ixT ht rfl)) fun H4 e4 => h0.ex e4
        have f1 : EvF K (tOp (rIxT K) (tVar 6) (tC (.int 1))) [some (.ref l), some (.int (i : Int)), some u, some v, some x, some (.ref r), some (.ref t)] H3 a1 := evx_ofV (ev_op (ev_var rfl) ev_c (rv_ixT ht rfl)) fun H4 e4 => h1.ex e4
        have f2 : EvF K (tOp (rIxT K) (tVar 6) (tC (.int 2))) [some (.ref l), some (.int (i : Int)), some u, some v, some x, some (.ref r), some (.ref t)] H3 a2 := evx_ofV (ev_op (ev_var rfl) ev_c (rv_ixT ht rfl)) fun H4 e4 => h2.ex e4
        exact s_skip (et_orF (et_not (a := true) (et_B (ev_cr (efs_cons f0 (efs_cons f1 efs_nil)) fun vs H4 e4 hvs Q2 k => ⟨a0, a1, hvs, g0, g1, k⟩))) (et_not (a := true) (et_B (ev_cr (efs_cons f0 (efs_cons f1 (efs_cons f2 efs_nil))) fun vs H4 e4 hvs Q2 k => ⟨a0, a1, a2, hvs, g0, g1, g2, k⟩)))) fun H4 e4 => ⟨_, rfl, e3.trans e4⟩
      · subst es
        exact ⟨_, _, _, _, _, _, rfl, (e.trans e1).trans (ExB.of (e2.trans e3)), p1.ex (e2.trans e3)⟩
    · subst es
      exact s_ret ev_c fun H1 e1 => q H1 (e.trans (ExB.of e1))
/-! ### law -/
def rMin2 : List V → Hp → VK → Prop := fun xs H Q => ∃ i j, xs = [.int i, .int j] ∧ Q (.int (if j < i then j else i)) H
theorem ev_min2 {ta tb : TE} {σ : L2.St} {H : Hp} {i j : Int} (ha : Ev ta σ H (.int i)) (hb : Ev tb σ H (.int j)) : Ev (tCB rMin2 (tCons ta (tCons tb tNil))) σ H (.int (if j < i then j else i)) := fun H1 e Q q =>
  ha H1 e _ fun H2 e2 => hb H2 (e.trans e2) _ fun H3 e3 => ⟨i, j, rfl, q H3 (e2.trans e3)⟩
def spLaw (K : PySem.W.Frag) : Sp := fun vs H Q _ => ∃ (a : Addr) (ns : List Int), vs = [.ref a] ∧ SqL K H a (ns.map V.int) ∧ ns.length ≤ 63 ∧ ∀ H', Q (.bl true) H'
theorem law_binds {f : Addr} {fd : FuncData} (F : Fun K "law" "law" sLaw f fd) (s : Shared) (u : Value) : BindsTo s fd ⟨[u], []⟩ [("_law_script", u)] := by
  obtain ⟨oc, od, kV, doc, pm, an, cdv, ct, osl, rfl, lk, hcd⟩ := F.ex
  exact .of_eq rfl
theorem scLaw : FnScope ["_law_script", "_law_k"] ["_law_script"] (defScope sLaw) := ⟨rfl, rfl, rfl, by decide +kernel, rfl, by decide +kernel, by decide +kernel⟩
theorem ok_law {f : Addr} {fd : FuncData} (T : Txt K mg) (F : Fun K "law" "law" sLaw f fd) : FnOk P w K mg base CX0 8 f fd ["_law_script"] (spLaw K) := by
  have cR : CalR P w K mg base 7 "_law_right" spRight := ok_right T
  have cP : CalR P w K mg base 1 "_law_pool" spPool := ok_pool T
  have cC : CalR P w K mg base 1 "_law_cell" (spCell K) := ok_cell T
  refine F.ok scLaw (fun vs H Q E h => ?_) (fun cdv A outer s H vs Q E hr h => ?_)
  · obtain ⟨a, ns, rfl, _⟩ := h
    rfl
  · obtain ⟨a, ns, rfl, hx, hlen, q⟩ := h
    refine ⟨_, pss_one (ps_ret (pe_callB (cr_all rfl) (by rfl) T.all (by decide +kernel) (pa_cons (pe_lc (own := [("_law_k", 1)]) (g := gName 1) (tt := tYes) rfl scLaw.nd
        (pi_range1 (by rfl) T.range (pa_cons (pe_callB (call_max2 rfl) (by rfl) T.max (by decide +kernel) (pa_cons pe_int (pa_cons (pe_callB (call_min2 rfl) (by rfl) T.min (by decide +kernel) (pa_cons (pe_callB call_len_seq (by rfl) T.len PySem.boot_len (pa_cons (pv 0) pa_nil)) (pa_cons pe_int pa_nil))) pa_nil))) pa_nil))
        (blkOk_by (N := ["_law_script", "_law_k"]) (sc := defScope sLaw) (by decide +kernel)) (fun _ _ _ _ _ => pg_name (i := 1) scLaw.nd rfl (Or.inl rfl)) (fun _ _ _ _ _ => pts_nil)
        (fun _ _ _ _ _ => pe_cr cR hr (by decide) (by rfl) (pa_cons (pe_cr cP hr (by decide) (by rfl) (pa_cons (pe_cr cC hr (by decide) (by rfl) (pa_cons (pv 0) (pa_cons (pv 1) pa_nil))) pa_nil)) pa_nil))) pa_nil))), ?_⟩
    have hn : ∃ n : Nat, n ≤ 5 ∧ (if (if (5 : Int) < (((ns.map V.int).length : Nat) : Int) then (5 : Int) else (((ns.map V.int).length : Nat) : Int)) > 2 then (if (5 : Int) < (((ns.map V.int).length : Nat) : Int) then (5 : Int) else (((ns.map V.int).length : Nat) : Int)) else 2) = (n : Int) := by
      generalize (ns.map V.int).length = k
      by_cases h1 : (5 : Int) < (k : Int)
      · exact ⟨5, Nat.le_refl _, by rw [if_pos h1]; decide⟩
      · rw [if_neg h1]
        by_cases h2 : (k : Int) > 2
        · exact ⟨k, by omega, by rw [if_pos h2]⟩
        · exact ⟨2, by decide, by rw [if_neg h2]; rfl⟩
    obtain ⟨n, n5, en⟩ := hn
    refine s_ret (v := .bl true) (ev_is (ev_all (bs := (List.range (n : Int).toNat).map fun _ => true) ?_) (congrArg V.bl (all_range fun _ _ => rfl))) fun H1 _ => q H1
    rw [← given_bl]
    refine el_lcR1 (n := (n : Int)) (fun _ => true) (fun _ => .bl true) (ea1 ?_) ⟨by omega, by omega⟩ (fun _ => rfl) (fun _ _ _ _ => et_yes) (fun i H1 e1 hi _ => ?_)
    · rw [← en]
      exact ev_max2 ev_c (ev_min2 (ev_len (ev_var rfl) hx) ev_c)
    · refine fun H2 e2 Q2 k => ⟨.ref a, rfl, .int (i : Int), rfl, a, ns, i, rfl, ex_l (e1.trans e2) hx, by omega, fun j H3 e3 => ⟨j, rfl, fun p H4 hp e4 pl => ⟨p, rfl, pl, fun H5 b5 => k H5 fun b o h => ?_⟩⟩⟩
      exact b5 b o (ne_of_none (e3 b o h) hp) (e4 b o (e3 b o h))
end
end Sz

namespace Sz
open PySem PySem.Spec PyProof.Rows L2 Evl Fx
theorem all_mk {P : Program} {w : World} {K : PySem.W.Frag} {h : Heap} {mg : Str → Option Value} {fa : Addr} (X : K.In h) (G : h.Ns mainGlobals mg) (hfa : mg "law" = some (.ref fa))
    {f0 : Addr} {od0 an0 : Option Addr} {sl0 : Array (Option Value)} {oc0 kV0 dc0 pm0 cd0 ct0 : Value}
    (a0 : PySem.W.nsIn K mainGlobals "is_whole" = some (some (.ref f0))) (l0 : K.lookup f0 = some ⟨oc0, od0, .func (PySem.W.fnOf "is_whole" "is_whole" (defArgs sWhole) (defBody sWhole) (defScope sWhole) .none kV0 dc0 pm0 an0 cd0 ct0), sl0⟩) (c0 : PySem.W.codeIn K cd0 "is_whole" = true) (k0 : PySem.W.keepIn K (.ref f0) = true)
    {f1 : Addr} {od1 an1 : Option Addr} {sl1 : Array (Option Value)} {oc1 kV1 dc1 pm1 cd1 ct1 : Value}
    (a1 : PySem.W.nsIn K mainGlobals "common_divisor" = some (some (.ref f1))) (l1 : K.lookup f1 = some ⟨oc1, od1, .func (PySem.W.fnOf "common_divisor" "common_divisor" (defArgs sCd) (defBody sCd) (defScope sCd) .none kV1 dc1 pm1 an1 cd1 ct1), sl1⟩) (c1 : PySem.W.codeIn K cd1 "common_divisor" = true) (k1 : PySem.W.keepIn K (.ref f1) = true)
    {f2 : Addr} {od2 an2 : Option Addr} {sl2 : Array (Option Value)} {oc2 kV2 dc2 pm2 cd2 ct2 : Value}
    (a2 : PySem.W.nsIn K mainGlobals "lowest" = some (some (.ref f2))) (l2 : K.lookup f2 = some ⟨oc2, od2, .func (PySem.W.fnOf "lowest" "lowest" (defArgs sLowest) (defBody sLowest) (defScope sLowest) .none kV2 dc2 pm2 an2 cd2 ct2), sl2⟩) (c2 : PySem.W.codeIn K cd2 "lowest" = true) (k2 : PySem.W.keepIn K (.ref f2) = true)
    {f3 : Addr} {od3 an3 : Option Addr} {sl3 : Array (Option Value)} {oc3 kV3 dc3 pm3 cd3 ct3 : Value}
    (a3 : PySem.W.nsIn K mainGlobals "is_fraction" = some (some (.ref f3))) (l3 : K.lookup f3 = some ⟨oc3, od3, .func (PySem.W.fnOf "is_fraction" "is_fraction" (defArgs sIsF) (defBody sIsF) (defScope sIsF) .none kV3 dc3 pm3 an3 cd3 ct3), sl3⟩) (c3 : PySem.W.codeIn K cd3 "is_fraction" = true) (k3 : PySem.W.keepIn K (.ref f3) = true)
    {f4 : Addr} {od4 an4 : Option Addr} {sl4 : Array (Option Value)} {oc4 kV4 dc4 pm4 cd4 ct4 : Value}
    (a4 : PySem.W.nsIn K mainGlobals "check_fraction" = some (some (.ref f4))) (l4 : K.lookup f4 = some ⟨oc4, od4, .func (PySem.W.fnOf "check_fraction" "check_fraction" (defArgs sChk) (defBody sChk) (defScope sChk) .none kV4 dc4 pm4 an4 cd4 ct4), sl4⟩) (c4 : PySem.W.codeIn K cd4 "check_fraction" = true) (k4 : PySem.W.keepIn K (.ref f4) = true)
    {f5 : Addr} {od5 an5 : Option Addr} {sl5 : Array (Option Value)} {oc5 kV5 dc5 pm5 cd5 ct5 : Value}
    (a5 : PySem.W.nsIn K mainGlobals "times_of" = some (some (.ref f5))) (l5 : K.lookup f5 = some ⟨oc5, od5, .func (PySem.W.fnOf "times_of" "times_of" (defArgs sTimes) (defBody sTimes) (defScope sTimes) .none kV5 dc5 pm5 an5 cd5 ct5), sl5⟩) (c5 : PySem.W.codeIn K cd5 "times_of" = true) (k5 : PySem.W.keepIn K (.ref f5) = true)
    {f6 : Addr} {od6 an6 : Option Addr} {sl6 : Array (Option Value)} {oc6 kV6 dc6 pm6 cd6 ct6 : Value}
    (a6 : PySem.W.nsIn K mainGlobals "over_of" = some (some (.ref f6))) (l6 : K.lookup f6 = some ⟨oc6, od6, .func (PySem.W.fnOf "over_of" "over_of" (defArgs sOver) (defBody sOver) (defScope sOver) .none kV6 dc6 pm6 an6 cd6 ct6), sl6⟩) (c6 : PySem.W.codeIn K cd6 "over_of" = true) (k6 : PySem.W.keepIn K (.ref f6) = true)
    {f7 : Addr} {od7 an7 : Option Addr} {sl7 : Array (Option Value)} {oc7 kV7 dc7 pm7 cd7 ct7 : Value}
    (a7 : PySem.W.nsIn K mainGlobals "order_of" = some (some (.ref f7))) (l7 : K.lookup f7 = some ⟨oc7, od7, .func (PySem.W.fnOf "order_of" "order_of" (defArgs sOrder) (defBody sOrder) (defScope sOrder) .none kV7 dc7 pm7 an7 cd7 ct7), sl7⟩) (c7 : PySem.W.codeIn K cd7 "order_of" = true) (k7 : PySem.W.keepIn K (.ref f7) = true)
    {f8 : Addr} {od8 an8 : Option Addr} {sl8 : Array (Option Value)} {oc8 kV8 dc8 pm8 cd8 ct8 : Value}
    (a8 : PySem.W.nsIn K mainGlobals "shown" = some (some (.ref f8))) (l8 : K.lookup f8 = some ⟨oc8, od8, .func (PySem.W.fnOf "shown" "shown" (defArgs sShown) (defBody sShown) (defScope sShown) .none kV8 dc8 pm8 an8 cd8 ct8), sl8⟩) (c8 : PySem.W.codeIn K cd8 "shown" = true) (k8 : PySem.W.keepIn K (.ref f8) = true)
    {f9 : Addr} {od9 an9 : Option Addr} {sl9 : Array (Option Value)} {oc9 kV9 dc9 pm9 cd9 ct9 : Value}
    (a9 : PySem.W.nsIn K mainGlobals "read_whole" = some (some (.ref f9))) (l9 : K.lookup f9 = some ⟨oc9, od9, .func (PySem.W.fnOf "read_whole" "read_whole" (defArgs sRdW) (defBody sRdW) (defScope sRdW) .none kV9 dc9 pm9 an9 cd9 ct9), sl9⟩) (c9 : PySem.W.codeIn K cd9 "read_whole" = true) (k9 : PySem.W.keepIn K (.ref f9) = true)
    {f10 : Addr} {od10 an10 : Option Addr} {sl10 : Array (Option Value)} {oc10 kV10 dc10 pm10 cd10 ct10 : Value}
    (a10 : PySem.W.nsIn K mainGlobals "read_fraction" = some (some (.ref f10))) (l10 : K.lookup f10 = some ⟨oc10, od10, .func (PySem.W.fnOf "read_fraction" "read_fraction" (defArgs sRdF) (defBody sRdF) (defScope sRdF) .none kV10 dc10 pm10 an10 cd10 ct10), sl10⟩) (c10 : PySem.W.codeIn K cd10 "read_fraction" = true) (k10 : PySem.W.keepIn K (.ref f10) = true)
    {f11 : Addr} {od11 an11 : Option Addr} {sl11 : Array (Option Value)} {oc11 kV11 dc11 pm11 cd11 ct11 : Value} {fT : Addr} {odT : Option Addr} {ocT : Value} {slT : Array (Option Value)} {nT : Nat} {tT : Tok}
    (a11 : PySem.W.nsIn K mainGlobals "fraction" = some (some (.ref f11))) (l11 : K.lookup f11 = some ⟨oc11, od11, .func (PySem.W.fnOf "fraction" "fraction" (defArgs sFrac) (defBody sFrac) (defScope sFrac) (.ref fT) kV11 dc11 pm11 an11 cd11 ct11), sl11⟩) (c11 : PySem.W.codeIn K cd11 "fraction" = true) (k11 : PySem.W.keepIn K (.ref f11) = true)
    (lT : K.lookup fT = some ⟨ocT, odT, .seq [Value.int 1 tT].toArray nT, slT⟩)
    {f12 : Addr} {od12 an12 : Option Addr} {sl12 : Array (Option Value)} {oc12 kV12 dc12 pm12 cd12 ct12 : Value}
    (a12 : PySem.W.nsIn K mainGlobals "product" = some (some (.ref f12))) (l12 : K.lookup f12 = some ⟨oc12, od12, .func (PySem.W.fnOf "product" "product" (defArgs sProd) (defBody sProd) (defScope sProd) .none kV12 dc12 pm12 an12 cd12 ct12), sl12⟩) (c12 : PySem.W.codeIn K cd12 "product" = true) (k12 : PySem.W.keepIn K (.ref f12) = true)
    {f13 : Addr} {od13 an13 : Option Addr} {sl13 : Array (Option Value)} {oc13 kV13 dc13 pm13 cd13 ct13 : Value}
    (a13 : PySem.W.nsIn K mainGlobals "quotient" = some (some (.ref f13))) (l13 : K.lookup f13 = some ⟨oc13, od13, .func (PySem.W.fnOf "quotient" "quotient" (defArgs sQuot) (defBody sQuot) (defScope sQuot) .none kV13 dc13 pm13 an13 cd13 ct13), sl13⟩) (c13 : PySem.W.codeIn K cd13 "quotient" = true) (k13 : PySem.W.keepIn K (.ref f13) = true)
    {f14 : Addr} {od14 an14 : Option Addr} {sl14 : Array (Option Value)} {oc14 kV14 dc14 pm14 cd14 ct14 : Value}
    (a14 : PySem.W.nsIn K mainGlobals "compare" = some (some (.ref f14))) (l14 : K.lookup f14 = some ⟨oc14, od14, .func (PySem.W.fnOf "compare" "compare" (defArgs sCmp) (defBody sCmp) (defScope sCmp) .none kV14 dc14 pm14 an14 cd14 ct14), sl14⟩) (c14 : PySem.W.codeIn K cd14 "compare" = true) (k14 : PySem.W.keepIn K (.ref f14) = true)
    {f15 : Addr} {od15 an15 : Option Addr} {sl15 : Array (Option Value)} {oc15 kV15 dc15 pm15 cd15 ct15 : Value}
    (a15 : PySem.W.nsIn K mainGlobals "format_fraction" = some (some (.ref f15))) (l15 : K.lookup f15 = some ⟨oc15, od15, .func (PySem.W.fnOf "format_fraction" "format_fraction" (defArgs sFmt) (defBody sFmt) (defScope sFmt) .none kV15 dc15 pm15 an15 cd15 ct15), sl15⟩) (c15 : PySem.W.codeIn K cd15 "format_fraction" = true) (k15 : PySem.W.keepIn K (.ref f15) = true)
    {f16 : Addr} {od16 an16 : Option Addr} {sl16 : Array (Option Value)} {oc16 kV16 dc16 pm16 cd16 ct16 : Value}
    (a16 : PySem.W.nsIn K mainGlobals "parse_fraction" = some (some (.ref f16))) (l16 : K.lookup f16 = some ⟨oc16, od16, .func (PySem.W.fnOf "parse_fraction" "parse_fraction" (defArgs sPrs) (defBody sPrs) (defScope sPrs) .none kV16 dc16 pm16 an16 cd16 ct16), sl16⟩) (c16 : PySem.W.codeIn K cd16 "parse_fraction" = true) (k16 : PySem.W.keepIn K (.ref f16) = true)
    {f17 : Addr} {od17 an17 : Option Addr} {sl17 : Array (Option Value)} {oc17 kV17 dc17 pm17 cd17 ct17 : Value}
    (a17 : PySem.W.nsIn K mainGlobals "_law_cell" = some (some (.ref f17))) (l17 : K.lookup f17 = some ⟨oc17, od17, .func (PySem.W.fnOf "_law_cell" "_law_cell" (defArgs sCell) (defBody sCell) (defScope sCell) .none kV17 dc17 pm17 an17 cd17 ct17), sl17⟩) (c17 : PySem.W.codeIn K cd17 "_law_cell" = true) (k17 : PySem.W.keepIn K (.ref f17) = true)
    {f18 : Addr} {od18 an18 : Option Addr} {sl18 : Array (Option Value)} {oc18 kV18 dc18 pm18 cd18 ct18 : Value}
    (a18 : PySem.W.nsIn K mainGlobals "_law_pool" = some (some (.ref f18))) (l18 : K.lookup f18 = some ⟨oc18, od18, .func (PySem.W.fnOf "_law_pool" "_law_pool" (defArgs sPool) (defBody sPool) (defScope sPool) .none kV18 dc18 pm18 an18 cd18 ct18), sl18⟩) (c18 : PySem.W.codeIn K cd18 "_law_pool" = true) (k18 : PySem.W.keepIn K (.ref f18) = true)
    {f19 : Addr} {od19 an19 : Option Addr} {sl19 : Array (Option Value)} {oc19 kV19 dc19 pm19 cd19 ct19 : Value}
    (a19 : PySem.W.nsIn K mainGlobals "_law_draw" = some (some (.ref f19))) (l19 : K.lookup f19 = some ⟨oc19, od19, .func (PySem.W.fnOf "_law_draw" "_law_draw" (defArgs sDraw) (defBody sDraw) (defScope sDraw) .none kV19 dc19 pm19 an19 cd19 ct19), sl19⟩) (c19 : PySem.W.codeIn K cd19 "_law_draw" = true) (k19 : PySem.W.keepIn K (.ref f19) = true)
    {f20 : Addr} {od20 an20 : Option Addr} {sl20 : Array (Option Value)} {oc20 kV20 dc20 pm20 cd20 ct20 : Value}
    (a20 : PySem.W.nsIn K mainGlobals "_law_low" = some (some (.ref f20))) (l20 : K.lookup f20 = some ⟨oc20, od20, .func (PySem.W.fnOf "_law_low" "_law_low" (defArgs sLow) (defBody sLow) (defScope sLow) .none kV20 dc20 pm20 an20 cd20 ct20), sl20⟩) (c20 : PySem.W.codeIn K cd20 "_law_low" = true) (k20 : PySem.W.keepIn K (.ref f20) = true)
    {f21 : Addr} {od21 an21 : Option Addr} {sl21 : Array (Option Value)} {oc21 kV21 dc21 pm21 cd21 ct21 : Value}
    (a21 : PySem.W.nsIn K mainGlobals "_law_part" = some (some (.ref f21))) (l21 : K.lookup f21 = some ⟨oc21, od21, .func (PySem.W.fnOf "_law_part" "_law_part" (defArgs sPart) (defBody sPart) (defScope sPart) .none kV21 dc21 pm21 an21 cd21 ct21), sl21⟩) (c21 : PySem.W.codeIn K cd21 "_law_part" = true) (k21 : PySem.W.keepIn K (.ref f21) = true)
    {f22 : Addr} {od22 an22 : Option Addr} {sl22 : Array (Option Value)} {oc22 kV22 dc22 pm22 cd22 ct22 : Value}
    (a22 : PySem.W.nsIn K mainGlobals "_law_less" = some (some (.ref f22))) (l22 : K.lookup f22 = some ⟨oc22, od22, .func (PySem.W.fnOf "_law_less" "_law_less" (defArgs sLess) (defBody sLess) (defScope sLess) .none kV22 dc22 pm22 an22 cd22 ct22), sl22⟩) (c22 : PySem.W.codeIn K cd22 "_law_less" = true) (k22 : PySem.W.keepIn K (.ref f22) = true)
    {f23 : Addr} {od23 an23 : Option Addr} {sl23 : Array (Option Value)} {oc23 kV23 dc23 pm23 cd23 ct23 : Value}
    (a23 : PySem.W.nsIn K mainGlobals "_law_two_right" = some (some (.ref f23))) (l23 : K.lookup f23 = some ⟨oc23, od23, .func (PySem.W.fnOf "_law_two_right" "_law_two_right" (defArgs sTwo) (defBody sTwo) (defScope sTwo) .none kV23 dc23 pm23 an23 cd23 ct23), sl23⟩) (c23 : PySem.W.codeIn K cd23 "_law_two_right" = true) (k23 : PySem.W.keepIn K (.ref f23) = true)
    {f24 : Addr} {od24 an24 : Option Addr} {sl24 : Array (Option Value)} {oc24 kV24 dc24 pm24 cd24 ct24 : Value}
    (a24 : PySem.W.nsIn K mainGlobals "_law_kept_right" = some (some (.ref f24))) (l24 : K.lookup f24 = some ⟨oc24, od24, .func (PySem.W.fnOf "_law_kept_right" "_law_kept_right" (defArgs sKept) (defBody sKept) (defScope sKept) .none kV24 dc24 pm24 an24 cd24 ct24), sl24⟩) (c24 : PySem.W.codeIn K cd24 "_law_kept_right" = true) (k24 : PySem.W.keepIn K (.ref f24) = true)
    {f25 : Addr} {od25 an25 : Option Addr} {sl25 : Array (Option Value)} {oc25 kV25 dc25 pm25 cd25 ct25 : Value}
    (a25 : PySem.W.nsIn K mainGlobals "_law_three_right" = some (some (.ref f25))) (l25 : K.lookup f25 = some ⟨oc25, od25, .func (PySem.W.fnOf "_law_three_right" "_law_three_right" (defArgs sThree) (defBody sThree) (defScope sThree) .none kV25 dc25 pm25 an25 cd25 ct25), sl25⟩) (c25 : PySem.W.codeIn K cd25 "_law_three_right" = true) (k25 : PySem.W.keepIn K (.ref f25) = true)
    {f26 : Addr} {od26 an26 : Option Addr} {sl26 : Array (Option Value)} {oc26 kV26 dc26 pm26 cd26 ct26 : Value}
    (a26 : PySem.W.nsIn K mainGlobals "_law_right" = some (some (.ref f26))) (l26 : K.lookup f26 = some ⟨oc26, od26, .func (PySem.W.fnOf "_law_right" "_law_right" (defArgs sRight) (defBody sRight) (defScope sRight) .none kV26 dc26 pm26 an26 cd26 ct26), sl26⟩) (c26 : PySem.W.codeIn K cd26 "_law_right" = true) (k26 : PySem.W.keepIn K (.ref f26) = true)
    {f27 : Addr} {od27 an27 : Option Addr} {sl27 : Array (Option Value)} {oc27 kV27 dc27 pm27 cd27 ct27 : Value}
    (a27 : PySem.W.nsIn K mainGlobals "law" = some (some (.ref f27))) (l27 : K.lookup f27 = some ⟨oc27, od27, .func (PySem.W.fnOf "law" "law" (defArgs sLaw) (defBody sLaw) (defScope sLaw) .none kV27 dc27 pm27 an27 cd27 ct27), sl27⟩) (c27 : PySem.W.codeIn K cd27 "law" = true) (k27 : PySem.W.keepIn K (.ref f27) = true)
    {fO : Addr} {odO : Option Addr} {slO : Array (Option Value)} {nO : Nat} {tO tO2 : Tok} {tD : Tok}
    (aO : PySem.W.nsIn K mainGlobals "ONE" = some (some (.ref fO))) (lO : K.lookup fO = some ⟨.type "tuple", odO, .seq [Value.int 1 tO, Value.int 1 tO2].toArray nO, slO⟩)
    (aD : PySem.W.nsIn K mainGlobals "DIGITS" = some (some (.str "0123456789" tD)))
    (z_isinstance : PySem.W.nsIn K mainGlobals "isinstance" = some none)
    (z_int : PySem.W.nsIn K mainGlobals "int" = some none)
    (z_bool : PySem.W.nsIn K mainGlobals "bool" = some none)
    (z_tuple : PySem.W.nsIn K mainGlobals "tuple" = some none)
    (z_str : PySem.W.nsIn K mainGlobals "str" = some none)
    (z_len : PySem.W.nsIn K mainGlobals "len" = some none)
    (z_all : PySem.W.nsIn K mainGlobals "all" = some none)
    (z_abs : PySem.W.nsIn K mainGlobals "abs" = some none)
    (z_divmod : PySem.W.nsIn K mainGlobals "divmod" = some none)
    (z_range : PySem.W.nsIn K mainGlobals "range" = some none)
    (z_max : PySem.W.nsIn K mainGlobals "max" = some none)
    (z_min : PySem.W.nsIn K mainGlobals "min" = some none)
    : ∃ fd : FuncData, (∀ (s : Shared) (v : Value), BindsTo s fd ⟨[v], []⟩ [("_law_script", v)]) ∧ ∀ base : Heap, K.In base → base.Ns mainGlobals mg → FnOk P w K mg base CX0 8 fa fd ["_law_script"] (spLaw K) := by
  have e := hfa.symm.trans (PySem.W.mg_of X G a27)
  cases e
  have T : Txt K mg := {
    whole := ⟨f0, _, fun_mk (st := sWhole) l0 c0 k0, PySem.W.mg_of X G a0⟩
    cd := ⟨f1, _, fun_mk (st := sCd) l1 c1 k1, PySem.W.mg_of X G a1⟩
    lowest := ⟨f2, _, fun_mk (st := sLowest) l2 c2 k2, PySem.W.mg_of X G a2⟩
    isF := ⟨f3, _, fun_mk (st := sIsF) l3 c3 k3, PySem.W.mg_of X G a3⟩
    chk := ⟨f4, _, fun_mk (st := sChk) l4 c4 k4, PySem.W.mg_of X G a4⟩
    times := ⟨f5, _, fun_mk (st := sTimes) l5 c5 k5, PySem.W.mg_of X G a5⟩
    over := ⟨f6, _, fun_mk (st := sOver) l6 c6 k6, PySem.W.mg_of X G a6⟩
    order := ⟨f7, _, fun_mk (st := sOrder) l7 c7 k7, PySem.W.mg_of X G a7⟩
    shown := ⟨f8, _, fun_mk (st := sShown) l8 c8 k8, PySem.W.mg_of X G a8⟩
    rdW := ⟨f9, _, fun_mk (st := sRdW) l9 c9 k9, PySem.W.mg_of X G a9⟩
    rdF := ⟨f10, _, fun_mk (st := sRdF) l10 c10 k10, PySem.W.mg_of X G a10⟩
    frac := ⟨f11, _, ⟨⟨_, _, _, _, _, _, _, _, _, _, rfl, l11, c11, .inr ⟨List.cons_ne_nil _ _, fT, _, _, _, rfl, lT, rfl, .cons ⟨_, rfl⟩ .nil⟩, .inl rfl⟩, k11⟩, PySem.W.mg_of X G a11⟩
    prod := ⟨f12, _, fun_mk (st := sProd) l12 c12 k12, PySem.W.mg_of X G a12⟩
    quot := ⟨f13, _, fun_mk (st := sQuot) l13 c13 k13, PySem.W.mg_of X G a13⟩
    cmp := ⟨f14, _, fun_mk (st := sCmp) l14 c14 k14, PySem.W.mg_of X G a14⟩
    fmt := ⟨f15, _, fun_mk (st := sFmt) l15 c15 k15, PySem.W.mg_of X G a15⟩
    prs := ⟨f16, _, fun_mk (st := sPrs) l16 c16 k16, PySem.W.mg_of X G a16⟩
    cell := ⟨f17, _, fun_mk (st := sCell) l17 c17 k17, PySem.W.mg_of X G a17⟩
    pool := ⟨f18, _, fun_mk (st := sPool) l18 c18 k18, PySem.W.mg_of X G a18⟩
    draw := ⟨f19, _, fun_mk (st := sDraw) l19 c19 k19, PySem.W.mg_of X G a19⟩
    low := ⟨f20, _, fun_mk (st := sLow) l20 c20 k20, PySem.W.mg_of X G a20⟩
    part := ⟨f21, _, fun_mk (st := sPart) l21 c21 k21, PySem.W.mg_of X G a21⟩
    less := ⟨f22, _, fun_mk (st := sLess) l22 c22 k22, PySem.W.mg_of X G a22⟩
    two := ⟨f23, _, fun_mk (st := sTwo) l23 c23 k23, PySem.W.mg_of X G a23⟩
    kept := ⟨f24, _, fun_mk (st := sKept) l24 c24 k24, PySem.W.mg_of X G a24⟩
    three := ⟨f25, _, fun_mk (st := sThree) l25 c25 k25, PySem.W.mg_of X G a25⟩
    right := ⟨f26, _, fun_mk (st := sRight) l26 c26 k26, PySem.W.mg_of X G a26⟩
    one := ⟨fO, PySem.W.mg_of X G aO, fun H => .inr ⟨_, _, nO, lO, rfl, rfl, (by show 2 ≤ sizeLine; decide), .cons ⟨_, rfl⟩ (.cons ⟨_, rfl⟩ .nil)⟩⟩
    digits := ⟨tD, PySem.W.mg_of X G aD⟩
    isinstance := PySem.W.mg_none_of X G z_isinstance
    int := PySem.W.mg_none_of X G z_int
    bool := PySem.W.mg_none_of X G z_bool
    tuple := PySem.W.mg_none_of X G z_tuple
    str := PySem.W.mg_none_of X G z_str
    len := PySem.W.mg_none_of X G z_len
    all := PySem.W.mg_none_of X G z_all
    abs := PySem.W.mg_none_of X G z_abs
    divmod := PySem.W.mg_none_of X G z_divmod
    range := PySem.W.mg_none_of X G z_range
    max := PySem.W.mg_none_of X G z_max
    min := PySem.W.mg_none_of X G z_min
  }
  have F := fun_mk (st := sLaw) l27 c27 k27
  exact ⟨_, law_binds F, fun base _ _ => ok_law T F⟩
end Sz

open PySem PySem.W PyProof.Rows in
set_option maxRecDepth 100000 in
set_option maxHeartbeats 0 in
theorem PySem.Challenge.cw_sizechains_k07_whole_rules_of_exact_holds : PySem.Challenge.rw_sizechains_k07_whole_rules_of_exact.Holds := by
  w_on; o_law; k_head; (case hw => w_witness2)
  k_fill
  refine L2.walk_ofK (l := PySem.Challenge.rw_sizechains_k07_whole_rules_of_exact) (n := 63) (k := 8) (x := "_law_script") (CX := L2.CX0) (sp := Sz.spLaw) rfl (by decide) rfl ⟨rfl, by decide, by decide⟩ (fun w h Y => PySem.W.kIn_of Y) ?F ?S (fun _ _ _ _ z => z)
  case F =>
    intro w mg fa h KX G hmg
    refine' Sz.all_mk KX G hmg ?a0 ?l0 ?c0 ?k0 ?a1 ?l1 ?c1 ?k1 ?a2 ?l2 ?c2 ?k2 ?a3 ?l3 ?c3 ?k3 ?a4 ?l4 ?c4 ?k4 ?a5 ?l5 ?c5 ?k5 ?a6 ?l6 ?c6 ?k6 ?a7 ?l7 ?c7 ?k7 ?a8 ?l8 ?c8 ?k8 ?a9 ?l9 ?c9 ?k9 ?a10 ?l10 ?c10 ?k10 ?a11 ?l11 ?c11 ?k11 ?lT ?a12 ?l12 ?c12 ?k12 ?a13 ?l13 ?c13 ?k13 ?a14 ?l14 ?c14 ?k14 ?a15 ?l15 ?c15 ?k15 ?a16 ?l16 ?c16 ?k16 ?a17 ?l17 ?c17 ?k17 ?a18 ?l18 ?c18 ?k18 ?a19 ?l19 ?c19 ?k19 ?a20 ?l20 ?c20 ?k20 ?a21 ?l21 ?c21 ?k21 ?a22 ?l22 ?c22 ?k22 ?a23 ?l23 ?c23 ?k23 ?a24 ?l24 ?c24 ?k24 ?a25 ?l25 ?c25 ?k25 ?a26 ?l26 ?c26 ?k26 ?a27 ?l27 ?c27 ?k27 ?aO ?lO ?aD ?z_isinstance ?z_int ?z_bool ?z_tuple ?z_str ?z_len ?z_all ?z_abs ?z_divmod ?z_range ?z_max ?z_min
    (case a0 => k_is)
    (case l0 => k_is)
    (case c0 => k_is)
    (case k0 => k_is)
    (case a1 => k_is)
    (case l1 => k_is)
    (case c1 => k_is)
    (case k1 => k_is)
    (case a2 => k_is)
    (case l2 => k_is)
    (case c2 => k_is)
    (case k2 => k_is)
    (case a3 => k_is)
    (case l3 => k_is)
    (case c3 => k_is)
    (case k3 => k_is)
    (case a4 => k_is)
    (case l4 => k_is)
    (case c4 => k_is)
    (case k4 => k_is)
    (case a5 => k_is)
    (case l5 => k_is)
    (case c5 => k_is)
    (case k5 => k_is)
    (case a6 => k_is)
    (case l6 => k_is)
    (case c6 => k_is)
    (case k6 => k_is)
    (case a7 => k_is)
    (case l7 => k_is)
    (case c7 => k_is)
    (case k7 => k_is)
    (case a8 => k_is)
    (case l8 => k_is)
    (case c8 => k_is)
    (case k8 => k_is)
    (case a9 => k_is)
    (case l9 => k_is)
    (case c9 => k_is)
    (case k9 => k_is)
    (case a10 => k_is)
    (case l10 => k_is)
    (case c10 => k_is)
    (case k10 => k_is)
    (case a11 => k_is)
    (case l11 => k_is)
    (case c11 => k_is)
    (case k11 => k_is)
    (case lT => k_is)
    (case a12 => k_is)
    (case l12 => k_is)
    (case c12 => k_is)
    (case k12 => k_is)
    (case a13 => k_is)
    (case l13 => k_is)
    (case c13 => k_is)
    (case k13 => k_is)
    (case a14 => k_is)
    (case l14 => k_is)
    (case c14 => k_is)
    (case k14 => k_is)
    (case a15 => k_is)
    (case l15 => k_is)
    (case c15 => k_is)
    (case k15 => k_is)
    (case a16 => k_is)
    (case l16 => k_is)
    (case c16 => k_is)
    (case k16 => k_is)
    (case a17 => k_is)
    (case l17 => k_is)
    (case c17 => k_is)
    (case k17 => k_is)
    (case a18 => k_is)
    (case l18 => k_is)
    (case c18 => k_is)
    (case k18 => k_is)
    (case a19 => k_is)
    (case l19 => k_is)
    (case c19 => k_is)
    (case k19 => k_is)
    (case a20 => k_is)
    (case l20 => k_is)
    (case c20 => k_is)
    (case k20 => k_is)
    (case a21 => k_is)
    (case l21 => k_is)
    (case c21 => k_is)
    (case k21 => k_is)
    (case a22 => k_is)
    (case l22 => k_is)
    (case c22 => k_is)
    (case k22 => k_is)
    (case a23 => k_is)
    (case l23 => k_is)
    (case c23 => k_is)
    (case k23 => k_is)
    (case a24 => k_is)
    (case l24 => k_is)
    (case c24 => k_is)
    (case k24 => k_is)
    (case a25 => k_is)
    (case l25 => k_is)
    (case c25 => k_is)
    (case k25 => k_is)
    (case a26 => k_is)
    (case l26 => k_is)
    (case c26 => k_is)
    (case k26 => k_is)
    (case a27 => k_is)
    (case l27 => k_is)
    (case c27 => k_is)
    (case k27 => k_is)
    (case aO => k_is)
    (case lO => k_is)
    (case aD => k_is)
    (case z_isinstance => k_is)
    (case z_int => k_is)
    (case z_bool => k_is)
    (case z_tuple => k_is)
    (case z_str => k_is)
    (case z_len => k_is)
    (case z_all => k_is)
    (case z_abs => k_is)
    (case z_divmod => k_is)
    (case z_range => k_is)
    (case z_max => k_is)
    (case z_min => k_is)
  case S =>
    intro K H a ns hl _ hS
    exact ⟨a, ns, rfl, hS, hl, fun _ => rfl⟩
