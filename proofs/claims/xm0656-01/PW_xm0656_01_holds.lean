import PyProof.Rows.All
import Wide.All
import OpenK.AllK
import Wide.FinOn
import PySem.Challenge.RW_xm0656_01
set_option Elab.async false
section
open PySem PySem.W PyProof.Rows
namespace Mine
set_option maxRecDepth 100000 in
set_option maxHeartbeats 8000000 in
open_top hd for PySem.Challenge.rw_xm0656_01
end Mine
end
section
open PySem PySem.W PyProof.Rows
namespace Mine

/-- the absolute value, as an int -/
def absI (x : Int) : Int := (x.natAbs : Int)
def sgn (x : Int) : Int := if 0 < x then 1 else if x < 0 then -1 else 0
theorem pos_of_mul {p a b : Int} (e : p = a * b) (ha : 0 < a) (hb : 0 < b) : 0 < p := e ▸ Int.mul_pos ha hb
theorem nonneg_of_mul {p a b : Int} (e : p = a * b) (ha : 0 ≤ a) (hb : 0 ≤ b) : 0 ≤ p := e ▸ Int.mul_nonneg ha hb
theorem nez_of_mul {p a b : Int} (e : p = a * b) (ha : a ≠ 0) (hb : b ≠ 0) : p ≠ 0 := e ▸ Int.mul_ne_zero ha hb
theorem pos_of_abs {g x : Int} (e : g = absI x) (h : x ≠ 0) : 0 < g := by subst e; unfold absI; omega
theorem sgn_lo (x : Int) : -1 ≤ sgn x := by unfold sgn; split <;> (try split) <;> omega
theorem sgn_hi (x : Int) : sgn x ≤ 1 := by unfold sgn; split <;> (try split) <;> omega
section
variable {prog : Program} {w : World} {A : Around} {E : Value → Shared → Prop} {s : Shared} {a b : Int} {t u : Tok} {Q : Value → Shared → Prop}
theorem bits_of {x : Int} (h : x.natAbs < 2 ^ 200) : Builtin.Int.intBits x ≤ 200 := intBits_le_iff.mpr h
theorem lit200 : (2 : Nat) ^ 200 = 1606938044258990275541962092341162602522202993782792835301376 := by decide +kernel
theorem np200 {x y : Int} (h : y.natAbs < 1606938044258990275541962092341162602522202993782792835301376) : Builtin.divisionGoesByPylong x y = false := by
  refine PyProof.noPylong_of_log2 ?_
  by_cases h0 : y.natAbs = 0
  · rw [h0]; decide +kernel
  · have : y.natAbs.log2 < 200 := (Nat.log2_lt h0).mpr (by rw [lit200]; exact h)
    omega
theorem ok_short {a b : Int} (h : Builtin.Int.intBits a ≤ 2000) (h' : Builtin.Int.intBits b ≤ 2000) : IntMulOk a b := by
  unfold IntMulOk
  intro c
  simp only [Bool.and_eq_true, decide_eq_true_eq, Builtin.Int.intTooBig] at c
  have e : ((PySem.bitsLine : Nat) : Int) = 134217728 := by decide
  omega
theorem mod_nm (hb : 0 < b) (h : ∀ r, r = a.fmod b → 0 ≤ r → r < b → Q (.int r s.toks) { s with toks := s.toks + 1 }) : wpAny (model prog w) A (binaryOp .Mod (.int a t) (.int b u)) Q E s :=
  mod_int' (by omega) (h _ rfl (Int.fmod_nonneg_of_pos _ hb) (Int.fmod_lt_of_pos _ hb))
theorem div_nm (hb : 0 < b) (hbb : b < 1606938044258990275541962092341162602522202993782792835301376) (h : ∀ q, q = a.fdiv b → Q (.int q s.toks) { s with toks := s.toks + 1 }) : wpAny (model prog w) A (binaryOp .FloorDiv (.int a t) (.int b u)) Q E s :=
  floordiv_int (by omega) (h _ rfl) (Or.inl (np200 (by omega)))
theorem div_nn (hb : 0 < b) (hbb : b < 1606938044258990275541962092341162602522202993782792835301376) (ha : 0 ≤ a) (h : ∀ q, q = a.fdiv b → 0 ≤ q → q ≤ a → Q (.int q s.toks) { s with toks := s.toks + 1 }) : wpAny (model prog w) A (binaryOp .FloorDiv (.int a t) (.int b u)) Q E s :=
  div_nm hb hbb fun q e => h q e (e ▸ Int.fdiv_nonneg ha (by omega)) (by rw [e, Int.fdiv_eq_ediv_of_nonneg _ (by omega)]; exact Int.ediv_le_self _ ha)
theorem mul_nm {X Y Z : Int} (ha : -X ≤ a) (ha' : a ≤ X) (hb : -Y ≤ b) (hb' : b ≤ Y) (hX : X < 2 ^ 200) (hY : Y < 2 ^ 200) (hz : X * Y ≤ Z) (h : ∀ p, p = a * b → -Z ≤ p → p ≤ Z → Q (.int p s.toks) { s with toks := s.toks + 1 }) : wpAny (model prog w) A (binaryOp .Mult (.int a t) (.int b u)) Q E s := by
  have e : ((2 : Int) ^ 200) = ((2 ^ 200 : Nat) : Int) := by decide +kernel
  rw [e] at hX hY
  have h1 : a.natAbs ≤ X.toNat := by omega
  have h2 : b.natAbs ≤ Y.toNat := by omega
  have h3 : (a * b).natAbs ≤ X.toNat * Y.toNat := by rw [Int.natAbs_mul]; exact Nat.mul_le_mul h1 h2
  have h4 : ((X.toNat * Y.toNat : Nat) : Int) = X * Y := by rw [Int.natCast_mul, Int.toNat_of_nonneg (by omega), Int.toNat_of_nonneg (by omega)]
  have h5 : ((a * b).natAbs : Int) ≤ Z := by omega
  exact mul_int (h _ rfl (by omega) (by omega)) (ok_short (Nat.le_trans (bits_of (by omega)) (by decide)) (Nat.le_trans (bits_of (by omega)) (by decide)))
theorem mul_lit (ha : a.natAbs < 2 ^ 2000) (hb : -1329227995784915872903807060280344576 ≤ b) (hb' : b ≤ 1329227995784915872903807060280344576) (h : ∀ p, p = a * b → Q (.int p s.toks) { s with toks := s.toks + 1 }) : wpAny (model prog w) A (binaryOp .Mult (.int a t) (.int b u)) Q E s :=
  mul_int (h _ rfl) (ok_short (intBits_le_iff.mpr ha) (Nat.le_trans (bits_of (by rw [lit200]; omega)) (by decide)))
theorem abs_nm {X : Int} (ha : -X ≤ a) (ha' : a ≤ X) (h : ∀ g v tk, g = absI a → 0 ≤ g → g ≤ X → Q (.int g v) { s with toks := tk }) : wpAny (model prog w) A (call (.builtin "abs") [.int a t]) Q E s :=
  call_abs_int fun u tk => h _ u tk (by unfold absI; split <;> omega) (by split <;> omega) (by split <;> omega)
end
section
variable {prog : Program} {w : World} {A : Around} {E : Value → Shared → Prop} {s : Shared} {h₀ : Heap} {L D : Addr} {news : List (Addr × Obj)} {v0 v1 : Value} {value slice : PySem.Expr} {u : Tok} {Q : Value → Shared → Prop}
theorem tupAt {k : Int} {v : Value} (N : News h₀ L s.heap news) (hm : (D, ({ cls := .type "tuple", data := .seq #[v0, v1] } : Obj)) ∈ news) (h0 : -(2 ^ 63 : Int) ≤ k) (h1 : k < 2 ^ 63) (hj : seqIndex? k 2 = some k.toNat) (hx : [v0, v1][k.toNat]? = some v) (h : Q v s)
    (hs : subscripted slice false (.ref D) (.int k u) = operate [.ref D, .int k u] (getItem (.ref D) (.int k u)) := by with_unfolding_all rfl) : wpAny (model prog w) A (subscriptTail value slice (.ref D) (.int k u)) Q E s :=
  item_tupleT (l := [v0, v1]) (News.isTup N hm) h0 h1 hj hx h hs
end
/-- the lowest terms of p over q -/
def lowN (p q : Int) : Int := p.fdiv (Int.gcd p q)
def lowD (p q : Int) : Int := q.fdiv (Int.gcd p q)
theorem gcd_pos' {p q : Int} (h : 0 < q) : 0 < (Int.gcd p q : Int) := by
  have : 0 < Int.gcd p q := Int.gcd_pos_iff.mpr (Or.inr (by omega))
  omega
theorem gcd_le' {p q : Int} (h : 0 < q) : (Int.gcd p q : Int) ≤ q := Int.le_of_dvd h (Int.gcd_dvd_right ..)
theorem lowD_pos {p q : Int} (h : 0 < q) : 0 < lowD p q := by
  unfold lowD
  rw [Int.fdiv_eq_ediv_of_nonneg _ (by have := gcd_pos' (p := p) h; omega)]
  exact Int.ediv_pos_of_pos_of_dvd h (by have := gcd_pos' (p := p) h; omega) (Int.gcd_dvd_right ..)
theorem lowD_le {p q : Int} (h : 0 < q) : lowD p q ≤ q := by
  unfold lowD
  have := gcd_pos' (p := p) h
  rw [Int.fdiv_eq_ediv_of_nonneg _ (by omega)]
  exact Int.ediv_le_self _ (by omega)
theorem lowN_le {p q : Int} (h : 0 < q) : (lowN p q).natAbs ≤ p.natAbs := by
  unfold lowN
  have := gcd_pos' (p := p) h
  rw [Int.fdiv_eq_ediv_of_nonneg _ (by omega)]
  rw [Int.natAbs_ediv_of_dvd (Int.gcd_dvd_left ..)]
  exact Nat.div_le_self _ _
theorem gcd_abs (x y : Int) : Int.gcd (absI x) y = Int.gcd x y := by unfold absI; simp [Int.gcd]
theorem gcd_start {g : Int} {x y : Int} {B : Int} (hg : g = absI x) (h0 : 0 ≤ g) (hx : g ≤ B) (hy : 0 < y) (hB : y ≤ B) : 0 ≤ g ∧ 0 ≤ y ∧ g ≤ B ∧ y ≤ B ∧ (0 < g ∨ 0 < y) ∧ Int.gcd g y = Int.gcd x y := by
  refine ⟨h0, by omega, hx, hB, Or.inr hy, ?_⟩
  rw [hg, gcd_abs]
theorem gcd_turn {f g B : Int} {n : Nat} {r : Int} (hr : r = Int.fmod f g) (h1 : 0 ≤ f) (h2 : 0 ≤ g) (h4 : g ≤ B) (h3 : Int.gcd f g = n) (hg : 0 < g) : 0 ≤ g ∧ 0 ≤ r ∧ g ≤ B ∧ r ≤ B ∧ (0 < g ∨ 0 < r) ∧ Int.gcd g r = n := by
  subst hr
  have hlt := Int.fmod_lt_of_pos f hg
  refine ⟨h2, Int.fmod_nonneg h1 h2, h4, by omega, Or.inl hg, ?_⟩
  obtain ⟨p, rfl⟩ := Int.eq_ofNat_of_zero_le h1
  obtain ⟨q, rfl⟩ := Int.eq_ofNat_of_zero_le h2
  rw [Int.fmod_eq_emod_of_nonneg _ h2, ← h3, ← Int.natCast_emod, Int.gcd_natCast_natCast, Int.gcd_natCast_natCast, Nat.gcd_comm p q, Nat.gcd_rec q p, Nat.gcd_comm]
theorem gcd_less {f g r : Int} (hr : r = Int.fmod f g) (hg : 0 < g) : r.toNat < g.toNat := by
  subst hr
  have := Int.fmod_lt_of_pos f hg
  omega
theorem gcd_done {f g : Int} {n : Nat} (h3 : Int.gcd f g = n) (h1 : 0 ≤ f) (h2 : 0 ≤ g) (hg : ¬ 0 < g) : f = n := by
  have : g = 0 := by omega
  subst this
  rw [← h3]; simp; omega
theorem low_1 {f g x y X : Int} (hX : X = x.fdiv f) (h3 : Int.gcd f g = Int.gcd x y) (h1 : 0 ≤ f) (h2 : 0 ≤ g) (hg : ¬ 0 < g) : X = lowN x y := by
  rw [hX, gcd_done h3 h1 h2 hg]; rfl
theorem low_2 {f g x y Y : Int} (hY : Y = y.fdiv f) (h3 : Int.gcd f g = Int.gcd x y) (h1 : 0 ≤ f) (h2 : 0 ≤ g) (hg : ¬ 0 < g) : Y = lowD x y := by
  rw [hY, gcd_done h3 h1 h2 hg]; rfl
theorem lowN_lo {p q B : Int} (h : 0 < q) (hp : -B ≤ p) (hp' : p ≤ B) : -B ≤ lowN p q := by
  have := lowN_le (p := p) h; omega
theorem lowN_hi {p q B : Int} (h : 0 < q) (hp : -B ≤ p) (hp' : p ≤ B) : lowN p q ≤ B := by
  have := lowN_le (p := p) h; omega
theorem lit2000 : (10 : Nat) ^ 400 < 2 ^ 2000 := by decide +kernel
theorem nof_1 {p q g X x y : Int} (hX : X = p.fdiv g) (hg : g = (Int.gcd p q : Int)) (hp : p = if y < 0 then -x else x) (hq : q = absI y) : X = lowN (if y < 0 then -x else x) (absI y) := by
  rw [← hp, ← hq, hX, hg]; rfl
theorem nof_2 {p q g Y x y : Int} (hY : Y = q.fdiv g) (hg : g = (Int.gcd p q : Int)) (hp : p = if y < 0 then -x else x) (hq : q = absI y) : Y = lowD (if y < 0 then -x else x) (absI y) := by
  rw [← hp, ← hq, hY, hg]; rfl
theorem absI_neg {y : Int} (h : y < 0) : -y = absI y := by unfold absI; omega
theorem absI_pos {y : Int} (h : 0 ≤ y) : y = absI y := by unfold absI; omega
def sumQ (x y u v : Int) : Int × Int :=
  if 0 < y ∧ 0 < v then (lowN (x * v + u * y) (y * v), lowD (x * v + u * y) (y * v))
  else if 0 < v then (sgn x, 0)
  else if 0 < y then (sgn u, 0)
  else if sgn x = sgn u then (sgn x, 0) else (0, 0)
def mulQ (x y u v : Int) : Int × Int :=
  if 0 < y ∧ 0 < v then (lowN (x * u) (y * v), lowD (x * u) (y * v)) else (sgn x * sgn u, 0)
def divQ (x y u v : Int) : Int × Int :=
  if y = 0 then (if v = 0 then (0, 0) else (sgn x * (if u < 0 then -1 else 1), 0))
  else if v = 0 then (0, 1)
  else if u = 0 then (sgn x, 0)
  else (lowN (x * v * sgn u) (y * absI u), lowD (x * v * sgn u) (y * absI u))
def restQ (x y u v : Int) : Int := sgn x * ((absI x * v).fmod (y * absI u))
def modQ (x y u v : Int) : Int × Int :=
  if y = 0 ∨ (u = 0 ∧ 0 < v) then (0, 0)
  else if v = 0 then (x, y)
  else (lowN (restQ x y u v) (y * v), lowD (restQ x y u v) (y * v))
def nanOr (x y u v : Int) (r : Int × Int) : Int × Int := if (x = 0 ∧ y = 0) ∨ (u = 0 ∧ v = 0) then (0, 0) else r
def NumF (x y : Int) : Prop := (-549755813888 ≤ x ∧ x ≤ 549755813888) ∧ (0 ≤ y ∧ y ≤ 2147483648) ∧ (y = 0 → -1 ≤ x ∧ x ≤ 1)
def Told (x y : Int) : Prop := ¬ (x = 0 ∧ y = 0)
theorem numF_neg {u v : Int} (h : NumF u v) : NumF (-u) v := ⟨⟨by have := h.1.2; omega, by have := h.1.1; omega⟩, h.2.1, fun e => ⟨by have := (h.2.2 e).2; omega, by have := (h.2.2 e).1; omega⟩⟩
theorem numF_sub {u v : Int} (h : NumF u v) : NumF (0 - u) v := by rw [Int.zero_sub]; exact numF_neg h
theorem told_neg {u v : Int} (h : Told u v) : Told (-u) v := fun c => h ⟨by have := c.1; omega, c.2⟩
theorem told_sub {u v : Int} (h : Told u v) : Told (0 - u) v := by rw [Int.zero_sub]; exact told_neg h
/-- a value that is told: a pair of the ledger, or one of the top's two -/
def R3 (news : List (Addr × Obj)) (v : Value) (X Y : Int) : Prop :=
  (∃ (D : Addr) (t1 t2 : Tok), v = .ref D ∧ (D, ({ cls := .type "tuple", data := .seq #[.int X t1, .int Y t2] } : Obj)) ∈ news) ∨ (v = .ref 47 ∧ X = 0 ∧ Y = 0) ∨ (v = .ref 48 ∧ X = 0 ∧ Y = 1)
theorem R3.of {news : List (Addr × Obj)} {D : Addr} {X Y : Int} {t1 t2 : Tok} (h : (D, ({ cls := .type "tuple", data := .seq #[.int X t1, .int Y t2] } : Obj)) ∈ news) : R3 news (.ref D) X Y := Or.inl ⟨D, t1, t2, rfl, h⟩
theorem R3.nan {news : List (Addr × Obj)} {X Y : Int} (h : X = 0) (h' : Y = 0) : R3 news (.ref 47) X Y := Or.inr (Or.inl ⟨rfl, h, h'⟩)
theorem R3.zero {news : List (Addr × Obj)} {X Y : Int} (h : X = 0) (h' : Y = 1) : R3 news (.ref 48) X Y := Or.inr (Or.inr ⟨rfl, h, h'⟩)
theorem nanT {x y : Int} (h : (if y = 0 then x == 0 else y == 0) = true) : x = 0 ∧ y = 0 := by
  by_cases hy : y = 0
  · rw [if_pos hy] at h; exact ⟨by simpa using h, hy⟩
  · rw [if_neg hy] at h; simp [hy] at h
theorem nanF {x y : Int} (h : (if y = 0 then x == 0 else y == 0) = false) : Told x y := by
  by_cases hy : y = 0
  · rw [if_pos hy] at h; intro c; simp [c.1] at h
  · exact fun c => hy c.2
theorem nof_eq {p q : Int} (h : 0 < q) : lowN (if q < 0 then -p else p) (absI q) = lowN p q ∧ lowD (if q < 0 then -p else p) (absI q) = lowD p q := by
  rw [if_neg (by omega), ← absI_pos (by omega)]; exact ⟨rfl, rfl⟩
theorem sgn_mul_pos {x v : Int} (hv : 0 < v) : sgn (x * v) = sgn x := by
  unfold sgn
  rcases Int.lt_trichotomy x 0 with h | h | h
  · have := Int.mul_neg_of_neg_of_pos h hv
    rw [if_neg (by omega), if_pos this, if_neg (by omega), if_pos h]
  · subst h; simp
  · have := Int.mul_pos h hv
    rw [if_pos this, if_pos h]
theorem absI_mul (a b : Int) : absI (a * b) = absI a * absI b := by unfold absI; rw [Int.natAbs_mul, Int.natCast_mul]
section
variable {x y u v p1 p2 p3 q X Y g g1 g2 r : Int}
theorem div_arg (e1 : p1 = x * v) (e2 : p2 = y * u) (hy : 0 < y) (hu : u ≠ 0) : (if p2 < 0 then -p1 else p1) = x * v * sgn u ∧ absI p2 = y * absI u := by
  subst e1 e2
  refine ⟨?_, by rw [absI_mul, ← absI_pos (y := y) (by omega)]⟩
  unfold sgn
  rcases Int.lt_or_gt_of_ne hu with h | h
  · have := Int.mul_neg_of_pos_of_neg hy h
    rw [if_pos this, if_neg (by omega), if_pos h]; omega
  · have := Int.mul_pos hy h
    rw [if_neg (by omega), if_pos h, Int.mul_one]
theorem mod_arg {q1 q2 : Int} (e : p3 = g1 * r) (hr : r = Int.fmod q1 q2) (h1 : q1 = absI p1) (h2 : q2 = absI p2) (hg : g1 = sgn p1) (e1 : p1 = x * v) (e2 : p2 = u * y) (hy : 0 < y) (hv : 0 < v) : p3 = restQ x y u v := by
  rw [e, hg, hr, h1, h2, e1, e2, sgn_mul_pos hv, restQ, absI_mul, absI_mul, ← absI_pos (y := v) (by omega), ← absI_pos (y := y) (by omega), Int.mul_comm (absI u) y]
theorem nanOr_told {r : Int × Int} (m1 : Told x y) (m2 : Told u v) : nanOr x y u v r = r := by
  unfold Told at m1 m2
  rw [nanOr, if_neg (by omega)]
theorem nan_l {r : Int × Int} (h : (if y = 0 then x == 0 else y == 0) = true) : 0 = (nanOr x y u v r).1 ∧ 0 = (nanOr x y u v r).2 := by
  rw [nanOr, if_pos (Or.inl (nanT h))]; exact ⟨rfl, rfl⟩
theorem nan_r {r : Int × Int} (h : (if v = 0 then u == 0 else v == 0) = true) : 0 = (nanOr x y u v r).1 ∧ 0 = (nanOr x y u v r).2 := by
  rw [nanOr, if_pos (Or.inr (nanT h))]; exact ⟨rfl, rfl⟩
theorem pE0 (hy : 0 < y) (hv : 0 < v) (e1 : p1 = x * v) (e2 : p2 = u * y) (e3 : p3 = y * v) (eX : X = lowN (p1 + p2) p3) (eY : Y = lowD (p1 + p2) p3) : X = (sumQ x y u v).1 ∧ Y = (sumQ x y u v).2 := by
  rw [eX, eY, sumQ, if_pos ⟨hy, hv⟩, e1, e2, e3]; exact ⟨rfl, rfl⟩
theorem tE0 (hy : 0 < y) (hv : 0 < v) (e1 : p1 = x * u) (e3 : p3 = y * v) (eX : X = lowN p1 p3) (eY : Y = lowD p1 p3) : X = (mulQ x y u v).1 ∧ Y = (mulQ x y u v).2 := by
  rw [eX, eY, mulQ, if_pos ⟨hy, hv⟩, e1, e3]; exact ⟨rfl, rfl⟩
theorem tA0 (h : ¬ (0 < y ∧ 0 < v)) (e : g = g1 * g2) (e1 : g1 = sgn x) (e2 : g2 = sgn u) : g = (mulQ x y u v).1 ∧ 0 = (mulQ x y u v).2 := by
  rw [e, e1, e2, mulQ, if_neg h]; exact ⟨rfl, rfl⟩
theorem dE0 (hy : 0 < y) (hv : v ≠ 0) (hu : u ≠ 0) (eX : X = lowN (x * v * sgn u) (y * absI u)) (eY : Y = lowD (x * v * sgn u) (y * absI u)) : X = (divQ x y u v).1 ∧ Y = (divQ x y u v).2 := by
  rw [eX, eY, divQ, if_neg (by omega), if_neg hv, if_neg hu]; exact ⟨rfl, rfl⟩
theorem mE0 (hy : 0 < y) (hv : 0 < v) (hu : u ≠ 0) (e : p3 = restQ x y u v) (eq : q = y * v) (eX : X = lowN p3 q) (eY : Y = lowD p3 q) : X = (modQ x y u v).1 ∧ Y = (modQ x y u v).2 := by
  rw [eX, eY, modQ, if_neg (by omega), if_neg (by omega), e, eq]; exact ⟨rfl, rfl⟩
theorem pA (N1 : NumF x y) (N2 : NumF u v) (n1 : (if y = 0 then x == 0 else y == 0) = false) (n2 : (if v = 0 then u == 0 else v == 0) = false) (hy : y = 0) (hv : v = 0) (hxu : x = u) : x = (nanOr x y u v (sumQ x y u v)).1 ∧ y = (nanOr x y u v (sumQ x y u v)).2 := by
  have m1 := nanF n1
  have m2 := nanF n2
  unfold Told at m1 m2
  obtain ⟨a1, a2, a4⟩ := N1
  obtain ⟨b1, b2, b4⟩ := N2
  rw [nanOr, if_neg (by omega)]
  unfold sumQ sgn
  constructor <;> (repeat' split) <;> first | rfl | omega | (dsimp only; omega)
theorem pB (N1 : NumF x y) (N2 : NumF u v) (n1 : (if y = 0 then x == 0 else y == 0) = false) (n2 : (if v = 0 then u == 0 else v == 0) = false) (hy : y = 0) (hv : v = 0) (hxu : x ≠ u) : 0 = (nanOr x y u v (sumQ x y u v)).1 ∧ 0 = (nanOr x y u v (sumQ x y u v)).2 := by
  have m1 := nanF n1
  have m2 := nanF n2
  unfold Told at m1 m2
  obtain ⟨a1, a2, a4⟩ := N1
  obtain ⟨b1, b2, b4⟩ := N2
  rw [nanOr, if_neg (by omega)]
  unfold sumQ sgn
  constructor <;> (repeat' split) <;> first | rfl | omega | (dsimp only; omega)
theorem pC (N1 : NumF x y) (N2 : NumF u v) (n1 : (if y = 0 then x == 0 else y == 0) = false) (n2 : (if v = 0 then u == 0 else v == 0) = false) (hy : y = 0) (hv : v ≠ 0) : x = (nanOr x y u v (sumQ x y u v)).1 ∧ y = (nanOr x y u v (sumQ x y u v)).2 := by
  have m1 := nanF n1
  have m2 := nanF n2
  unfold Told at m1 m2
  obtain ⟨a1, a2, a4⟩ := N1
  obtain ⟨b1, b2, b4⟩ := N2
  rw [nanOr, if_neg (by omega)]
  unfold sumQ sgn
  constructor <;> (repeat' split) <;> first | rfl | omega | (dsimp only; omega)
theorem pD (N1 : NumF x y) (N2 : NumF u v) (n1 : (if y = 0 then x == 0 else y == 0) = false) (n2 : (if v = 0 then u == 0 else v == 0) = false) (hy : y ≠ 0) (hv : v = 0) : u = (nanOr x y u v (sumQ x y u v)).1 ∧ v = (nanOr x y u v (sumQ x y u v)).2 := by
  have m1 := nanF n1
  have m2 := nanF n2
  unfold Told at m1 m2
  obtain ⟨a1, a2, a4⟩ := N1
  obtain ⟨b1, b2, b4⟩ := N2
  rw [nanOr, if_neg (by omega)]
  unfold sumQ sgn
  constructor <;> (repeat' split) <;> first | rfl | omega | (dsimp only; omega)
theorem pE (N1 : NumF x y) (N2 : NumF u v) (n1 : (if y = 0 then x == 0 else y == 0) = false) (n2 : (if v = 0 then u == 0 else v == 0) = false) (hy : y ≠ 0) (hv : v ≠ 0) (e1 : p1 = x * v) (e2 : p2 = u * y) (e3 : p3 = y * v) (eX : X = lowN (if p3 < 0 then -(p1 + p2) else p1 + p2) (absI p3)) (eY : Y = lowD (if p3 < 0 then -(p1 + p2) else p1 + p2) (absI p3)) : X = (nanOr x y u v (sumQ x y u v)).1 ∧ Y = (nanOr x y u v (sumQ x y u v)).2 := by
  have a : 0 < y := by have := N1.2.1.1; omega
  have b : 0 < v := by have := N2.2.1.1; omega
  have h3 := nof_eq (p := p1 + p2) (pos_of_mul e3 a b)
  rw [nanOr_told (nanF n1) (nanF n2)]
  exact pE0 a b e1 e2 e3 (eX.trans h3.1) (eY.trans h3.2)
theorem tA (n1 : (if y = 0 then x == 0 else y == 0) = false) (n2 : (if v = 0 then u == 0 else v == 0) = false) (hy : y = 0) (e : g = g1 * g2) (e1 : g1 = sgn x) (e2 : g2 = sgn u) : g = (nanOr x y u v (mulQ x y u v)).1 ∧ 0 = (nanOr x y u v (mulQ x y u v)).2 := by
  rw [nanOr_told (nanF n1) (nanF n2)]; exact tA0 (by omega) e e1 e2
theorem tB (n1 : (if y = 0 then x == 0 else y == 0) = false) (n2 : (if v = 0 then u == 0 else v == 0) = false) (hv : v = 0) (e : g = g1 * g2) (e1 : g1 = sgn x) (e2 : g2 = sgn u) : g = (nanOr x y u v (mulQ x y u v)).1 ∧ 0 = (nanOr x y u v (mulQ x y u v)).2 := by
  rw [nanOr_told (nanF n1) (nanF n2)]; exact tA0 (by omega) e e1 e2
theorem tE (N1 : NumF x y) (N2 : NumF u v) (n1 : (if y = 0 then x == 0 else y == 0) = false) (n2 : (if v = 0 then u == 0 else v == 0) = false) (hy : y ≠ 0) (hv : v ≠ 0) (e1 : p1 = x * u) (e3 : p3 = y * v) (eX : X = lowN (if p3 < 0 then -p1 else p1) (absI p3)) (eY : Y = lowD (if p3 < 0 then -p1 else p1) (absI p3)) : X = (nanOr x y u v (mulQ x y u v)).1 ∧ Y = (nanOr x y u v (mulQ x y u v)).2 := by
  have a : 0 < y := by have := N1.2.1.1; omega
  have b : 0 < v := by have := N2.2.1.1; omega
  have h3 := nof_eq (p := p1) (pos_of_mul e3 a b)
  rw [nanOr_told (nanF n1) (nanF n2)]
  exact tE0 a b e1 e3 (eX.trans h3.1) (eY.trans h3.2)
theorem dA (N1 : NumF x y) (N2 : NumF u v) (n1 : (if y = 0 then x == 0 else y == 0) = false) (n2 : (if v = 0 then u == 0 else v == 0) = false) (hv : v = 0) (hy : y = 0) : 0 = (nanOr x y u v (divQ x y u v)).1 ∧ 0 = (nanOr x y u v (divQ x y u v)).2 := by
  have m1 := nanF n1
  have m2 := nanF n2
  unfold Told at m1 m2
  obtain ⟨a1, a2, a4⟩ := N1
  obtain ⟨b1, b2, b4⟩ := N2
  rw [nanOr, if_neg (by omega)]
  unfold divQ
  constructor <;> (repeat' split) <;> first | rfl | omega | (dsimp only; omega)
theorem dB (N1 : NumF x y) (N2 : NumF u v) (n1 : (if y = 0 then x == 0 else y == 0) = false) (n2 : (if v = 0 then u == 0 else v == 0) = false) (hv : v = 0) (hy : y ≠ 0) : 0 = (nanOr x y u v (divQ x y u v)).1 ∧ 1 = (nanOr x y u v (divQ x y u v)).2 := by
  have m1 := nanF n1
  have m2 := nanF n2
  unfold Told at m1 m2
  obtain ⟨a1, a2, a4⟩ := N1
  obtain ⟨b1, b2, b4⟩ := N2
  rw [nanOr, if_neg (by omega)]
  unfold divQ
  constructor <;> (repeat' split) <;> first | rfl | omega | (dsimp only; omega)
theorem dC (N1 : NumF x y) (N2 : NumF u v) (n1 : (if y = 0 then x == 0 else y == 0) = false) (n2 : (if v = 0 then u == 0 else v == 0) = false) (hv : v ≠ 0) (hy : y = 0) (hu : 0 ≤ u) : x = (nanOr x y u v (divQ x y u v)).1 ∧ y = (nanOr x y u v (divQ x y u v)).2 := by
  have m1 := nanF n1
  have m2 := nanF n2
  unfold Told at m1 m2
  obtain ⟨a1, a2, a4⟩ := N1
  obtain ⟨b1, b2, b4⟩ := N2
  rw [nanOr, if_neg (by omega)]
  unfold divQ sgn
  constructor <;> (repeat' split) <;> first | rfl | omega | (dsimp only; omega)
theorem dD (N1 : NumF x y) (N2 : NumF u v) (n1 : (if y = 0 then x == 0 else y == 0) = false) (n2 : (if v = 0 then u == 0 else v == 0) = false) (hv : v ≠ 0) (hy : y = 0) (hu : ¬ 0 ≤ u) : (-x) = (nanOr x y u v (divQ x y u v)).1 ∧ y = (nanOr x y u v (divQ x y u v)).2 := by
  have m1 := nanF n1
  have m2 := nanF n2
  unfold Told at m1 m2
  obtain ⟨a1, a2, a4⟩ := N1
  obtain ⟨b1, b2, b4⟩ := N2
  rw [nanOr, if_neg (by omega)]
  unfold divQ sgn
  constructor <;> (repeat' split) <;> first | rfl | omega | (dsimp only; omega)
theorem dF (N1 : NumF x y) (N2 : NumF u v) (n1 : (if y = 0 then x == 0 else y == 0) = false) (n2 : (if v = 0 then u == 0 else v == 0) = false) (hv : v ≠ 0) (hy : y ≠ 0) (hu : u = 0) (eg : g = sgn x) : g = (nanOr x y u v (divQ x y u v)).1 ∧ 0 = (nanOr x y u v (divQ x y u v)).2 := by
  have m1 := nanF n1
  have m2 := nanF n2
  unfold Told at m1 m2
  obtain ⟨a1, a2, a4⟩ := N1
  obtain ⟨b1, b2, b4⟩ := N2
  subst eg
  rw [nanOr, if_neg (by omega)]
  unfold divQ
  constructor <;> (repeat' split) <;> first | rfl | omega | (dsimp only; omega)
theorem dE (N1 : NumF x y) (N2 : NumF u v) (n1 : (if y = 0 then x == 0 else y == 0) = false) (n2 : (if v = 0 then u == 0 else v == 0) = false) (hv : v ≠ 0) (hy : y ≠ 0) (hu : u ≠ 0) (e1 : p1 = x * v) (e2 : p2 = y * u) (eX : X = lowN (if p2 < 0 then -p1 else p1) (absI p2)) (eY : Y = lowD (if p2 < 0 then -p1 else p1) (absI p2)) : X = (nanOr x y u v (divQ x y u v)).1 ∧ Y = (nanOr x y u v (divQ x y u v)).2 := by
  have a : 0 < y := by have := N1.2.1.1; omega
  have h := div_arg e1 e2 a hu
  rw [h.1, h.2] at eX eY
  rw [nanOr_told (nanF n1) (nanF n2)]
  exact dE0 a hv hu eX eY
theorem mA (N1 : NumF x y) (N2 : NumF u v) (n1 : (if y = 0 then x == 0 else y == 0) = false) (n2 : (if v = 0 then u == 0 else v == 0) = false) (hy : y = 0) : 0 = (nanOr x y u v (modQ x y u v)).1 ∧ 0 = (nanOr x y u v (modQ x y u v)).2 := by
  have m1 := nanF n1
  have m2 := nanF n2
  unfold Told at m1 m2
  obtain ⟨a1, a2, a4⟩ := N1
  obtain ⟨b1, b2, b4⟩ := N2
  rw [nanOr, if_neg (by omega)]
  unfold modQ
  constructor <;> (repeat' split) <;> first | rfl | omega | (dsimp only; omega)
theorem mB (N1 : NumF x y) (N2 : NumF u v) (n1 : (if y = 0 then x == 0 else y == 0) = false) (n2 : (if v = 0 then u == 0 else v == 0) = false) (hy : y ≠ 0) (hu : u = 0) : 0 = (nanOr x y u v (modQ x y u v)).1 ∧ 0 = (nanOr x y u v (modQ x y u v)).2 := by
  have m1 := nanF n1
  have m2 := nanF n2
  unfold Told at m1 m2
  obtain ⟨a1, a2, a4⟩ := N1
  obtain ⟨b1, b2, b4⟩ := N2
  rw [nanOr, if_neg (by omega)]
  unfold modQ
  constructor <;> (repeat' split) <;> first | rfl | omega | (dsimp only; omega)
theorem mC (N1 : NumF x y) (N2 : NumF u v) (n1 : (if y = 0 then x == 0 else y == 0) = false) (n2 : (if v = 0 then u == 0 else v == 0) = false) (hy : y ≠ 0) (hu : u ≠ 0) (hv : v = 0) : x = (nanOr x y u v (modQ x y u v)).1 ∧ y = (nanOr x y u v (modQ x y u v)).2 := by
  have m1 := nanF n1
  have m2 := nanF n2
  unfold Told at m1 m2
  obtain ⟨a1, a2, a4⟩ := N1
  obtain ⟨b1, b2, b4⟩ := N2
  rw [nanOr, if_neg (by omega)]
  unfold modQ
  constructor <;> (repeat' split) <;> first | rfl | omega | (dsimp only; omega)
theorem mE {q1 q2 : Int} (N1 : NumF x y) (N2 : NumF u v) (n1 : (if y = 0 then x == 0 else y == 0) = false) (n2 : (if v = 0 then u == 0 else v == 0) = false) (hy : y ≠ 0) (hu : u ≠ 0) (hv : v ≠ 0) (e1 : p1 = x * v) (e2 : p2 = u * y) (eq : q = y * v) (hg : g1 = sgn p1) (h1 : q1 = absI p1) (h2 : q2 = absI p2) (hr : r = Int.fmod q1 q2) (e : p3 = g1 * r) (eX : X = lowN (if q < 0 then -p3 else p3) (absI q)) (eY : Y = lowD (if q < 0 then -p3 else p3) (absI q)) : X = (nanOr x y u v (modQ x y u v)).1 ∧ Y = (nanOr x y u v (modQ x y u v)).2 := by
  have a : 0 < y := by have := N1.2.1.1; omega
  have b : 0 < v := by have := N2.2.1.1; omega
  have h3 := nof_eq (p := p3) (pos_of_mul eq a b)
  rw [nanOr_told (nanF n1) (nanF n2)]
  exact mE0 a b hu (mod_arg e hr h1 h2 hg e1 e2 a b) eq (eX.trans h3.1) (eY.trans h3.2)
theorem sE1 (hy : y = 0) (hv : v = 0) (e1 : g1 = sgn x) (e2 : g2 = sgn u) (h : g1 = g2) : g1 = (sumQ x y u v).1 ∧ 0 = (sumQ x y u v).2 := by
  rw [sumQ, if_neg (by omega), if_neg (by omega), if_neg (by omega), if_pos (by omega), e1]; exact ⟨rfl, rfl⟩
theorem sE2 (hy : y = 0) (hv : v = 0) (e1 : g1 = sgn x) (e2 : g2 = sgn u) (h : g1 ≠ g2) : 0 = (sumQ x y u v).1 ∧ 0 = (sumQ x y u v).2 := by
  rw [sumQ, if_neg (by omega), if_neg (by omega), if_neg (by omega), if_neg (by omega)]; exact ⟨rfl, rfl⟩
theorem sE3 (hy : y = 0) (hv : 0 < v) (e1 : g1 = sgn x) : g1 = (sumQ x y u v).1 ∧ 0 = (sumQ x y u v).2 := by
  rw [sumQ, if_neg (by omega), if_pos hv, e1]; exact ⟨rfl, rfl⟩
theorem sE4 (hy : 0 < y) (hv : v = 0) (e1 : g1 = sgn u) : g1 = (sumQ x y u v).1 ∧ 0 = (sumQ x y u v).2 := by
  rw [sumQ, if_neg (by omega), if_neg (by omega), if_pos hy, e1]; exact ⟨rfl, rfl⟩
theorem hA1 (hy : y = 0) (hv : v = 0) : 0 = (divQ x y u v).1 ∧ 0 = (divQ x y u v).2 := by
  rw [divQ, if_pos hy, if_pos hv]; exact ⟨rfl, rfl⟩
theorem hA2 (hy : y = 0) (hv : v ≠ 0) (hu : u < 0) (eg : g = sgn x) (e : p1 = g * -1) : p1 = (divQ x y u v).1 ∧ 0 = (divQ x y u v).2 := by
  rw [divQ, if_pos hy, if_neg hv, if_pos hu, e, eg]; exact ⟨rfl, rfl⟩
theorem hA3 (hy : y = 0) (hv : v ≠ 0) (hu : ¬ u < 0) (eg : g = sgn x) (e : p1 = g * 1) : p1 = (divQ x y u v).1 ∧ 0 = (divQ x y u v).2 := by
  rw [divQ, if_pos hy, if_neg hv, if_neg hu, e, eg]; exact ⟨rfl, rfl⟩
theorem hA4 (hy : y ≠ 0) (hv : v = 0) : 0 = (divQ x y u v).1 ∧ 1 = (divQ x y u v).2 := by
  rw [divQ, if_neg hy, if_pos hv]; exact ⟨rfl, rfl⟩
theorem hA5 (hy : y ≠ 0) (hv : v ≠ 0) (hu : u = 0) (eg : g = sgn x) : g = (divQ x y u v).1 ∧ 0 = (divQ x y u v).2 := by
  rw [divQ, if_neg hy, if_neg hv, if_pos hu, eg]; exact ⟨rfl, rfl⟩
theorem hA6 (hy : y ≠ 0) (hv : v ≠ 0) (hu : u ≠ 0) (e1 : p1 = x * v) (eg : g = sgn u) (e2 : p2 = p1 * g) (ea : g1 = absI u) (e3 : p3 = y * g1) (eX : X = lowN p2 p3) (eY : Y = lowD p2 p3) : X = (divQ x y u v).1 ∧ Y = (divQ x y u v).2 := by
  rw [divQ, if_neg hy, if_neg hv, if_neg hu, eX, eY, e2, e3, e1, eg, ea]; exact ⟨rfl, rfl⟩
theorem rA1 (hy : y = 0) : 0 = (modQ x y u v).1 ∧ 0 = (modQ x y u v).2 := by
  rw [modQ, if_pos (Or.inl hy)]; exact ⟨rfl, rfl⟩
theorem rA2 (hy : y ≠ 0) (hu : u = 0) (hv : 0 < v) : 0 = (modQ x y u v).1 ∧ 0 = (modQ x y u v).2 := by
  rw [modQ, if_pos (Or.inr ⟨hu, hv⟩)]; exact ⟨rfl, rfl⟩
theorem rA3 (N2 : NumF u v) (m2 : Told u v) (hy : y ≠ 0) (hu : u = 0) (hv : ¬ 0 < v) : x = (modQ x y u v).1 ∧ y = (modQ x y u v).2 := by
  have := N2.2.1.1
  exact absurd ⟨hu, by omega⟩ m2
theorem rA4 (hy : y ≠ 0) (hu : u ≠ 0) (hv : v = 0) : x = (modQ x y u v).1 ∧ y = (modQ x y u v).2 := by
  rw [modQ, if_neg (by omega), if_pos hv]; exact ⟨rfl, rfl⟩
theorem rA5 (hy : y ≠ 0) (hu : u ≠ 0) (hv : v ≠ 0) (er : r = (absI x * v).fmod (y * absI u)) (eg : g = sgn x) (e : p1 = r * g) (eq : q = y * v) (eX : X = lowN p1 q) (eY : Y = lowD p1 q) : X = (modQ x y u v).1 ∧ Y = (modQ x y u v).2 := by
  have h : p1 = restQ x y u v := by rw [restQ, e, er, eg, Int.mul_comm]
  rw [modQ, if_neg (by omega), if_neg hv, eX, eY, h, eq]; exact ⟨rfl, rfl⟩
theorem fmod_rest {p d q : Int} (e : q = p.fdiv d) : p - q * d = p.fmod d := by
  have := Int.mul_fdiv_add_fmod p d
  rw [e, Int.mul_comm]; omega
section
variable {prog : Program} {w : World} {A : Around} {E : Value → Shared → Prop} {s : Shared} {t u' : Tok} {Q : Value → Shared → Prop} {P Q1 d G G' g' p p' : Int}
theorem sub_rest (eP : P = Q1 * g') (eQ : Q1 = q * y) (eg' : g' = absI u) (eq : q = p.fdiv d) (ed : d = y * g) (eg : g = absI u) (ep : p = G * v) (eG : G = absI x) (ep' : p' = G' * v) (eG' : G' = absI x) (hd : 0 < d) (hd' : d ≤ 1208925819614629174706176)
    (h : ∀ r, r = (absI x * v).fmod (y * absI u) → 0 ≤ r → r ≤ 1208925819614629174706176 → Q (.int r s.toks) { s with toks := s.toks + 1 }) : wpAny (model prog w) A (binaryOp .Sub (.int p' t) (.int P u')) Q E s := by
  have e : p' - P = (absI x * v).fmod (y * absI u) := by
    rw [eP, eQ, eg', ← eg, Int.mul_assoc, ← ed, ep', eG', ← eG, ← ep, fmod_rest eq]
  have h1 : 0 ≤ p' - P := by rw [e, ← eg, ← ed]; exact Int.fmod_nonneg_of_pos _ hd
  have h2 : p' - P < d := by rw [e, ← eg, ← ed]; exact Int.fmod_lt_of_pos _ hd
  exact sub_int (h _ e h1 (by omega))
end
theorem nan_neg {r : Int × Int} : nanOr x y (-u) v r = nanOr x y u v r := by
  unfold nanOr
  by_cases h : (x = 0 ∧ y = 0) ∨ (u = 0 ∧ v = 0)
  · rw [if_pos h, if_pos (by omega)]
  · rw [if_neg h, if_neg (by omega)]
end
inductive Op where
  | add
  | sub
  | mul
  | div
  | mod
def Op.str : Op → Str
  | .add => Str.ofString "+"
  | .sub => Str.ofString "-"
  | .mul => Str.ofString "*"
  | .div => Str.ofString "div"
  | .mod => Str.ofString "mod"
def dueQ (o : Op) (x y u v : Int) : Int × Int := nanOr x y u v (match o with
  | .add => sumQ x y u v
  | .sub => sumQ x y (-u) v
  | .mul => mulQ x y u v
  | .div => divQ x y u v
  | .mod => modQ x y u v)
theorem due_sub {x y u v : Int} : nanOr x y (-u) v (sumQ x y (-u) v) = dueQ .sub x y u v := nan_neg
theorem R3.up {news : List (Addr × Obj)} {tl : List (Addr × Obj)} {q : Addr × Obj} {r : Value} {X Y : Int} (R : R3 (tl ++ (q :: news)) r X Y) : R3 ((tl ++ [q]) ++ news) r X Y := by rw [List.append_assoc]; exact R
theorem news_up {h₀ h : Heap} {L : Addr} {news tl : List (Addr × Obj)} {q : Addr × Obj} (N : News h₀ L h (tl ++ (q :: news))) : News h₀ L h ((tl ++ [q]) ++ news) := by rw [List.append_assoc]; exact N
section
variable {x y u v p1 p2 p3 q X Y g g1 g2 r : Int}
end
end Mine
end
section
open PySem PySem.W PyProof.Rows
namespace Mine
theorem pair_reads {h : Heap} {D : Addr} {X Y : Int} {t1 t2 : Tok} (e : h.get? D = some { cls := .type "tuple", data := .seq #[.int X t1, .int Y t2] }) : Reads h (.ref D) (.tuple [.int X, .int Y]) [] :=
  reads_tuple_at e rfl rfl (ReadsAll.cons (Reads.int _ _) (ReadsAll.cons (Reads.int _ _) ReadsAll.nil))
theorem tup_reads {h : Heap} {D : Addr} {X Y : Int} {t1 t2 : Tok} (e : IsTup h D #[.int X t1, .int Y t2]) : Reads h (.ref D) (.tuple [.int X, .int Y]) [] := by
  obtain ⟨o, ho, hc, n, hd⟩ := e
  exact reads_tuple_at ho hc hd (ReadsAll.cons (Reads.int _ _) (ReadsAll.cons (Reads.int _ _) ReadsAll.nil))
theorem pair_eqv (x y u v : Int) : PyData.eqv (.tuple [.int x, .int y]) (.tuple [.int u, .int v]) = (decide (x = u) && decide (y = v)) := by
  simp [PyData.eqv, PyData.eqvAll]; rfl
theorem pair_shaped (x y : Int) : PySem.SeqAt.shaped (.tuple [.int x, .int y]) = true := by
  simp [PySem.SeqAt.shaped, PyData.canLay0, PyData.canLayAll0, PyData.depth, PyData.depthAll]
section
variable {prog : Program} {w : World} {A : Around} {E : Value → Shared → Prop} {s : Shared} {h₀ : Heap} {L : Addr} {m : Str → Option Value} {news : List (Addr × Obj)} {Q : Value → Shared → Prop}
theorem in_pairs {Z l pa pb : Addr} {x y u v : Int} {tx ty tu tv t1 t2 : Tok} {n : Nat} (N : News h₀ L s.heap news) (hl : (l, ({ cls := .type "list", data := .seq #[.ref pa, .ref pb] n } : Obj)) ∈ news) (hz : (Z, ({ cls := .type "tuple", data := .seq #[.int 0 t1, .int 0 t2] } : Obj)) ∈ news)
    (hA : (pa, ({ cls := .type "tuple", data := .seq #[.int x tx, .int y ty] } : Obj)) ∈ news) (hB : (pb, ({ cls := .type "tuple", data := .seq #[.int u tu, .int v tv] } : Obj)) ∈ news) (hu : A.units + 64 < cLine)
    (h1 : (x = 0 ∧ y = 0) ∨ (u = 0 ∧ v = 0) → Q (.bool true) s) (h2 : Told x y → Told u v → Q (.bool false) s) : wpAny (model prog w) A (compareOp .In (.ref Z) (.ref l)) Q E s := by
  have rl : Reads s.heap (.ref l) (.list [.tuple [.int x, .int y], .tuple [.int u, .int v]]) (l :: ([] ++ ([] ++ []))) :=
    reads_list_at (N _ hl).1 rfl rfl (ReadsAll.cons (pair_reads (N _ hA).1) (ReadsAll.cons (pair_reads (N _ hB).1) ReadsAll.nil))
  refine PySem.SeqAt.in_list_reads rl (pair_reads (N _ hz).1) (by simp [PyData.canLay0, PyData.canLayAll0]) (by simp [PyData.canLay0, PyData.canLayAll0]) (by simp [PyData.depth, PyData.depthAll]; omega) ?_
  simp only [List.any_cons, List.any_nil, pair_eqv, Bool.or_false]
  by_cases c1 : x = 0 ∧ y = 0
  · rw [show (decide (x = 0) && decide (y = 0)) = true by simp [c1.1, c1.2], Bool.true_or]
    exact h1 (Or.inl c1)
  · by_cases c2 : u = 0 ∧ v = 0
    · rw [show (decide (u = 0) && decide (v = 0)) = true by simp [c2.1, c2.2], Bool.or_true]
      exact h1 (Or.inr c2)
    · have e1 : (decide (x = 0) && decide (y = 0)) = false := by simpa using c1
      have e2 : (decide (u = 0) && decide (v = 0)) = false := by simpa using c2
      rw [e1, e2]
      exact h2 c1 c2
theorem r3_reads {news' : List (Addr × Obj)} {r : Value} {X Y : Int} (F : Fr h₀ L s.heap m) (K : (hd.heap_39 w.params).In h₀) (N : News h₀ L s.heap news) (sub : ∀ p ∈ news', p ∈ news) (R : R3 news' r X Y) : Reads s.heap r (.tuple [.int X, .int Y]) [] := by
  rcases R with ⟨D, t1, t2, rfl, hm⟩ | ⟨rfl, rfl, rfl⟩ | ⟨rfl, rfl, rfl⟩
  · exact pair_reads (N _ (sub _ hm)).1
  · exact tup_reads (tupK (l := [.int 0 _, .int 0 _]) (K.keeps F.keep) (by rfl))
  · exact tup_reads (tupK (l := [.int 0 _, .int 1 _]) (K.keeps F.keep) (by rfl))
theorem ne_R3 {r r' : Value} {X Y X' Y' : Int} {na nb : List (Addr × Obj)} (F : Fr h₀ L s.heap m) (K : (hd.heap_39 w.params).In h₀) (N : News h₀ L s.heap news) (Ra : R3 na r X Y) (Rb : R3 nb r' X' Y') (sa : ∀ p ∈ na, p ∈ news) (sb : ∀ p ∈ nb, p ∈ news) (ex : X = X') (ey : Y = Y') (hu : A.units + 64 < cLine)
    (h : Q (.bool false) s) : wpAny (model prog w) A (compareOp .NotEq r r') Q E s := by
  refine ne_dataH (r3_reads F K N sa Ra) (r3_reads F K N sb Rb) (pair_shaped _ _) (pair_shaped _ _) hu ?_
  rw [pair_eqv, ex, ey]
  simpa using h
end
theorem due_nan {x y u v : Int} (o : Op) (h : (x = 0 ∧ y = 0) ∨ (u = 0 ∧ v = 0)) : 0 = (dueQ o x y u v).1 ∧ 0 = (dueQ o x y u v).2 := by
  unfold dueQ nanOr; rw [if_pos h]; exact ⟨rfl, rfl⟩
theorem due_add {x y u v : Int} (m1 : Told x y) (m2 : Told u v) : dueQ .add x y u v = sumQ x y u v := nanOr_told m1 m2
theorem due_sub0 {x y u v : Int} (m1 : Told x y) (m2 : Told u v) : dueQ .sub x y u v = sumQ x y (0 - u) v := by rw [Int.zero_sub]; exact nanOr_told m1 m2
theorem due_mul {x y u v : Int} (m1 : Told x y) (m2 : Told u v) : dueQ .mul x y u v = mulQ x y u v := nanOr_told m1 m2
theorem due_div {x y u v : Int} (m1 : Told x y) (m2 : Told u v) : dueQ .div x y u v = divQ x y u v := nanOr_told m1 m2
theorem due_mod {x y u v : Int} (m1 : Told x y) (m2 : Told u v) : dueQ .mod x y u v = modQ x y u v := nanOr_told m1 m2
section
variable {x y u v p1 p3 X Y g g1 g2 : Int}
theorem duE (m1 : Told x y) (m2 : Told u v) (hy : 0 < y) (hv : 0 < v) (e1 : p1 = x * u) (e3 : p3 = y * v) (eX : X = lowN p1 p3) (eY : Y = lowD p1 p3) : X = (dueQ .mul x y u v).1 ∧ Y = (dueQ .mul x y u v).2 := by
  rw [due_mul m1 m2]; exact tE0 hy hv e1 e3 eX eY
theorem duA (m1 : Told x y) (m2 : Told u v) (h : ¬ (0 < y ∧ 0 < v)) (e : g = g1 * g2) (e1 : g1 = sgn x) (e2 : g2 = sgn u) : g = (dueQ .mul x y u v).1 ∧ 0 = (dueQ .mul x y u v).2 := by
  rw [due_mul m1 m2]; exact tA0 h e e1 e2
end
section
variable {h₀ h : Heap} {L : Addr} {news tl : List (Addr × Obj)} {q q' q2 : Addr × Obj} {r : Value} {X Y : Int}
theorem R3.up2 (R : R3 (tl ++ (q :: q' :: news)) r X Y) : R3 ((tl ++ [q, q']) ++ news) r X Y := by rw [List.append_assoc]; exact R
theorem news_up2 (N : News h₀ L h (tl ++ (q :: q' :: news))) : News h₀ L h ((tl ++ [q, q']) ++ news) := by rw [List.append_assoc]; exact N
theorem R3.up3 (R : R3 (tl ++ (q :: q' :: q2 :: news)) r X Y) : R3 ((tl ++ [q, q', q2]) ++ news) r X Y := by rw [List.append_assoc]; exact R
theorem news_up3 (N : News h₀ L h (tl ++ (q :: q' :: q2 :: news))) : News h₀ L h ((tl ++ [q, q', q2]) ++ news) := by rw [List.append_assoc]; exact N
end
section
variable {prog : Program} {w : World} {A : Around} {E : Value → Shared → Prop} {s : Shared} {h₀ : Heap} {L l : Addr} {news : List (Addr × Obj)} {vs : List Value} {n : Nat} {Q : Value → Shared → Prop}
theorem len_led (N : News h₀ L s.heap news) (hm : (l, ({ cls := .type "list", data := .seq vs.toArray n } : Obj)) ∈ news) (hv : vs.length ≤ 100) (h : ∀ k t tk, k = (vs.length : Int) → Q (.int k t) { s with toks := tk }) : wpAny (model prog w) A (call (.builtin "len") [.ref l]) Q E s :=
  PySem.Calls.call_len_list (items := vs.toArray) ⟨_, (N _ hm).1, rfl, n, rfl⟩ (by rw [List.size_toArray]; omega) (h _ _ _ (by rw [List.size_toArray]))
theorem item_led {value slice : PySem.Expr} {k : Int} {u : Tok} (N : News h₀ L s.heap news) (hm : (l, ({ cls := .type "list", data := .seq vs.toArray n } : Obj)) ∈ news) (h0 : 0 ≤ k) (h1 : k < (vs.length : Int)) (hv : vs.length ≤ 100) (h : ∀ v, vs[k.toNat]? = some v → Q v s)
    (hs : subscripted slice false (.ref l) (.int k u) = operate [.ref l, .int k u] (getItem (.ref l) (.int k u)) := by with_unfolding_all rfl) : wpAny (model prog w) A (subscriptTail value slice (.ref l) (.int k u)) Q E s :=
  item_litK (vs := vs) ⟨_, (N _ hm).1, rfl, n, rfl⟩ h0 (by omega) (List.getElem?_eq_getElem (by omega)) (h _ (List.getElem?_eq_getElem (by omega))) hs
end
section
variable {h₀ h : Heap} {L src : Addr} {o o' : Obj} {pre post : List (Addr × Obj)} {q : Addr × Obj}
theorem news_out (N : News h₀ L h (pre ++ (src, o) :: post)) : News h₀ L h ((src, o) :: (pre ++ post)) := fun p hp => N p (by
  rcases List.mem_cons.mp hp with rfl | hp
  · exact List.mem_append.mpr (Or.inr List.mem_cons_self)
  · rcases List.mem_append.mp hp with hp | hp
    · exact List.mem_append.mpr (Or.inl hp)
    · exact List.mem_append.mpr (Or.inr (List.mem_cons_of_mem _ hp)))
theorem news_in (N : News h₀ L h ((src, o) :: (pre ++ post))) : News h₀ L h (pre ++ (src, o) :: post) := fun p hp => N p (by
  rcases List.mem_append.mp hp with hp | hp
  · exact List.mem_cons_of_mem _ (List.mem_append.mpr (Or.inl hp))
  · rcases List.mem_cons.mp hp with rfl | hp
    · exact List.mem_cons_self
    · exact List.mem_cons_of_mem _ (List.mem_append.mpr (Or.inr hp)))
theorem off_app (a : ∀ p ∈ pre, p.1 ≠ src) (b : ∀ p ∈ post, p.1 ≠ src) : ∀ p ∈ pre ++ post, p.1 ≠ src := fun p hp => (List.mem_append.mp hp).elim (a p) (b p)
theorem news_out2 (N : News h₀ L h (pre ++ (src, o) :: post)) (hq : q ∈ pre ++ (src, o) :: post) : News h₀ L h ((src, o) :: q :: (pre ++ post)) := fun p hp => by
  rcases List.mem_cons.mp hp with rfl | hp
  · exact news_out N _ List.mem_cons_self
  · rcases List.mem_cons.mp hp with rfl | hp
    · exact N _ hq
    · exact news_out N _ (List.mem_cons_of_mem _ hp)
theorem news_in2 (N : News h₀ L h ((src, o) :: q :: (pre ++ post))) : News h₀ L h (pre ++ (src, o) :: post) := news_in fun p hp => N p (by
  rcases List.mem_cons.mp hp with rfl | hp
  · exact List.mem_cons_self
  · exact List.mem_cons_of_mem _ (List.mem_cons_of_mem _ hp))
end
theorem mem_of_at {vs : List Value} {i : Nat} {v : Value} (e : vs[i]? = some v) : v ∈ vs := List.mem_of_getElem? e
theorem numF_low {p q X Y : Int} (hX : X = lowN p q) (hY : Y = lowD p q) (h1 : -549755813888 ≤ p) (h2 : p ≤ 549755813888) (hq : 0 < q) (hq2 : q ≤ 2147483648) : NumF X Y := by
  subst hX hY
  have a := lowD_pos (p := p) hq
  have b := lowD_le (p := p) hq
  exact ⟨⟨lowN_lo hq h1 h2, lowN_hi hq h1 h2⟩, ⟨by omega, by omega⟩, fun e => by omega⟩
theorem numF_00 : NumF 0 0 := by unfold NumF; omega
theorem numF_10 : NumF 1 0 := by unfold NumF; omega
theorem numF_m0 : NumF (-1) 0 := by unfold NumF; omega
theorem numF_01 : NumF 0 1 := by unfold NumF; omega
section
variable {prog : Program} {w : World} {A : Around} {E : Value → Shared → Prop} {s : Shared} {h₀ : Heap} {L l : Addr} {news : List (Addr × Obj)} {n : Nat} {Q : Value → Shared → Prop}
theorem pick3 {value slice : PySem.Expr} {k : Int} {u : Tok} {v0 v1 v2 : Value} (N : News h₀ L s.heap news) (hm : (l, ({ cls := .type "list", data := .seq #[v0, v1, v2] n } : Obj)) ∈ news) (h0 : 0 ≤ k) (h1 : k < 3) (q0 : k = 0 → Q v0 s) (q1 : k = 1 → Q v1 s) (q2 : k = 2 → Q v2 s)
    (hs : subscripted slice false (.ref l) (.int k u) = operate [.ref l, .int k u] (getItem (.ref l) (.int k u)) := by with_unfolding_all rfl) : wpAny (model prog w) A (subscriptTail value slice (.ref l) (.int k u)) Q E s := by
  refine item_led (vs := [v0, v1, v2]) N hm h0 (by simpa using h1) (by simp) (fun v e => ?_) hs
  rcases (by omega : k = 0 ∨ k = 1 ∨ k = 2) with rfl | rfl | rfl
  · cases e; exact q0 rfl
  · cases e; exact q1 rfl
  · cases e; exact q2 rfl
theorem pow_lit {a b c : Int} {t u : Tok} (hb : 0 ≤ b) (hb2 : b ≤ 1000000) (ha : a.natAbs < 2 ^ 64) (hc : a ^ b.toNat = c) (h : Q (.int c s.toks) { s with toks := s.toks + 1 }) : wpAny (model prog w) A (binaryOp .Pow (.int a t) (.int b u)) Q E s :=
  pow_int_small hb hb2 ha (by rw [hc]; exact h)
end
theorem news_pick {h₀ h : Heap} {L D : Addr} {o : Obj} {big tl : List (Addr × Obj)} (N : News h₀ L h big) (hd : (D, o) ∈ big) (hs : ∀ p ∈ tl, p ∈ big) : News h₀ L h ((D, o) :: tl) := fun p hp => N p (by
  rcases List.mem_cons.mp hp with rfl | hp
  · exact hd
  · exact hs p hp)
section
variable {h₀ h : Heap} {L : Addr} {d q1 q2 q3 : Addr × Obj} {tl : List (Addr × Obj)}
theorem pk2 (N : News h₀ L h (d :: q1 :: q2 :: tl)) : News h₀ L h (d :: tl) := news_pick N (.head _) fun _ hp => .tail _ (.tail _ (.tail _ hp))
theorem pk31 (N : News h₀ L h (q1 :: d :: q2 :: q3 :: tl)) : News h₀ L h (d :: tl) := news_pick N (.tail _ (.head _)) fun _ hp => .tail _ (.tail _ (.tail _ (.tail _ hp)))
theorem pk32 (N : News h₀ L h (q1 :: q2 :: d :: q3 :: tl)) : News h₀ L h (d :: tl) := news_pick N (.tail _ (.tail _ (.head _))) fun _ hp => .tail _ (.tail _ (.tail _ (.tail _ hp)))
theorem pk33 (N : News h₀ L h (q1 :: q2 :: q3 :: d :: tl)) : News h₀ L h (d :: tl) := news_pick N (.tail _ (.tail _ (.tail _ (.head _)))) fun _ hp => .tail _ (.tail _ (.tail _ (.tail _ hp)))
end
structure CutMark : Prop where
def CutEnd (h₀ : Heap) (L : Addr) (m : Str → Option Value) (news : List (Addr × Obj)) (s : Shared) (fl : Flow) (s₂ : Shared) : Prop := fl = .next ∧ ∃ h tk, s₂ = { s with heap := h, toks := tk } ∧ Fr h₀ L h m ∧ News h₀ L h news
theorem cut_if {M : Model} {A : Around} {E : Value → Shared → Prop} {s : Shared} {h₀ : Heap} {L : Addr} {m : Str → Option Value} {news : List (Addr × Obj)} {Q : Flow → Shared → Prop} {c : Sem Flow} (_F : Fr h₀ L s.heap m) (_N : News h₀ L s.heap news)
    (hc : CutMark → wpAny M A c (CutEnd h₀ L m news s) E s) (hk : ∀ h tk, Fr h₀ L h m → News h₀ L h news → Q .next { s with heap := h, toks := tk }) : wpAny M A c Q E s :=
  wpAny_mono (hc ⟨⟩) (fun fl s₂ q => by obtain ⟨rfl, h, tk, rfl, F, N⟩ := q; exact hk h tk F N) fun _ _ e => e
theorem cut_end {s : Shared} {h₀ h : Heap} {L : Addr} {m : Str → Option Value} {news big : List (Addr × Obj)} {tk : Nat} (F : Fr h₀ L h m) (N : News h₀ L h big) (sub : ∀ p ∈ news, p ∈ big) : CutEnd h₀ L m news s .next { s with heap := h, toks := tk } :=
  ⟨rfl, h, tk, rfl, F, fun p hp => N p (sub p hp)⟩
/-- what a value is refused for -/
inductive RefOk (news : List (Addr × Obj)) : Value → Bool → Prop where
  | nil {l : Addr} {n : Nat} : (l, ({ cls := .type "list", data := .seq #[] n } : Obj)) ∈ news → RefOk news (.ref l) false
  | two {l : Addr} {n : Nat} {a b : Int} {t u : Tok} : (l, ({ cls := .type "list", data := .seq #[.int a t, .int b u] n } : Obj)) ∈ news → RefOk news (.ref l) false
  | str {x : Str} {t : Tok} : RefOk news (.str x t) true
  | bool {b : Bool} : RefOk news (.bool b) true
  | tup {D : Addr} {a b : Int} {t u : Tok} : (D, ({ cls := .type "tuple", data := .seq #[.int a t, .int b u] } : Obj)) ∈ news → RefOk news (.ref D) true
end Mine
end
section
open PySem PySem.W PyProof.Rows PySem.Calls Builtin Builtin.ObjectAttr
set_option maxRecDepth 100000
set_option maxHeartbeats 4000000
namespace Mine
-- own classes, then Exception's own line
def excTail : List Value → Bool
  | .ref _ :: r => excTail r
  | l => l == [.type "Exception", .type "BaseException", .type "object"]
theorem tail_refuse (self : Value) : ∀ {l : List Value}, excTail l = true → refuseLoop self "__setattr__" l = pure ()
  | .ref a :: r, e => by rw [refuseLoop_ref]; exact tail_refuse self (l := r) e
  | [], e => absurd e (by decide)
  | .type n :: r, e => by rw [beq_iff_eq.mp (show ((Value.type n :: r : List Value) == _) = true from e)]; exact PySem.F.store_Exception.passes self
-- what the steps ask of an exception class of the program's own whose __init__ is a def: looked up in the written part K
structure ExcIn (K : Frag) (C : Addr) : Prop where
  exc : mroIn K C (.type "Exception") = some true
  top : mroIn K C (.type "BaseException") = some true
  own : mroIn K C (.ref C) = some true
  obj : mroIn K C (.type "object") = some true
  att : mroIn K C (.type "AttributeError") = some false
  nam : mroIn K C (.type "NameError") = some false
  kts : ktsIn K C "BaseException" = true
  cls : ∃ cd, clsIn K C = some cd ∧ (!cd.hasDel && cd.hasDict && !cd.mro.isEmpty && excTail cd.mro) = true
  hand : ∀ S rest, peek K S (callAny (.ref C) ⟨rest, []⟩) = some (.again (.call (.builtin "type.__call__") ⟨.ref C :: rest, []⟩))
  inst : instIn K (.ref C) (.type "type") = some true
  made : ∀ S, peek K S (Bind.madeBy (.ref C)) = some (some "Exception.__new__")
  here : ∀ S, peek K S (Bind.madeHere "BaseException.__new__" (.ref C)) = some ()
  isT : ∀ S, peek K S (isType (.ref C)) = some true
  new : ∀ S rest, peek K S (checkBuiltinCall "Exception.__new__" ⟨.ref C :: rest, []⟩) = some ()
  kind : typeIn K (.ref C) = some (.type "type")
  name : ∃ n, ∀ S, peek K S (typeNameWhole (.ref C)) = some n
theorem path_1 (p : Params) : mroIn (hd.heap_39 p) 44 (.type "Exception") = some true := by kernel_rfl
theorem path_2 (p : Params) : mroIn (hd.heap_39 p) 44 (.type "BaseException") = some true := by kernel_rfl
theorem path_3 (p : Params) : mroIn (hd.heap_39 p) 44 (.ref 44) = some true := by kernel_rfl
theorem path_0 (p : Params) : mroIn (hd.heap_39 p) 44 (.type "object") = some true := by kernel_rfl
theorem path_4 (p : Params) : mroIn (hd.heap_39 p) 44 (.type "AttributeError") = some false := by kernel_rfl
theorem path_5 (p : Params) : mroIn (hd.heap_39 p) 44 (.type "NameError") = some false := by kernel_rfl
theorem path_6 (p : Params) : ktsIn (hd.heap_39 p) 44 "BaseException" = true := by kernel_rfl
theorem path_7 (p : Params) (S : Setting) (rest : List Value) : peek (hd.heap_39 p) S (callAny (.ref 44) ⟨rest, []⟩) = some (.again (.call (.builtin "type.__call__") ⟨.ref 44 :: rest, []⟩)) := by kernel_rfl
theorem path_8 (p : Params) : instIn (hd.heap_39 p) (.ref 44) (.type "type") = some true := by kernel_rfl
theorem path_9 (p : Params) (S : Setting) : peek (hd.heap_39 p) S (Bind.madeBy (.ref 44)) = some (some "Exception.__new__") := by kernel_rfl
theorem path_10 (p : Params) (S : Setting) : peek (hd.heap_39 p) S (Bind.madeHere "BaseException.__new__" (.ref 44)) = some () := by kernel_rfl
theorem path_11 (p : Params) (S : Setting) : peek (hd.heap_39 p) S (isType (.ref 44)) = some true := by kernel_rfl
theorem path_12 (p : Params) (S : Setting) (rest : List Value) : peek (hd.heap_39 p) S (checkBuiltinCall "Exception.__new__" ⟨.ref 44 :: rest, []⟩) = some () := by kernel_rfl
theorem path_13 (p : Params) (S : Setting) : peek (hd.heap_39 p) S (typeNameWhole (.ref 44)) = some "PathFault" := by kernel_rfl
theorem path_15 (p : Params) : typeIn (hd.heap_39 p) (.ref 44) = some (.type "type") := by kernel_rfl
theorem path_14 (p : Params) : ((clsIn (hd.heap_39 p) 44).any fun cd => !cd.hasDel && cd.hasDict && !cd.mro.isEmpty && excTail cd.mro) = true := by kernel_rfl
theorem path_own (p : Params) : ExcIn (hd.heap_39 p) 44 :=
  ⟨path_1 p, path_2 p, path_3 p, path_0 p, path_4 p, path_5 p, path_6 p, any_some (path_14 p), path_7 p, path_8 p, path_9 p, path_10 p, path_11 p, path_12 p, path_15 p, ⟨_, path_13 p⟩⟩
abbrev exO (C q : Addr) (od : Option Addr) : Obj := { cls := .ref C, dict := od, data := .fields #[.ref q, .none, .none, .none, .bool false, .none] }
abbrev tupO (vs : List Value) : Obj := { cls := .type "tuple", data := .seq vs.toArray }
section
variable {M : Model} {prog : Program} {w : World} {A : Around} {K : Frag} {C e q : Addr} {E : Value → Shared → Prop} {h : Heap} {g : Array GenState} {d : Drawn} {t : Nat} {os : OsState} {od : Option Addr} {rest : List Value}
theorem ExcIn.there (O : ExcIn K C) (X : K.In h) : ∃ oc od cd sl, h.get? C = some ⟨oc, od, .cls cd, sl⟩ ∧ clsIn K C = some cd ∧ cd.hasDel = false ∧ cd.hasDict = true ∧ cd.mro.isEmpty = false ∧ excTail cd.mro = true := by
  obtain ⟨cd, hc, hb⟩ := O.cls
  simp only [Bool.and_eq_true, Bool.not_eq_true'] at hb
  have hc' := hc
  unfold clsIn at hc'
  split at hc'
  · rename_i oc od cd' sl ho
    cases hc'
    exact ⟨oc, od, cd, sl, X _ _ ho, hc, hb.1.1.1, hb.1.1.2, hb.1.2, hb.2⟩
  · cases hc'
theorem looks_type (he : h.get? e = some (exO C q od)) : Looks M h (typeOf (.ref e)) (.ref C) := (Looks.ld he).andThen .now
theorem looks_inst (X : K.In h) (he : h.get? e = some (exO C q od)) {b : Value} {r : Bool} (hm : mroIn K C b = some r) : Looks M h (isInstance (.ref e) b) r := (looks_type he).andThen (looks_mroIn X hm)
theorem init_check (X : K.In h) (O : ExcIn K C) (he : h.get? e = some (exO C q od)) {Q : Unit → Shared → Prop} (hq : Q () ⟨h, g, d, t, os⟩) :
    wpAny M A (checkBuiltinCall "Exception.__init__" ⟨.ref e :: rest, []⟩) Q E ⟨h, g, d, t, os⟩ := by
  obtain ⟨n, hn⟩ := O.name
  have l1 : Looks M h (typeOf (.ref e)) (.ref C) := looks_type he
  have l2 : Looks M h (isInstance (.ref e) (.type "Exception")) true := looks_inst X he O.exc
  have l3 : Looks M h (typeNameWhole (.ref C)) n := Looks.of_peek X (hn _)
  have FB := PySem.F.excBase_Exception
  simp only [checkBuiltinCall, FB.initKind, FB.initSplit, FB.initRow]
  repeat lk
  rw [if_neg (by intro z; rw [Bool.and_eq_true] at z; exact absurd z.2 (by decide))]
  repeat lk
  exact hq
theorem init_run {Q : Fin → Shared → Prop} (hlen : rest.length ≤ sizeLine) (he : h.get? e = some (exO C q none))
    (hq : Q (.done (.ret .none)) ⟨(h.push (tupO rest)).update e (Obj.mapFields (·.setIfInBounds 0 (.ref h.objs.size))), g, d, t, os⟩) :
    wpAny (model prog w) A (Builtin.«BaseException.__init__» ⟨.ref e :: rest, []⟩) Q E ⟨h, g, d, t, os⟩ := by
  have he1 : (h.push (tupO rest)).get? e = some (exO C q none) := Heap.get?_push_of_some (tupO rest) he
  unfold Builtin.«BaseException.__init__»
  wp_walk
  exact hq
theorem new_check (X : K.In h) (O : ExcIn K C) {Q : Unit → Shared → Prop} (hq : Q () ⟨h, g, d, t, os⟩) : wpAny M A (checkBuiltinCall "Exception.__new__" ⟨.ref C :: rest, []⟩) Q E ⟨h, g, d, t, os⟩ :=
  (Looks.of_peek X (O.new _ rest)).at hq
theorem new_run {R : Result → Shared → Prop} (X : K.In h) (O : ExcIn K C) (hlen : rest.length ≤ sizeLine)
    (hq : R (.ok (.ret (.ref (h.objs.size + 1)))) ⟨(h.push (tupO rest)).push (exO C h.objs.size none), g, d, t, os⟩) :
    codeAny (model prog w) A (.builtin "Exception.__new__" ⟨.ref C :: rest, []⟩) R ⟨h, g, d, t, os⟩ := by
  have FB := PySem.F.excBase_Exception
  have l1 : Looks (model prog w) h (isType (.ref C)) true := Looks.of_peek X (O.isT _)
  have l2 : Looks (model prog w) h (isSubtype (.ref C) (.type "Exception")) true := looks_mroIn X O.exc
  have l3 : Looks (model prog w) h (isSubtype (.ref C) (.type "AttributeError")) false := looks_mroIn X O.att
  have l4 : Looks (model prog w) h (isSubtype (.ref C) (.type "NameError")) false := looks_mroIn X O.nam
  have l5 : Looks (model prog w) h (Bind.madeHere "BaseException.__new__" (.ref C)) () := Looks.of_peek X (O.here _)
  refine codeAny_builtinAt FB.entry (PySem.wpAt_bind (PySem.wpAt_bind (PySem.wpAt_stack fun p below => PySem.wpAt_of_wpAny ?_)))
  refine wpAny_of_eq (show _ = pure "Exception" from by kernel_rfl) ?_
  refine PySem.wpAt_of_wpAny ?_
  obtain ⟨oc, od, cd, sl, hC, hc, hdel, _⟩ := O.there X
  repeat lk
  rw [if_neg (by rw [List.size_toArray]; exact Nat.not_lt.mpr hlen)]
  repeat lk
  refine (Looks.ld (Heap.get?_push_of_some _ (Heap.get?_push_of_some _ hC))).at ?_
  dsimp only
  rw [hdel]
  repeat lk
  show R _ _
  rw [Heap.size_push]
  exact hq
-- the class's call: type.__call__, the new object, then the def at fI upon it
theorem exc_make {R : Result → Shared → Prop} {fI : Addr} (X : K.In h) (O : ExcIn K C) (hlen : rest.length ≤ sizeLine) (hi : findIn K (.ref C) "__init__" = some (some (.ref fI))) (hf : typeIn K (.ref fI) = some (.type "function"))
    (hq : codeAny (model prog w) (A.under (.builtin "type.__call__" ⟨.ref C :: rest, []⟩)) (.call (.ref fI) ⟨.ref (h.objs.size + 1) :: rest, []⟩) (InitBack (h.objs.size + 1) R) ⟨(h.push (tupO rest)).push (exO C h.objs.size none), g, d, t, os⟩) :
    codeAny (model prog w) A (.call (.ref C) ⟨rest, []⟩) R ⟨h, g, d, t, os⟩ := by
  have k : ∀ b o, h.get? b = some o → ((h.push (tupO rest)).push (exO C h.objs.size none)).get? b = some o := fun b o z => Heap.get?_push_of_some _ (Heap.get?_push_of_some _ z)
  have he : ((h.push (tupO rest)).push (exO C h.objs.size none)).get? (h.objs.size + 1) = some (exO C h.objs.size none) := by heap_get
  obtain ⟨oc, od, cd, sl, hC, hc, hdel, hdict, hmro, _⟩ := O.there X
  have l1 : Looks (model prog w) h (mroOf (.ref C)) cd.mro := (looks_clsIn X hc).andThen .now
  have l2 : Looks (model prog w) h (Bind.madeBy (.ref C)) (some "Exception.__new__") := Looks.of_peek X (O.made _)
  have l3 : Looks (model prog w) ((h.push (tupO rest)).push (exO C h.objs.size none)) (isInstance (.ref (h.objs.size + 1)) (.ref C)) true := looks_inst (X.keeps k) he O.own
  have l4 : Looks (model prog w) ((h.push (tupO rest)).push (exO C h.objs.size none)) (typeOf (.ref (h.objs.size + 1))) (.ref C) := looks_type he
  have l5 : Looks (model prog w) ((h.push (tupO rest)).push (exO C h.objs.size none)) (typeLookup (.ref C) "__init__") (some (.ref fI)) := looks_findIn (X.keeps k) hi
  have l6 : Looks (model prog w) ((h.push (tupO rest)).push (exO C h.objs.size none)) (bindSpecial (.ref fI) (.ref (h.objs.size + 1))) (.ref fI, [.ref (h.objs.size + 1)]) := bind_fn (X.keeps k) _ hf
  have FB := PySem.F.excBase_Exception
  refine codeAny_of_tree ((Looks.of_peek X (O.hand _ rest)).at ⟨rfl, ?_⟩)
  refine codeAny_call_builtin_at (Code.quiet_builtin _ (by decide +kernel)) entry_typeCall (check_slot tc_kind tc_split (looks_instIn X O.inst) (tc_args _ _ _) ?_)
  unfold Builtin.«type.__call__»
  repeat (first | (rw [if_neg (by rw [hmro]; decide)]) | with_reducible refine wpAny_call ?_ | lk)
  refine codeAny_call_builtin_code (Code.quiet_builtin _ FB.quiet) (new_check X O (new_run X O hlen ?_))
  show wpAny _ _ _ _ _ _
  unfold callSpecial? specialOf
  repeat (first | with_reducible refine wpAny_call ?_ | lk)
  refine codeAny_mono hq fun r s' z => ?_
  cases r with
  | error _ => exact z
  | ok f => cases f with
    | ret v => obtain ⟨rfl, z⟩ := z; exact wpAny_pure (wpAny_pure z)
    | _ => exact z.elim
end
-- the object at e and the tuple of its arguments at q stand apart from each other and from the rest of the ledger
structure Apart (e q : Addr) (news : List (Addr × Obj)) : Prop where
  both : q ≠ e
  rest : ∀ p ∈ news, p.1 ≠ e ∧ p.1 ≠ q
theorem Apart.off {e q : Addr} {o : Obj} {news : List (Addr × Obj)} (P : Apart e q news) : ∀ p ∈ (q, o) :: news, p.1 ≠ e := fun p hp => by
  rcases List.mem_cons.mp hp with rfl | hp
  · exact P.both
  · exact (P.rest p hp).1
section
variable {prog : Program} {w : World} {A : Around} {K : Frag} {C e q L fI : Addr} {s : Shared} {h₀ : Heap} {m : Str → Option Value} {news : List (Addr × Obj)} {E : Value → Shared → Prop} {rest : List Value}
theorem exc_call_K {Q : Value → Shared → Prop} (F : Fr h₀ L s.heap m) (N : News h₀ L s.heap news) (X₀ : K.In h₀) (O : ExcIn K C) (hlen : rest.length ≤ sizeLine)
    (hi : findIn K (.ref C) "__init__" = some (some (.ref fI))) (hf : typeIn K (.ref fI) = some (.type "function"))
    (h : ∀ e q h', Fr h₀ L h' m → News h₀ L h' ((e, exO C q none) :: news) → (∀ p ∈ news, p.1 < e) →
      codeAny (model prog w) (A.under (.builtin "type.__call__" ⟨.ref C :: rest, []⟩)) (.call (.ref fI) ⟨.ref e :: rest, []⟩) (InitBack e fun r s' => match r with | .ok (.ret v) => Q v s' | .ok _ => False | .error e => E e s') { s with heap := h' }) :
    wpAny (model prog w) A (call (.ref C) rest []) Q E s := by
  obtain ⟨hh, g, d, tk, os⟩ := s
  have P := (N.push F (tupO rest)).push (F.push _) (exO C hh.objs.size none)
  rw [Heap.size_push] at P
  refine wpAny_call (exc_make (X₀.keeps F.keep) O hlen hi hf (h (hh.objs.size + 1) hh.objs.size _ ((F.push _).push _) (fun p hp => P p ?_) fun p hp => Nat.lt_succ_of_lt (Heap.lt_size (N p hp).1)))
  rcases List.mem_cons.mp hp with rfl | hp
  · exact .head _
  · exact .tail _ (.tail _ hp)
theorem exc_init_K {Q : Value → Shared → Prop} (F : Fr h₀ L s.heap m) (N : News h₀ L s.heap ((e, exO C q none) :: news)) (lt : ∀ p ∈ news, p.1 < e) (X : K.In h₀) (O : ExcIn K C) (hlen : rest.length ≤ sizeLine)
    (h : ∀ h' q', Fr h₀ L h' m → News h₀ L h' ((e, exO C q' none) :: (q', tupO rest) :: news) → Apart e q' news → Q .none { s with heap := h' }) :
    wpAny (model prog w) A (call (.builtin "Exception.__init__") (.ref e :: rest)) Q E s := by
  have FB := PySem.F.excBase_Exception
  obtain ⟨hh, g, d, tk, os⟩ := s
  have he := (N _ (.head _)).1
  have hes : e < hh.objs.size := Heap.lt_size he
  have P : Apart e hh.objs.size news := ⟨Nat.ne_of_gt hes, fun p hp => ⟨Nat.ne_of_lt (lt p hp), Nat.ne_of_lt (Heap.lt_size (N p (.tail _ hp)).1)⟩⟩
  obtain ⟨U1, U2⟩ := news_upd (pre := [(hh.objs.size, tupO rest)]) (f := Obj.mapFields (·.setIfInBounds 0 (.ref hh.objs.size))) (o := exO C q none) (o' := exO C hh.objs.size none)
    (F.push _) (N.push F (tupO rest)) (fun p hp => by rw [List.mem_singleton.mp hp]; exact P.both) (fun p hp => (P.rest p hp).1) rfl rfl
  refine wpAny_call (codeAny_call_builtin FB.init.plain FB.initEntry (init_check (X.keeps F.keep) O he (init_run hlen he (h _ _ U1 (fun p hp => U2 p ?_) P))))
  simp only [List.mem_cons, List.cons_append, List.nil_append] at hp ⊢
  rcases hp with z | z | z
  · exact .inr (.inl z)
  · exact .inl z
  · exact .inr (.inr z)
-- a name is laid into a dict that is empty yet
theorem lay_first {M : Model} {dx : Addr} {name : Str} {tk : Tok} {v : Value} {Q : Fin → Shared → Prop} (hd : s.heap.get? dx = some emptyDict) (h : ∀ h' tk', Heap.SameBut dx s.heap h' → Q (.done (.ret .none)) { s with heap := h', toks := tk' }) :
    wpAny M A (storeInDict dx (.str name tk) name v) Q E s := by
  have n0 : s.heap.Ns dx (fun _ => none) := ⟨_, _, _, hd, rfl, fun _ z => absurd z (Array.not_mem_empty _), fun _ => rfl⟩
  refine wpAny_bind (wpAny_pure (wpAny_bind (wpAny_nsSet1 (Heap.Ns1.of_empty n0) fun h' n1 same => ?_)))
  obtain ⟨o, es, ep, ho, hes, hsz⟩ := n1.count (.cons name v .nil)
  have small : es.size ≤ sizeLine + 1 := Nat.le_trans hsz (by rw [sizeLine_eq]; show 1 ≤ 16777217; decide)
  exact wpAny_bind (wpAny_lookBehind ho (by rw [hes]; exact pastItsLine_dict small) (wpAny_pure (h h' _ same)))
-- the first attribute that is stored upon the exception
theorem exc_set_K {name : Str} {v : Value} {args : List Value} {Q : Unit → Shared → Prop} (F : Fr h₀ L s.heap m) (N : News h₀ L s.heap ((e, exO C q none) :: (q, tupO args) :: news)) (P : Apart e q news) (X : K.In h₀) (O : ExcIn K C)
    (hs : findIn K (.ref C) "__setattr__" = some (some (.builtin "object.__setattr__"))) (ht : findIn K (.ref C) name = some none)
    (h : ∀ h' tk' dx, Fr h₀ L h' m → News h₀ L h' ((e, exO C q (some dx)) :: (q, tupO args) :: news) → Q () { s with heap := h', toks := tk' }) :
    wpAny (model prog w) A (setAttr (.ref e) name v) Q E s := by
  obtain ⟨hh, g, d, tk, os⟩ := s
  have X₁ := X.keeps F.keep
  have he := (N _ (.head _)).1
  have l1 : Looks (model prog w) hh (typeOf (.ref e)) (.ref C) := looks_type he
  have l2 : Looks (model prog w) hh (isInstance (.ref e) (.type "object")) true := l1.andThen (looks_mroIn X₁ O.obj)
  have l3 : Looks (model prog w) hh (typeLookup (.ref C) name) none := looks_findIn X₁ ht
  obtain ⟨oc, od, cd, sl, hC, hc, hdel, hdict, hmro, htail⟩ := O.there X₁
  have l4 : Looks (model prog w) hh (mroOf (.ref C)) cd.mro := (looks_clsIn X₁ hc).andThen .now
  have l5 : Looks (model prog w) hh (classData C) cd := looks_clsIn X₁ hc
  have SF := PySem.F.store_object
  refine set_plain (od := none) X₁ ⟨he, rfl, rfl, trivial⟩ hs ?_
  refine codeAny_call_builtin SF.slot.plain SF.entry (@check_slot (model prog w) _ _ ⟨hh, g, d, tk + 1, os⟩ "object.__setattr__" "object" "__setattr__" (.ref e) [.str name tk, v] [] _ SF.kind SF.split l2 (SF.args (.ref e) (.str name tk) v) ?_)
  rw [osa_eq, refuse_eq]
  refine wpAny_bind (wpAny_bind (l1.at (wpAny_bind (l4.at ?_))))
  rw [tail_refuse _ htail]
  refine wpAny_pure (wpAny_bind (l1.at (wpAny_bind (l3.at (wpAny_bind (wpAny_pure ?_))))))
  dsimp only
  unfold storeInOwnDict ownDictForStores instanceDict
  refine wpAny_bind (wpAny_pure (wpAny_bind (wpAny_bind (wpAny_loadPart he ?_))))
  dsimp only
  refine wpAny_bind (l5.at ?_)
  rw [hdict, if_neg (by decide), if_neg (by simp only [typeHasDict]; decide)]
  have he1 : (hh.push emptyDict).get? e = some (exO C q none) := Heap.get?_push_of_some emptyDict he
  refine wpAny_bind (wpAny_alloc' (wpAny_bind (wpAny_update' he1 (wpAny_pure ?_))))
  have new : ∀ p ∈ (e, exO C q none) :: (q, tupO args) :: news, p.1 < hh.objs.size := fun p hp => Heap.lt_size (N p hp).1
  obtain ⟨U1, U2⟩ := news_upd (pre := [(hh.objs.size, emptyDict)]) (f := fun o => { cls := o.cls, dict := some hh.objs.size, data := o.data, slots := o.slots }) (o := exO C q none) (o' := exO C q (some hh.objs.size))
    (F.push _) (N.push F emptyDict) (fun p hp => by rw [List.mem_singleton.mp hp]; exact Nat.ne_of_gt (new _ (.head _))) P.off rfl rfl
  obtain ⟨_, _, _, hL, _⟩ := F.ns
  refine lay_first (U2 _ (.head _)).1 fun h' tk' same => h h' tk' hh.objs.size (U1.sameNew (Heap.lt_size hL) same) fun p hp => ?_
  have n := U2 p (.tail _ hp)
  have ne : p.1 ≠ hh.objs.size := by
    rcases List.mem_cons.mp hp with rfl | hp
    · exact Nat.ne_of_lt (Heap.lt_size he)
    · exact Nat.ne_of_lt (new p (.tail _ hp))
  exact ⟨(same.2 p.1 ne).trans n.1, n.2⟩
end
end Mine
end
section
open PySem PySem.W PyProof.Rows PySem.Calls
set_option maxRecDepth 100000
set_option maxHeartbeats 4000000
namespace Mine
theorem one_fits (v : Value) : [v].length ≤ sizeLine := by rw [sizeLine_eq]; show 1 ≤ _; decide
theorem news_dup {h₀ h : Heap} {L : Addr} {news : List (Addr × Obj)} {q : Addr × Obj} (N : News h₀ L h news) (hm : q ∈ news) : News h₀ L h (q :: news) := fun p hp => by
  rcases List.mem_cons.mp hp with rfl | hp
  · exact N _ hm
  · exact N _ hp
theorem news_sub {h₀ h : Heap} {L : Addr} {news news' : List (Addr × Obj)} (N : News h₀ L h news) (hs : ∀ p ∈ news', p ∈ news) : News h₀ L h news' := fun p hp => N p (hs p hp)
-- what is raised is an object of the class at C
def ExcBack (C : Addr) (E : Value → Shared → Prop) (v : Value) (s : Shared) : Prop :=
  ∃ e q od, v = .ref e ∧ (∀ M, Looks M s.heap (isSubtype (.ref C) (.type "BaseException")) true) ∧ (∀ M, Looks M s.heap (typeOf (.ref C)) (.type "type")) ∧ s.heap.get? e = some (exO C q od) ∧ E (.ref e) s
section
variable {prog : Program} {w : World} {A : Around} {K : Frag} {C L e q : Addr} {od : Option Addr} {s : Shared} {h₀ : Heap} {m : Str → Option Value} {news : List (Addr × Obj)} {E : Value → Shared → Prop}
theorem excBack_of (X₀ : K.In h₀) (F : Fr h₀ L s.heap m) (N : News h₀ L s.heap news) (hm : (e, exO C q od) ∈ news) (O : ExcIn K C) (h : E (.ref e) s) : ExcBack C E (.ref e) s :=
  ⟨e, q, od, rfl, fun _ => looks_mroIn (X₀.keeps F.keep) O.top, fun _ => looks_typeIn (X₀.keeps F.keep) O.kind, (N _ hm).1, h⟩
theorem exc_stmt {x : Sem Value} {env : Env} {Q : Flow → Shared → Prop} (hh : A.handled = none) (h : wpAny (model prog w) A x (ExcBack C E) E s) :
    wpAny (model prog w) A (raiseStmt env (some x) none) Q E s := by
  unfold raiseStmt
  refine wpAny_bind (wpAny_mono h (fun v s₁ hv => ?_) fun _ _ z => z)
  obtain ⟨e, q, od, rfl, top, kind, he, hE⟩ := hv
  obtain ⟨hp, g, d, tk, os⟩ := s₁
  have l1 : Looks (model prog w) hp (typeOf (.ref e)) (.ref C) := looks_type he
  have l2 : Looks (model prog w) hp (isInstance (.ref e) (.type "BaseException")) true := l1.andThen (top _)
  have l3 : Looks (model prog w) hp (typeOf (.ref C)) (.type "type") := kind _
  dsimp only at he
  repeat (first | exact wpAny_raiseNew_none hh hE | lk)
theorem exc_raise {ex : PySem.Expr} {env : Env} {pos : Pos} {Q : Flow → Shared → Prop} (C : Addr) (hh : A.handled = none) (h : wpAny (model prog w) A (eval ex env) (ExcBack C E) E s) :
    wpAny (model prog w) A (exec (.Raise (some ex) none pos) env) Q E s := by
  rw [arm_exec_Raise]
  refine wpAny_bind (wpAny_standAt (exc_stmt (C := C) hh (wpAny_bind (wpAny_mono h (fun v s₁ hv => ?_) fun _ _ z => z))))
  exact wpAny_bind (wpAny_standAt (wpAny_pure hv))
end
section
variable {M : Model} {A : Around} {E : Value → Shared → Prop} {s : Shared} {base g : Heap} {outer : List Env} {L a e q C : Addr} {od : Option Addr} {m : Str → Option Value} {name : Str} {scope : Scope} {cd : Value} {Q : Unit → Shared → Prop} {news : List (Addr × Obj)} {args : List Value}
-- the exception leaves the def in which it was made: what the caller knows of it
theorem leave_ownS (K : Below A base outer g) (F : Fr g L s.heap m) (N : News g L s.heap ((e, exO C q od) :: (q, tupO args) :: news)) (P : Apart e q news)
    (hQ : ∀ h', RaisedS base g outer e (.ref C) q args news h' → g.UpToSlots h' → Q () { s with heap := h' }) (hk : scope.kind = .function := by rfl) :
    wpAny M (A.deeper (envOf name scope L a cd)) (leaving (envOf name scope L a cd) (.ref e)) Q E s := by
  have oe := N _ (.head _)
  have oq := N _ (.tail _ (.head _))
  let frames := (envOf name scope L a cd :: outer).filterMap (·.frame)
  let H := hideAll s.heap (e :: q :: frames)
  have which : ∀ b, b ∈ e :: q :: frames → g.get? b = none ∨ b ∈ outer.filterMap (·.frame) := fun b hb => by
    rcases List.mem_cons.mp hb with rfl | hb
    · exact .inl oe.2.2
    rcases List.mem_cons.mp hb with rfl | hb
    · exact .inl oq.2.2
    rcases kts_mem hb with rfl | hb
    · exact .inl (kts_self F)
    · exact .inr hb
  have keep : ∀ b o, g.get? b = some o → b ∉ outer.filterMap (·.frame) → H.get? b = some o := fun b o hb hn => hideAll_get _ (F.keep b o hb) fun hm => by
    rcases which b hm with z | z
    · rw [z] at hb; cases hb
    · exact hn z
  have stays : base.StaysIn H := fun b o hb => keep b o (K.stays b o hb) fun hm => by
    rw [(K.frames.mem hm).1] at hb; cases hb
  have rest : ∀ p ∈ news, H.get? p.1 = some p.2 ∧ g.get? p.1 = none ∧ base.get? p.1 = none := fun p hp => by
    have n := N p (.tail _ (.tail _ hp))
    refine ⟨hideAll_get _ n.1 fun hm => ?_, n.2.2, fresh_of_stays K.stays n.2.2⟩
    rcases List.mem_cons.mp hm with z | hm
    · exact (P.rest p hp).1 z
    rcases List.mem_cons.mp hm with z | hm
    · exact (P.rest p hp).2 z
    rcases kts_mem hm with z | z
    · exact n.2.1 z
    · obtain ⟨o, ho, _⟩ := (K.frames.mem z).2
      rw [n.2.2] at ho; cases ho
  have inH : ∀ env ∈ envOf name scope L a cd :: outer, ∀ b, env.frame = some b → b ∈ e :: q :: frames := fun env he b hb => .tail _ (.tail _ (List.mem_filterMap.mpr ⟨env, he, hb⟩))
  have K' := K.push (name := name) (a := a) (cd := cd) F hk
  refine wpAny_leaving_firstW (base := H) (a0 := .ref q) K'.stack (funFrames_hide K'.frames inH) rfl oe.1 (fun b o hb => of_hideAll _ hb) (hideAll_none _ (.head _)) rfl rfl rfl fun h' left => ?_
  obtain ⟨k1, ⟨_, _, k2⟩, k3, k4⟩ := left
  exact hQ h' ⟨⟨H, stays, keep, rest, ⟨k1, hideAll_none _ (.head _), k2, k3⟩, hideAll_none _ (.tail _ (.head _))⟩, Heap.TupAt.of_slots ⟨_, _, oq.1, rfl, rfl⟩ k4⟩ ((Heap.UpToSlots.of_keeps F.keep).trans k4)
end
end Mine
end
open PySem PySem.W PyProof.Rows
namespace Mine
local macro_rules | `(tactic| k_all) => `(tactic| assumption)
local macro_rules | `(tactic| cell_enter) => `(tactic| k_extra "my enter")
local macro_rules | `(tactic| walk_at $s:str) => `(tactic| k_extra $s)
set_option maxRecDepth 100000 in
set_option maxHeartbeats 8000000 in
theorem c_sign (w : World) (mean : ExcName → Option Value) (mg mb : Str → Option Value) : ∀ (dp un : Nat) (gd : Option (List Code)) (cn : Str) (cs : Scope) (a : Addr) (ccd : Value) (cl : List (Str × Addr)) (outer : List Env) (A₀ : Around) (base h₀ : Heap) (L : Addr) (m : Str → Option Value) (s : Shared) (Q E : Value → Shared → Prop) (news : List (Addr × Obj)) (x : Int) (t : Tok),
    Below A₀ base outer h₀ → Fr h₀ L s.heap m → (hd.heap_39 w.params).In h₀ → Top hd.view_39 (looseW hd.view_39 [Str.ofString "MOST", Str.ofString "number_of"]) mean mg mb h₀ → cs.kind = .function → dp + 6 < recursionLimit → un + 48 < cLine →
    News h₀ L s.heap news →
    (∀ g tt h' tk', g = sgn x → -1 ≤ g → g ≤ 1 → Fr h₀ L h' m → News h₀ L h' news → Q (.int g tt) { s with heap := h', toks := tk' }) →
    wpAny (model PySem.Challenge.rw_xm0656_01.row.prog w) (ktrTop dp un gd cn cs L a ccd cl outer) (call (.ref 62) [.int x t]) Q E s := by
  k_with_none
  k_with "subscriptTail Name Constant ref int" => (k_here; (with_reducible show wpAny _ _ (subscriptTail _ _ (Value.ref _) (Value.int _ _)) _ _ _); k_dflt (refine tupAt (by k_asm) (by (with_reducible (repeat (first | assumption | exact List.mem_cons_self | refine List.mem_cons_of_mem _ ?_)))) (by decide) (by decide) (by rfl) (by rfl) ?_))
  k_with "subscriptTail Name Constant ref int" => (k_here; (with_reducible show wpAny _ _ (subscriptTail _ _ (Value.ref _) (Value.int _ _)) _ _ _); (with_unfolding_all refine' item_litK ?k1 ?k2 ?k3 ?k4 ?_ ?k6; (case k1 => is_list); (case k2 => decide); (case k3 => decide); (case k4 => rfl); (case k6 => with_unfolding_all rfl); k_whole))
  k_with "binaryOp Mod int int" => (k_here; (with_reducible refine mod_nm ?kb ?_); (case kb => first | omega | exact pos_of_mul (by with_reducible assumption) (by omega) (by omega) | exact pos_of_abs (by with_reducible assumption) (nez_of_mul (by with_reducible assumption) (by omega) (by omega)) | exact pos_of_abs (by with_reducible assumption) (by omega) | exact pos_of_mul (by with_reducible assumption) (by omega) (pos_of_abs (by with_reducible assumption) (by omega))); intro _ _ _ _)
  k_with "binaryOp FloorDiv int int" => (k_here; first
      | ((with_reducible refine div_nn ?kb ?kc ?ka ?_); (case ka => first | omega | exact nonneg_of_mul (by with_reducible assumption) (by omega) (by omega)); (case kb => first | omega | exact pos_of_mul (by with_reducible assumption) (by omega) (by omega) | exact pos_of_abs (by with_reducible assumption) (nez_of_mul (by with_reducible assumption) (by omega) (by omega)) | exact pos_of_abs (by with_reducible assumption) (by omega) | exact pos_of_mul (by with_reducible assumption) (by omega) (pos_of_abs (by with_reducible assumption) (by omega))); (case kc => omega); intro _ _ _ _)
      | ((with_reducible refine div_nm ?kb ?kc ?_); (case kb => first | omega | exact pos_of_mul (by with_reducible assumption) (by omega) (by omega) | exact pos_of_abs (by with_reducible assumption) (nez_of_mul (by with_reducible assumption) (by omega) (by omega)) | exact pos_of_abs (by with_reducible assumption) (by omega) | exact pos_of_mul (by with_reducible assumption) (by omega) (pos_of_abs (by with_reducible assumption) (by omega))); (case kc => omega); intro _ _))
  k_with "binaryOp Mult int int" => (k_here; first
      | ((with_reducible refine mul_nm (X := 1099511627776) (Y := 1099511627776) (Z := 1208925819614629174706176) ?ka ?kA ?kb ?kB (by decide) (by decide) (by decide) ?_); (case ka => omega); (case kA => omega); (case kb => omega); (case kB => omega); intro _ _ _ _)
      | ((with_reducible refine mul_nm (X := 1208925819614629174706176) (Y := 1099511627776) (Z := 1329227995784915872903807060280344576) ?ka ?kA ?kb ?kB (by decide) (by decide) (by decide) ?_); (case ka => omega); (case kA => omega); (case kb => omega); (case kB => omega); intro _ _ _ _)
      | ((with_reducible refine mul_nm (X := 1099511627776) (Y := 1208925819614629174706176) (Z := 1329227995784915872903807060280344576) ?ka ?kA ?kb ?kB (by decide) (by decide) (by decide) ?_); (case ka => omega); (case kA => omega); (case kb => omega); (case kB => omega); intro _ _ _ _)
      | ((with_reducible refine mul_nm (X := 1329227995784915872903807060280344576) (Y := 1099511627776) (Z := 1461501637330902918203684832716283019655932542976) ?ka ?kA ?kb ?kB (by decide) (by decide) (by decide) ?_); (case ka => omega); (case kA => omega); (case kb => omega); (case kB => omega); intro _ _ _ _)
      | ((with_reducible refine mul_lit ?ka ?kb ?kB ?_); (case ka => decide +kernel); (case kb => omega); (case kB => omega); intro _ _))
  k_with "call builtin:abs" => (k_here; first
      | ((with_reducible refine abs_nm (X := 1099511627776) ?ka ?kA ?_); (case ka => omega); (case kA => omega); intro _ _ _ _ _ _)
      | ((with_reducible refine abs_nm (X := 1208925819614629174706176) ?ka ?kA ?_); (case ka => omega); (case kA => omega); intro _ _ _ _ _ _)
      | ((with_reducible refine abs_nm (X := 1329227995784915872903807060280344576) ?ka ?kA ?_); (case ka => omega); (case kA => omega); intro _ _ _ _ _ _))
  k_with "my enter" => (refine' code_def ?k1 ?k2 ?k3 ?k4 ?k5 ?kA ?kF ?kK ?k6 ?k7 ?k8 ?k9 ?kB ?_ ?c2 ?c3 ?c4 ?c5; (case kA => exact rfl); (case kF => exact rfl); (case kK => first | exact rfl | assumption); (case k1 => k_asm); (case k2 => k_asm); (case k3 => k_asm); (case k4 => k_asm); (case k5 => k_asm); (case k6 => k_is); (case k7 => k_is); (case k8 => ktr_room); (case k9 => first | exact binds_K (by k_in) rfl (by k_is) rfl rfl rfl | exact BindsTo.of_eq rfl); (case c5 => decide); (case kB => exact locs rfl); (case c2 => exact rfl); (case c3 => exact rfl); (case c4 => exact rfl); k_whole; intro g' L' h' FG' F' N' B' X' T'; (try dsimp only); (try k_lift B'); (try k_fold))
  k_with "ite" => (k_here; k_openite; first
      | (refine ite_pos (by first | omega | (simp only [decide_eq_true_eq, beq_iff_eq, bne_iff_ne, ne_eq, Bool.not_eq_true', decide_eq_false_iff_not]; omega)) ?_; walk_say "PRUNED mine")
      | (refine ite_neg (by first | omega | (simp only [decide_eq_true_eq, beq_iff_eq, bne_iff_ne, ne_eq, Bool.not_eq_true', decide_eq_false_iff_not]; omega)) ?_; walk_say "PRUNED mine"))
  k_with "call ref" => (k_here; (refine wpAny_call ?_); k_dflt cell_enter)
  k_fill
  intro dp un gd cn cs a ccd cl outer A₀ base h₀ L m s Q E news x t B F X T hk hdp hun N hret
  refine wpAny_call ?_
  k_dflt cell_enter
  k_steps
  all_goals (refine' (fun g tt h' tk' e F N => hret g tt h' tk' e (e ▸ sgn_lo x) (e ▸ sgn_hi x) F N) _ _ _ _ ?e1 ?eF ?eN; (case eF => k_asm); (case eN => first | k_asm | (refine' cb_drop ?cbN ?cbS; (case cbN => assumption); (case cbS => kcj_all))); (case e1 => (try simp only [decide_eq_true_eq]); unfold sgn; (repeat' split) <;> omega))

set_option maxRecDepth 100000 in
set_option maxHeartbeats 8000000 in
theorem c_cdiv (w : World) (mean : ExcName → Option Value) (mg mb : Str → Option Value) : ∀ (dp un : Nat) (gd : Option (List Code)) (cn : Str) (cs : Scope) (a : Addr) (ccd : Value) (cl : List (Str × Addr)) (outer : List Env) (A₀ : Around) (base h₀ : Heap) (L : Addr) (m : Str → Option Value) (s : Shared) (Q E : Value → Shared → Prop) (news : List (Addr × Obj)) (x y : Int) (t u : Tok),
    Below A₀ base outer h₀ → Fr h₀ L s.heap m → (hd.heap_39 w.params).In h₀ → Top hd.view_39 (looseW hd.view_39 [Str.ofString "MOST", Str.ofString "number_of"]) mean mg mb h₀ → cs.kind = .function → dp + 6 < recursionLimit → un + 48 < cLine →
    News h₀ L s.heap news → -1329227995784915872903807060280344576 ≤ x → x ≤ 1329227995784915872903807060280344576 → 0 < y → y ≤ 1329227995784915872903807060280344576 →
    (∀ g tt h' tk', g = (Int.gcd x y : Int) → 0 < g → g ≤ y → Fr h₀ L h' m → News h₀ L h' news → Q (.int g tt) { s with heap := h', toks := tk' }) →
    wpAny (model PySem.Challenge.rw_xm0656_01.row.prog w) (ktrTop dp un gd cn cs L a ccd cl outer) (call (.ref 55) [.int x t, .int y u]) Q E s := by
  k_with_none
  k_with "subscriptTail Name Constant ref int" => (k_here; (with_reducible show wpAny _ _ (subscriptTail _ _ (Value.ref _) (Value.int _ _)) _ _ _); k_dflt (refine tupAt (by k_asm) (by (with_reducible (repeat (first | assumption | exact List.mem_cons_self | refine List.mem_cons_of_mem _ ?_)))) (by decide) (by decide) (by rfl) (by rfl) ?_))
  k_with "subscriptTail Name Constant ref int" => (k_here; (with_reducible show wpAny _ _ (subscriptTail _ _ (Value.ref _) (Value.int _ _)) _ _ _); (with_unfolding_all refine' item_litK ?k1 ?k2 ?k3 ?k4 ?_ ?k6; (case k1 => is_list); (case k2 => decide); (case k3 => decide); (case k4 => rfl); (case k6 => with_unfolding_all rfl); k_whole))
  k_with "binaryOp Mod int int" => (k_here; (with_reducible refine mod_nm ?kb ?_); (case kb => first | omega | exact pos_of_mul (by with_reducible assumption) (by omega) (by omega) | exact pos_of_abs (by with_reducible assumption) (nez_of_mul (by with_reducible assumption) (by omega) (by omega)) | exact pos_of_abs (by with_reducible assumption) (by omega) | exact pos_of_mul (by with_reducible assumption) (by omega) (pos_of_abs (by with_reducible assumption) (by omega))); intro _ _ _ _)
  k_with "binaryOp FloorDiv int int" => (k_here; first
      | ((with_reducible refine div_nn ?kb ?kc ?ka ?_); (case ka => first | omega | exact nonneg_of_mul (by with_reducible assumption) (by omega) (by omega)); (case kb => first | omega | exact pos_of_mul (by with_reducible assumption) (by omega) (by omega) | exact pos_of_abs (by with_reducible assumption) (nez_of_mul (by with_reducible assumption) (by omega) (by omega)) | exact pos_of_abs (by with_reducible assumption) (by omega) | exact pos_of_mul (by with_reducible assumption) (by omega) (pos_of_abs (by with_reducible assumption) (by omega))); (case kc => omega); intro _ _ _ _)
      | ((with_reducible refine div_nm ?kb ?kc ?_); (case kb => first | omega | exact pos_of_mul (by with_reducible assumption) (by omega) (by omega) | exact pos_of_abs (by with_reducible assumption) (nez_of_mul (by with_reducible assumption) (by omega) (by omega)) | exact pos_of_abs (by with_reducible assumption) (by omega) | exact pos_of_mul (by with_reducible assumption) (by omega) (pos_of_abs (by with_reducible assumption) (by omega))); (case kc => omega); intro _ _))
  k_with "binaryOp Mult int int" => (k_here; first
      | ((with_reducible refine mul_nm (X := 1099511627776) (Y := 1099511627776) (Z := 1208925819614629174706176) ?ka ?kA ?kb ?kB (by decide) (by decide) (by decide) ?_); (case ka => omega); (case kA => omega); (case kb => omega); (case kB => omega); intro _ _ _ _)
      | ((with_reducible refine mul_nm (X := 1208925819614629174706176) (Y := 1099511627776) (Z := 1329227995784915872903807060280344576) ?ka ?kA ?kb ?kB (by decide) (by decide) (by decide) ?_); (case ka => omega); (case kA => omega); (case kb => omega); (case kB => omega); intro _ _ _ _)
      | ((with_reducible refine mul_nm (X := 1099511627776) (Y := 1208925819614629174706176) (Z := 1329227995784915872903807060280344576) ?ka ?kA ?kb ?kB (by decide) (by decide) (by decide) ?_); (case ka => omega); (case kA => omega); (case kb => omega); (case kB => omega); intro _ _ _ _)
      | ((with_reducible refine mul_nm (X := 1329227995784915872903807060280344576) (Y := 1099511627776) (Z := 1461501637330902918203684832716283019655932542976) ?ka ?kA ?kb ?kB (by decide) (by decide) (by decide) ?_); (case ka => omega); (case kA => omega); (case kb => omega); (case kB => omega); intro _ _ _ _)
      | ((with_reducible refine mul_lit ?ka ?kb ?kB ?_); (case ka => decide +kernel); (case kb => omega); (case kB => omega); intro _ _))
  k_with "call builtin:abs" => (k_here; first
      | ((with_reducible refine abs_nm (X := 1099511627776) ?ka ?kA ?_); (case ka => omega); (case kA => omega); intro _ _ _ _ _ _)
      | ((with_reducible refine abs_nm (X := 1208925819614629174706176) ?ka ?kA ?_); (case ka => omega); (case kA => omega); intro _ _ _ _ _ _)
      | ((with_reducible refine abs_nm (X := 1329227995784915872903807060280344576) ?ka ?kA ?_); (case ka => omega); (case kA => omega); intro _ _ _ _ _ _))
  k_with "my enter" => (refine' code_def ?k1 ?k2 ?k3 ?k4 ?k5 ?kA ?kF ?kK ?k6 ?k7 ?k8 ?k9 ?kB ?_ ?c2 ?c3 ?c4 ?c5; (case kA => exact rfl); (case kF => exact rfl); (case kK => first | exact rfl | assumption); (case k1 => k_asm); (case k2 => k_asm); (case k3 => k_asm); (case k4 => k_asm); (case k5 => k_asm); (case k6 => k_is); (case k7 => k_is); (case k8 => ktr_room); (case k9 => first | exact binds_K (by k_in) rfl (by k_is) rfl rfl rfl | exact BindsTo.of_eq rfl); (case c5 => decide); (case kB => exact locs rfl); (case c2 => exact rfl); (case c3 => exact rfl); (case c4 => exact rfl); k_whole; intro g' L' h' FG' F' N' B' X' T'; (try dsimp only); (try k_lift B'); (try k_fold))
  k_with "ite" => (k_here; k_openite; first
      | (refine ite_pos (by first | omega | (simp only [decide_eq_true_eq, beq_iff_eq, bne_iff_ne, ne_eq, Bool.not_eq_true', decide_eq_false_iff_not]; omega)) ?_; walk_say "PRUNED mine")
      | (refine ite_neg (by first | omega | (simp only [decide_eq_true_eq, beq_iff_eq, bne_iff_ne, ne_eq, Bool.not_eq_true', decide_eq_false_iff_not]; omega)) ?_; walk_say "PRUNED mine"))
  k_with "call ref" => (k_here; (refine wpAny_call ?_); k_dflt cell_enter)
  k_with "exec While Compare cons nil" => k_while (fun _ f g => 0 ≤ f ∧ 0 ≤ g ∧ f ≤ 1329227995784915872903807060280344576 ∧ g ≤ 1329227995784915872903807060280344576 ∧ (0 < f ∨ 0 < g) ∧ Int.gcd f g = Int.gcd x y) (fun _ f g => g.toNat) "first" "second"
  k_with "state" => (first | exact gcd_start (by assumption) (by assumption) (by assumption) (by assumption) (by assumption) | exact gcd_turn (by assumption) (by assumption) (by assumption) (by assumption) (by assumption) (by assumption))
  k_with "measure" => exact gcd_less (by assumption) (by assumption)
  k_fill
  intro dp un gd cn cs a ccd cl outer A₀ base h₀ L m s Q E news x y t u B F X T hk hdp hun N hx hx' hy hy2 hret
  refine wpAny_call ?_
  k_dflt cell_enter
  k_steps
  all_goals (refine' hret _ _ _ _ ?e1 ?e2 ?e3 ?eF ?eN; (case eF => k_asm); (case eN => first | k_asm | (refine' cb_drop ?cbN ?cbS; (case cbN => assumption); (case cbS => kcj_all))); (case e1 => exact gcd_done (by assumption) (by assumption) (by assumption) (by assumption)); (case e2 => omega); (case e3 => exact Int.le_trans (Int.le_of_eq (gcd_done (by assumption) (by assumption) (by assumption) (by assumption))) (gcd_le' hy)))

set_option maxRecDepth 100000 in
set_option maxHeartbeats 8000000 in
theorem c_lowest (w : World) (mean : ExcName → Option Value) (mg mb : Str → Option Value) : ∀ (dp un : Nat) (gd : Option (List Code)) (cn : Str) (cs : Scope) (a : Addr) (ccd : Value) (cl : List (Str × Addr)) (outer : List Env) (A₀ : Around) (base h₀ : Heap) (L : Addr) (m : Str → Option Value) (s : Shared) (Q E : Value → Shared → Prop) (news : List (Addr × Obj)) (x y : Int) (t u : Tok),
    Below A₀ base outer h₀ → Fr h₀ L s.heap m → (hd.heap_39 w.params).In h₀ → Top hd.view_39 (looseW hd.view_39 [Str.ofString "MOST", Str.ofString "number_of"]) mean mg mb h₀ → cs.kind = .function → dp + 6 < recursionLimit → un + 48 < cLine →
    News h₀ L s.heap news → -1329227995784915872903807060280344576 ≤ x → x ≤ 1329227995784915872903807060280344576 → 0 < y → y ≤ 1329227995784915872903807060280344576 →
    (∀ X Y D t1 t2 h' tk', X = lowN x y → Y = lowD x y → Fr h₀ L h' m → News h₀ L h' ((D, { cls := .type "tuple", data := .seq #[.int X t1, .int Y t2] }) :: news) → (∀ p ∈ news, p.1 < D) → Q (.ref D) { s with heap := h', toks := tk' }) →
    wpAny (model PySem.Challenge.rw_xm0656_01.row.prog w) (ktrTop dp un gd cn cs L a ccd cl outer) (call (.ref 161) [.int x t, .int y u]) Q E s := by
  k_with_none
  k_with "subscriptTail Name Constant ref int" => (k_here; (with_reducible show wpAny _ _ (subscriptTail _ _ (Value.ref _) (Value.int _ _)) _ _ _); k_dflt (refine tupAt (by k_asm) (by (with_reducible (repeat (first | assumption | exact List.mem_cons_self | refine List.mem_cons_of_mem _ ?_)))) (by decide) (by decide) (by rfl) (by rfl) ?_))
  k_with "subscriptTail Name Constant ref int" => (k_here; (with_reducible show wpAny _ _ (subscriptTail _ _ (Value.ref _) (Value.int _ _)) _ _ _); (with_unfolding_all refine' item_litK ?k1 ?k2 ?k3 ?k4 ?_ ?k6; (case k1 => is_list); (case k2 => decide); (case k3 => decide); (case k4 => rfl); (case k6 => with_unfolding_all rfl); k_whole))
  k_with "binaryOp Mod int int" => (k_here; (with_reducible refine mod_nm ?kb ?_); (case kb => first | omega | exact pos_of_mul (by with_reducible assumption) (by omega) (by omega) | exact pos_of_abs (by with_reducible assumption) (nez_of_mul (by with_reducible assumption) (by omega) (by omega)) | exact pos_of_abs (by with_reducible assumption) (by omega) | exact pos_of_mul (by with_reducible assumption) (by omega) (pos_of_abs (by with_reducible assumption) (by omega))); intro _ _ _ _)
  k_with "binaryOp FloorDiv int int" => (k_here; first
      | ((with_reducible refine div_nn ?kb ?kc ?ka ?_); (case ka => first | omega | exact nonneg_of_mul (by with_reducible assumption) (by omega) (by omega)); (case kb => first | omega | exact pos_of_mul (by with_reducible assumption) (by omega) (by omega) | exact pos_of_abs (by with_reducible assumption) (nez_of_mul (by with_reducible assumption) (by omega) (by omega)) | exact pos_of_abs (by with_reducible assumption) (by omega) | exact pos_of_mul (by with_reducible assumption) (by omega) (pos_of_abs (by with_reducible assumption) (by omega))); (case kc => omega); intro _ _ _ _)
      | ((with_reducible refine div_nm ?kb ?kc ?_); (case kb => first | omega | exact pos_of_mul (by with_reducible assumption) (by omega) (by omega) | exact pos_of_abs (by with_reducible assumption) (nez_of_mul (by with_reducible assumption) (by omega) (by omega)) | exact pos_of_abs (by with_reducible assumption) (by omega) | exact pos_of_mul (by with_reducible assumption) (by omega) (pos_of_abs (by with_reducible assumption) (by omega))); (case kc => omega); intro _ _))
  k_with "binaryOp Mult int int" => (k_here; first
      | ((with_reducible refine mul_nm (X := 1099511627776) (Y := 1099511627776) (Z := 1208925819614629174706176) ?ka ?kA ?kb ?kB (by decide) (by decide) (by decide) ?_); (case ka => omega); (case kA => omega); (case kb => omega); (case kB => omega); intro _ _ _ _)
      | ((with_reducible refine mul_nm (X := 1208925819614629174706176) (Y := 1099511627776) (Z := 1329227995784915872903807060280344576) ?ka ?kA ?kb ?kB (by decide) (by decide) (by decide) ?_); (case ka => omega); (case kA => omega); (case kb => omega); (case kB => omega); intro _ _ _ _)
      | ((with_reducible refine mul_nm (X := 1099511627776) (Y := 1208925819614629174706176) (Z := 1329227995784915872903807060280344576) ?ka ?kA ?kb ?kB (by decide) (by decide) (by decide) ?_); (case ka => omega); (case kA => omega); (case kb => omega); (case kB => omega); intro _ _ _ _)
      | ((with_reducible refine mul_nm (X := 1329227995784915872903807060280344576) (Y := 1099511627776) (Z := 1461501637330902918203684832716283019655932542976) ?ka ?kA ?kb ?kB (by decide) (by decide) (by decide) ?_); (case ka => omega); (case kA => omega); (case kb => omega); (case kB => omega); intro _ _ _ _)
      | ((with_reducible refine mul_lit ?ka ?kb ?kB ?_); (case ka => decide +kernel); (case kb => omega); (case kB => omega); intro _ _))
  k_with "call builtin:abs" => (k_here; first
      | ((with_reducible refine abs_nm (X := 1099511627776) ?ka ?kA ?_); (case ka => omega); (case kA => omega); intro _ _ _ _ _ _)
      | ((with_reducible refine abs_nm (X := 1208925819614629174706176) ?ka ?kA ?_); (case ka => omega); (case kA => omega); intro _ _ _ _ _ _)
      | ((with_reducible refine abs_nm (X := 1329227995784915872903807060280344576) ?ka ?kA ?_); (case ka => omega); (case kA => omega); intro _ _ _ _ _ _))
  k_with "my enter" => (refine' code_def ?k1 ?k2 ?k3 ?k4 ?k5 ?kA ?kF ?kK ?k6 ?k7 ?k8 ?k9 ?kB ?_ ?c2 ?c3 ?c4 ?c5; (case kA => exact rfl); (case kF => exact rfl); (case kK => first | exact rfl | assumption); (case k1 => k_asm); (case k2 => k_asm); (case k3 => k_asm); (case k4 => k_asm); (case k5 => k_asm); (case k6 => k_is); (case k7 => k_is); (case k8 => ktr_room); (case k9 => first | exact binds_K (by k_in) rfl (by k_is) rfl rfl rfl | exact BindsTo.of_eq rfl); (case c5 => decide); (case kB => exact locs rfl); (case c2 => exact rfl); (case c3 => exact rfl); (case c4 => exact rfl); k_whole; intro g' L' h' FG' F' N' B' X' T'; (try dsimp only); (try k_lift B'); (try k_fold))
  k_with "ite" => (k_here; k_openite; first
      | (refine ite_pos (by first | omega | (simp only [decide_eq_true_eq, beq_iff_eq, bne_iff_ne, ne_eq, Bool.not_eq_true', decide_eq_false_iff_not]; omega)) ?_; walk_say "PRUNED mine")
      | (refine ite_neg (by first | omega | (simp only [decide_eq_true_eq, beq_iff_eq, bne_iff_ne, ne_eq, Bool.not_eq_true', decide_eq_false_iff_not]; omega)) ?_; walk_say "PRUNED mine"))
  k_with "call ref" => (k_here; (refine wpAny_call ?_); k_dflt cell_enter)
  k_with "exec While Compare cons nil" => k_while (fun _ f g => 0 ≤ f ∧ 0 ≤ g ∧ f ≤ 1329227995784915872903807060280344576 ∧ g ≤ 1329227995784915872903807060280344576 ∧ (0 < f ∨ 0 < g) ∧ Int.gcd f g = Int.gcd x y) (fun _ f g => g.toNat) "one" "other"
  k_with "state" => (first | exact gcd_start (by assumption) (by assumption) (by assumption) (by assumption) (by assumption) | exact gcd_turn (by assumption) (by assumption) (by assumption) (by assumption) (by assumption) (by assumption))
  k_with "measure" => exact gcd_less (by assumption) (by assumption)
  k_fill
  intro dp un gd cn cs a ccd cl outer A₀ base h₀ L m s Q E news x y t u B F X T hk hdp hun N hx hx' hy hy2 hret
  refine wpAny_call ?_
  k_dflt cell_enter
  k_steps
  all_goals (refine' hret _ _ _ _ _ _ _ ?e1 ?e2 ?eF ?eN ?eL; (case eF => k_asm); (case eN => first | k_asm | (refine' cb_drop ?cbN ?cbS; (case cbN => assumption); (case cbS => kcj_all))); (case eL => first | assumption | exact ktn_ltOf (by first | assumption | exact (And.right (by assumption)) | exact (And.right (And.right (by assumption))) | exact (And.right (And.right (And.right (by assumption)))))); (case e1 => exact low_1 (by assumption) (by assumption) (by assumption) (by assumption) (by assumption) ); (case e2 => exact low_2 (by assumption) (by assumption) (by assumption) (by assumption) (by assumption) ))

set_option maxRecDepth 100000 in
set_option maxHeartbeats 8000000 in
theorem c_take (w : World) (mean : ExcName → Option Value) (mg mb : Str → Option Value) : ∀ (dp un : Nat) (gd : Option (List Code)) (cn : Str) (cs : Scope) (a : Addr) (ccd : Value) (cl : List (Str × Addr)) (outer : List Env) (A₀ : Around) (base h₀ : Heap) (L : Addr) (m : Str → Option Value) (s : Shared) (Q E : Value → Shared → Prop) (rest : List (Addr × Obj)) (src : Addr) (nn : Nat) (h b top : Int) (t u v : Tok),
    Below A₀ base outer h₀ → Fr h₀ L s.heap m → (hd.heap_39 w.params).In h₀ → Top hd.view_39 (looseW hd.view_39 [Str.ofString "MOST", Str.ofString "number_of"]) mean mg mb h₀ → cs.kind = .function → dp + 6 < recursionLimit → un + 48 < cLine →
    News h₀ L s.heap ((src, { cls := .type "list", data := .seq #[.int h t, .int b u] nn }) :: rest) → (∀ p ∈ rest, p.1 ≠ src) → 0 ≤ h → 0 ≤ b → b ≤ 2147483648 → 0 < top → top ≤ 1099511627776 →
    (∀ d tt hh bb t1 t2 h' tk', 0 ≤ d → d < top → 0 ≤ hh → 0 ≤ bb → bb ≤ 2147483648 → Fr h₀ L h' m → News h₀ L h' ((src, { cls := .type "list", data := .seq #[.int hh t1, .int bb t2] nn }) :: rest) → Q (.int d tt) { s with heap := h', toks := tk' }) →
    wpAny (model PySem.Challenge.rw_xm0656_01.row.prog w) (ktrTop dp un gd cn cs L a ccd cl outer) (call (.ref 147) [.ref src, .int top v]) Q E s := by
  k_with_none
  k_with "subscriptTail Name Constant ref int" => (k_here; (with_reducible show wpAny _ _ (subscriptTail _ _ (Value.ref _) (Value.int _ _)) _ _ _); k_dflt (refine tupAt (by k_asm) (by (with_reducible (repeat (first | assumption | exact List.mem_cons_self | refine List.mem_cons_of_mem _ ?_)))) (by decide) (by decide) (by rfl) (by rfl) ?_))
  k_with "subscriptTail Name Constant ref int" => (k_here; (with_reducible show wpAny _ _ (subscriptTail _ _ (Value.ref _) (Value.int _ _)) _ _ _); (with_unfolding_all refine' item_litK ?k1 ?k2 ?k3 ?k4 ?_ ?k6; (case k1 => is_list); (case k2 => decide); (case k3 => decide); (case k4 => rfl); (case k6 => with_unfolding_all rfl); k_whole))
  k_with "binaryOp Mod int int" => (k_here; (with_reducible refine mod_nm ?kb ?_); (case kb => first | omega | exact pos_of_mul (by with_reducible assumption) (by omega) (by omega) | exact pos_of_abs (by with_reducible assumption) (nez_of_mul (by with_reducible assumption) (by omega) (by omega)) | exact pos_of_abs (by with_reducible assumption) (by omega) | exact pos_of_mul (by with_reducible assumption) (by omega) (pos_of_abs (by with_reducible assumption) (by omega))); intro _ _ _ _)
  k_with "binaryOp FloorDiv int int" => (k_here; first
      | ((with_reducible refine div_nn ?kb ?kc ?ka ?_); (case ka => first | omega | exact nonneg_of_mul (by with_reducible assumption) (by omega) (by omega)); (case kb => first | omega | exact pos_of_mul (by with_reducible assumption) (by omega) (by omega) | exact pos_of_abs (by with_reducible assumption) (nez_of_mul (by with_reducible assumption) (by omega) (by omega)) | exact pos_of_abs (by with_reducible assumption) (by omega) | exact pos_of_mul (by with_reducible assumption) (by omega) (pos_of_abs (by with_reducible assumption) (by omega))); (case kc => omega); intro _ _ _ _)
      | ((with_reducible refine div_nm ?kb ?kc ?_); (case kb => first | omega | exact pos_of_mul (by with_reducible assumption) (by omega) (by omega) | exact pos_of_abs (by with_reducible assumption) (nez_of_mul (by with_reducible assumption) (by omega) (by omega)) | exact pos_of_abs (by with_reducible assumption) (by omega) | exact pos_of_mul (by with_reducible assumption) (by omega) (pos_of_abs (by with_reducible assumption) (by omega))); (case kc => omega); intro _ _))
  k_with "binaryOp Mult int int" => (k_here; first
      | ((with_reducible refine mul_nm (X := 1099511627776) (Y := 1099511627776) (Z := 1208925819614629174706176) ?ka ?kA ?kb ?kB (by decide) (by decide) (by decide) ?_); (case ka => omega); (case kA => omega); (case kb => omega); (case kB => omega); intro _ _ _ _)
      | ((with_reducible refine mul_nm (X := 1208925819614629174706176) (Y := 1099511627776) (Z := 1329227995784915872903807060280344576) ?ka ?kA ?kb ?kB (by decide) (by decide) (by decide) ?_); (case ka => omega); (case kA => omega); (case kb => omega); (case kB => omega); intro _ _ _ _)
      | ((with_reducible refine mul_nm (X := 1099511627776) (Y := 1208925819614629174706176) (Z := 1329227995784915872903807060280344576) ?ka ?kA ?kb ?kB (by decide) (by decide) (by decide) ?_); (case ka => omega); (case kA => omega); (case kb => omega); (case kB => omega); intro _ _ _ _)
      | ((with_reducible refine mul_nm (X := 1329227995784915872903807060280344576) (Y := 1099511627776) (Z := 1461501637330902918203684832716283019655932542976) ?ka ?kA ?kb ?kB (by decide) (by decide) (by decide) ?_); (case ka => omega); (case kA => omega); (case kb => omega); (case kB => omega); intro _ _ _ _)
      | ((with_reducible refine mul_lit ?ka ?kb ?kB ?_); (case ka => decide +kernel); (case kb => omega); (case kB => omega); intro _ _))
  k_with "call builtin:abs" => (k_here; first
      | ((with_reducible refine abs_nm (X := 1099511627776) ?ka ?kA ?_); (case ka => omega); (case kA => omega); intro _ _ _ _ _ _)
      | ((with_reducible refine abs_nm (X := 1208925819614629174706176) ?ka ?kA ?_); (case ka => omega); (case kA => omega); intro _ _ _ _ _ _)
      | ((with_reducible refine abs_nm (X := 1329227995784915872903807060280344576) ?ka ?kA ?_); (case ka => omega); (case kA => omega); intro _ _ _ _ _ _))
  k_with "my enter" => (refine' code_def ?k1 ?k2 ?k3 ?k4 ?k5 ?kA ?kF ?kK ?k6 ?k7 ?k8 ?k9 ?kB ?_ ?c2 ?c3 ?c4 ?c5; (case kA => exact rfl); (case kF => exact rfl); (case kK => first | exact rfl | assumption); (case k1 => k_asm); (case k2 => k_asm); (case k3 => k_asm); (case k4 => k_asm); (case k5 => k_asm); (case k6 => k_is); (case k7 => k_is); (case k8 => ktr_room); (case k9 => first | exact binds_K (by k_in) rfl (by k_is) rfl rfl rfl | exact BindsTo.of_eq rfl); (case c5 => decide); (case kB => exact locs rfl); (case c2 => exact rfl); (case c3 => exact rfl); (case c4 => exact rfl); k_whole; intro g' L' h' FG' F' N' B' X' T'; (try dsimp only); (try k_lift B'); (try k_fold))
  k_with "ite" => (k_here; k_openite; first
      | (refine ite_pos (by first | omega | (simp only [decide_eq_true_eq, beq_iff_eq, bne_iff_ne, ne_eq, Bool.not_eq_true', decide_eq_false_iff_not]; omega)) ?_; walk_say "PRUNED mine")
      | (refine ite_neg (by first | omega | (simp only [decide_eq_true_eq, beq_iff_eq, bne_iff_ne, ne_eq, Bool.not_eq_true', decide_eq_false_iff_not]; omega)) ?_; walk_say "PRUNED mine"))
  k_with "call ref" => (k_here; (refine wpAny_call ?_); k_dflt cell_enter)
  k_fill
  intro dp un gd cn cs a ccd cl outer A₀ base h₀ L m s Q E rest src nn h b top t u v B F X T hk hdp hun N hrest hh hb hb2 htop htop2 hret
  refine wpAny_call ?_
  k_dflt cell_enter
  k_steps
  all_goals (refine' hret _ _ _ _ _ _ _ _ ?e1 ?e2 ?e3 ?e4 ?e5 ?eF ?eN; (case eF => k_asm); (case eN => k_asm); (case e1 => omega); (case e2 => omega); (case e3 => omega); (case e4 => omega); (case e5 => omega))

set_option maxRecDepth 100000 in
set_option maxHeartbeats 8000000 in
theorem c_numof (w : World) (mean : ExcName → Option Value) (mg mb : Str → Option Value) : ∀ (dp un : Nat) (gd : Option (List Code)) (cn : Str) (cs : Scope) (a : Addr) (ccd : Value) (cl : List (Str × Addr)) (outer : List Env) (A₀ : Around) (base h₀ : Heap) (L : Addr) (m : Str → Option Value) (s : Shared) (Q E : Value → Shared → Prop) (news : List (Addr × Obj)) (x y : Int) (t u : Tok),
    Below A₀ base outer h₀ → Fr h₀ L s.heap m → (hd.heap_39 w.params).In h₀ → Top hd.view_39 (looseW hd.view_39 [Str.ofString "MOST", Str.ofString "number_of"]) mean mg mb h₀ → cs.kind = .function → dp + 12 < recursionLimit → un + 96 < cLine →
    News h₀ L s.heap news → -1329227995784915872903807060280344576 ≤ x → x ≤ 1329227995784915872903807060280344576 → y ≠ 0 → -1329227995784915872903807060280344576 ≤ y → y ≤ 1329227995784915872903807060280344576 →
    (∀ X Y D t1 t2 h' tk', X = lowN (if y < 0 then -x else x) (absI y) → Y = lowD (if y < 0 then -x else x) (absI y) → Fr h₀ L h' m → News h₀ L h' ((D, { cls := .type "tuple", data := .seq #[.int X t1, .int Y t2] }) :: news) → (∀ p ∈ news, p.1 < D) → Q (.ref D) { s with heap := h', toks := tk' }) →
    wpAny (model PySem.Challenge.rw_xm0656_01.row.prog w) (ktrTop dp un gd cn cs L a ccd cl outer) (call (.ref 70) [.int x t, .int y u]) Q E s := by
  k_with_none
  k_with "subscriptTail Name Constant ref int" => (k_here; (with_reducible show wpAny _ _ (subscriptTail _ _ (Value.ref _) (Value.int _ _)) _ _ _); k_dflt (refine tupAt (by k_asm) (by (with_reducible (repeat (first | assumption | exact List.mem_cons_self | refine List.mem_cons_of_mem _ ?_)))) (by decide) (by decide) (by rfl) (by rfl) ?_))
  k_with "subscriptTail Name Constant ref int" => (k_here; (with_reducible show wpAny _ _ (subscriptTail _ _ (Value.ref _) (Value.int _ _)) _ _ _); (with_unfolding_all refine' item_litK ?k1 ?k2 ?k3 ?k4 ?_ ?k6; (case k1 => is_list); (case k2 => decide); (case k3 => decide); (case k4 => rfl); (case k6 => with_unfolding_all rfl); k_whole))
  k_with "binaryOp Mod int int" => (k_here; (with_reducible refine mod_nm ?kb ?_); (case kb => first | omega | exact pos_of_mul (by with_reducible assumption) (by omega) (by omega) | exact pos_of_abs (by with_reducible assumption) (nez_of_mul (by with_reducible assumption) (by omega) (by omega)) | exact pos_of_abs (by with_reducible assumption) (by omega) | exact pos_of_mul (by with_reducible assumption) (by omega) (pos_of_abs (by with_reducible assumption) (by omega))); intro _ _ _ _)
  k_with "binaryOp FloorDiv int int" => (k_here; first
      | ((with_reducible refine div_nn ?kb ?kc ?ka ?_); (case ka => first | omega | exact nonneg_of_mul (by with_reducible assumption) (by omega) (by omega)); (case kb => first | omega | exact pos_of_mul (by with_reducible assumption) (by omega) (by omega) | exact pos_of_abs (by with_reducible assumption) (nez_of_mul (by with_reducible assumption) (by omega) (by omega)) | exact pos_of_abs (by with_reducible assumption) (by omega) | exact pos_of_mul (by with_reducible assumption) (by omega) (pos_of_abs (by with_reducible assumption) (by omega))); (case kc => omega); intro _ _ _ _)
      | ((with_reducible refine div_nm ?kb ?kc ?_); (case kb => first | omega | exact pos_of_mul (by with_reducible assumption) (by omega) (by omega) | exact pos_of_abs (by with_reducible assumption) (nez_of_mul (by with_reducible assumption) (by omega) (by omega)) | exact pos_of_abs (by with_reducible assumption) (by omega) | exact pos_of_mul (by with_reducible assumption) (by omega) (pos_of_abs (by with_reducible assumption) (by omega))); (case kc => omega); intro _ _))
  k_with "binaryOp Mult int int" => (k_here; first
      | ((with_reducible refine mul_nm (X := 1099511627776) (Y := 1099511627776) (Z := 1208925819614629174706176) ?ka ?kA ?kb ?kB (by decide) (by decide) (by decide) ?_); (case ka => omega); (case kA => omega); (case kb => omega); (case kB => omega); intro _ _ _ _)
      | ((with_reducible refine mul_nm (X := 1208925819614629174706176) (Y := 1099511627776) (Z := 1329227995784915872903807060280344576) ?ka ?kA ?kb ?kB (by decide) (by decide) (by decide) ?_); (case ka => omega); (case kA => omega); (case kb => omega); (case kB => omega); intro _ _ _ _)
      | ((with_reducible refine mul_nm (X := 1099511627776) (Y := 1208925819614629174706176) (Z := 1329227995784915872903807060280344576) ?ka ?kA ?kb ?kB (by decide) (by decide) (by decide) ?_); (case ka => omega); (case kA => omega); (case kb => omega); (case kB => omega); intro _ _ _ _)
      | ((with_reducible refine mul_nm (X := 1329227995784915872903807060280344576) (Y := 1099511627776) (Z := 1461501637330902918203684832716283019655932542976) ?ka ?kA ?kb ?kB (by decide) (by decide) (by decide) ?_); (case ka => omega); (case kA => omega); (case kb => omega); (case kB => omega); intro _ _ _ _)
      | ((with_reducible refine mul_lit ?ka ?kb ?kB ?_); (case ka => decide +kernel); (case kb => omega); (case kB => omega); intro _ _))
  k_with "call builtin:abs" => (k_here; first
      | ((with_reducible refine abs_nm (X := 1099511627776) ?ka ?kA ?_); (case ka => omega); (case kA => omega); intro _ _ _ _ _ _)
      | ((with_reducible refine abs_nm (X := 1208925819614629174706176) ?ka ?kA ?_); (case ka => omega); (case kA => omega); intro _ _ _ _ _ _)
      | ((with_reducible refine abs_nm (X := 1329227995784915872903807060280344576) ?ka ?kA ?_); (case ka => omega); (case kA => omega); intro _ _ _ _ _ _))
  k_with "my enter" => (refine' code_def ?k1 ?k2 ?k3 ?k4 ?k5 ?kA ?kF ?kK ?k6 ?k7 ?k8 ?k9 ?kB ?_ ?c2 ?c3 ?c4 ?c5; (case kA => exact rfl); (case kF => exact rfl); (case kK => first | exact rfl | assumption); (case k1 => k_asm); (case k2 => k_asm); (case k3 => k_asm); (case k4 => k_asm); (case k5 => k_asm); (case k6 => k_is); (case k7 => k_is); (case k8 => ktr_room); (case k9 => first | exact binds_K (by k_in) rfl (by k_is) rfl rfl rfl | exact BindsTo.of_eq rfl); (case c5 => decide); (case kB => exact locs rfl); (case c2 => exact rfl); (case c3 => exact rfl); (case c4 => exact rfl); k_whole; intro g' L' h' FG' F' N' B' X' T'; (try dsimp only); (try k_lift B'); (try k_fold))
  k_with "ite" => (k_here; k_openite; first
      | (refine ite_pos (by first | omega | (simp only [decide_eq_true_eq, beq_iff_eq, bne_iff_ne, ne_eq, Bool.not_eq_true', decide_eq_false_iff_not]; omega)) ?_; walk_say "PRUNED mine")
      | (refine ite_neg (by first | omega | (simp only [decide_eq_true_eq, beq_iff_eq, bne_iff_ne, ne_eq, Bool.not_eq_true', decide_eq_false_iff_not]; omega)) ?_; walk_say "PRUNED mine"))
  k_with "call ref" => (k_here; (refine wpAny_call ?_); k_dflt cell_enter)
  k_with "call ref" => (k_here; k_dflt (refine' c_cdiv _ _ _ _ _ _ _ _ _ _ _ _ _ _ _ _ _ _ _ _ _ _ _ _ _ _ ?kB ?kF ?kX ?kT ?kK ?kD ?kU ?e0 ?e1 ?e2 ?e3 ?e4 ?_; (case kB => k_asm); (case kF => k_asm); (case kX => k_asm); (case kT => k_asm); (case kK => first | exact rfl | assumption); (case kD => ktr_room); (case kU => ktr_units); (case e0 => k_asm); (case e1 => omega); (case e2 => omega); (case e3 => first | omega | exact pos_of_mul (by with_reducible assumption) (by omega) (by omega) | exact pos_of_abs (by with_reducible assumption) (nez_of_mul (by with_reducible assumption) (by omega) (by omega)) | exact pos_of_abs (by with_reducible assumption) (by omega) | exact pos_of_mul (by with_reducible assumption) (by omega) (pos_of_abs (by with_reducible assumption) (by omega))); (case e4 => omega); intro g9 t9 h9 tk9 eg9 pg9 lg9 F9 N9; (try dsimp only); (try k_fold)))
  k_fill
  intro dp un gd cn cs a ccd cl outer A₀ base h₀ L m s Q E news x y t u B F X T hk hdp hun N hx hx' hy hy2 hy3 hret
  refine wpAny_call ?_
  k_dflt cell_enter
  k_steps
  all_goals (refine' hret _ _ _ _ _ _ _ ?e1 ?e2 ?eF ?eN ?eL; (case eF => k_asm); (case eN => first | k_asm | (refine' cb_drop ?cbN ?cbS; (case cbN => assumption); (case cbS => kcj_all))); (case eL => first | assumption | exact ktn_ltOf (by first | assumption | exact (And.right (by assumption)) | exact (And.right (And.right (by assumption))) | exact (And.right (And.right (And.right (by assumption)))))); (case e1 => exact nof_1 (by assumption) (by assumption) (by split <;> omega) (by first | exact absI_neg (by omega) | exact absI_pos (by omega))); (case e2 => exact nof_2 (by assumption) (by assumption) (by split <;> omega) (by first | exact absI_neg (by omega) | exact absI_pos (by omega))))

set_option maxRecDepth 100000 in
set_option maxHeartbeats 8000000 in
theorem c_plus (w : World) (mean : ExcName → Option Value) (mg mb : Str → Option Value) : ∀ (dp un : Nat) (gd : Option (List Code)) (cn : Str) (cs : Scope) (a : Addr) (ccd : Value) (cl : List (Str × Addr)) (outer : List Env) (A₀ : Around) (base h₀ : Heap) (L : Addr) (m : Str → Option Value) (s : Shared) (Q E : Value → Shared → Prop) (news : List (Addr × Obj)) (pa pb : Addr) (x y u v : Int) (tx ty tu tv : Tok),
    Below A₀ base outer h₀ → Fr h₀ L s.heap m → (hd.heap_39 w.params).In h₀ → Top hd.view_39 (looseW hd.view_39 [Str.ofString "MOST", Str.ofString "number_of"]) mean mg mb h₀ → cs.kind = .function → dp + 30 < recursionLimit → un + 240 < cLine →
    News h₀ L s.heap news → (pa, ({ cls := .type "tuple", data := .seq #[.int x tx, .int y ty] } : Obj)) ∈ news → (pb, ({ cls := .type "tuple", data := .seq #[.int u tu, .int v tv] } : Obj)) ∈ news → NumF x y → NumF u v →
    (∀ r X Y tl h' tk', X = (nanOr x y u v (sumQ x y u v)).1 → Y = (nanOr x y u v (sumQ x y u v)).2 → Fr h₀ L h' m → News h₀ L h' (tl ++ news) → R3 (tl ++ news) r X Y → Q r { s with heap := h', toks := tk' }) →
    wpAny (model PySem.Challenge.rw_xm0656_01.row.prog w) (ktrTop dp un gd cn cs L a ccd cl outer) (call (.ref 91) [.ref pa, .ref pb]) Q E s := by
  k_with_none
  k_with "subscriptTail Name Constant ref int" => (k_here; (with_reducible show wpAny _ _ (subscriptTail _ _ (Value.ref _) (Value.int _ _)) _ _ _); k_dflt (refine tupAt (by k_asm) (by (with_reducible (repeat (first | assumption | exact List.mem_cons_self | refine List.mem_cons_of_mem _ ?_)))) (by decide) (by decide) (by rfl) (by rfl) ?_))
  k_with "subscriptTail Name Constant ref int" => (k_here; (with_reducible show wpAny _ _ (subscriptTail _ _ (Value.ref _) (Value.int _ _)) _ _ _); (with_unfolding_all refine' item_litK ?k1 ?k2 ?k3 ?k4 ?_ ?k6; (case k1 => is_list); (case k2 => decide); (case k3 => decide); (case k4 => rfl); (case k6 => with_unfolding_all rfl); k_whole))
  k_with "binaryOp Mod int int" => (k_here; (with_reducible refine mod_nm ?kb ?_); (case kb => first | omega | exact pos_of_mul (by with_reducible assumption) (by omega) (by omega) | exact pos_of_abs (by with_reducible assumption) (nez_of_mul (by with_reducible assumption) (by omega) (by omega)) | exact pos_of_abs (by with_reducible assumption) (by omega) | exact pos_of_mul (by with_reducible assumption) (by omega) (pos_of_abs (by with_reducible assumption) (by omega))); intro _ _ _ _)
  k_with "binaryOp FloorDiv int int" => (k_here; first
      | ((with_reducible refine div_nn ?kb ?kc ?ka ?_); (case ka => first | omega | exact nonneg_of_mul (by with_reducible assumption) (by omega) (by omega)); (case kb => first | omega | exact pos_of_mul (by with_reducible assumption) (by omega) (by omega) | exact pos_of_abs (by with_reducible assumption) (nez_of_mul (by with_reducible assumption) (by omega) (by omega)) | exact pos_of_abs (by with_reducible assumption) (by omega) | exact pos_of_mul (by with_reducible assumption) (by omega) (pos_of_abs (by with_reducible assumption) (by omega))); (case kc => omega); intro _ _ _ _)
      | ((with_reducible refine div_nm ?kb ?kc ?_); (case kb => first | omega | exact pos_of_mul (by with_reducible assumption) (by omega) (by omega) | exact pos_of_abs (by with_reducible assumption) (nez_of_mul (by with_reducible assumption) (by omega) (by omega)) | exact pos_of_abs (by with_reducible assumption) (by omega) | exact pos_of_mul (by with_reducible assumption) (by omega) (pos_of_abs (by with_reducible assumption) (by omega))); (case kc => omega); intro _ _))
  k_with "binaryOp Mult int int" => (k_here; first
      | ((with_reducible refine mul_nm (X := 1099511627776) (Y := 1099511627776) (Z := 1208925819614629174706176) ?ka ?kA ?kb ?kB (by decide) (by decide) (by decide) ?_); (case ka => omega); (case kA => omega); (case kb => omega); (case kB => omega); intro _ _ _ _)
      | ((with_reducible refine mul_nm (X := 1208925819614629174706176) (Y := 1099511627776) (Z := 1329227995784915872903807060280344576) ?ka ?kA ?kb ?kB (by decide) (by decide) (by decide) ?_); (case ka => omega); (case kA => omega); (case kb => omega); (case kB => omega); intro _ _ _ _)
      | ((with_reducible refine mul_nm (X := 1099511627776) (Y := 1208925819614629174706176) (Z := 1329227995784915872903807060280344576) ?ka ?kA ?kb ?kB (by decide) (by decide) (by decide) ?_); (case ka => omega); (case kA => omega); (case kb => omega); (case kB => omega); intro _ _ _ _)
      | ((with_reducible refine mul_nm (X := 1329227995784915872903807060280344576) (Y := 1099511627776) (Z := 1461501637330902918203684832716283019655932542976) ?ka ?kA ?kb ?kB (by decide) (by decide) (by decide) ?_); (case ka => omega); (case kA => omega); (case kb => omega); (case kB => omega); intro _ _ _ _)
      | ((with_reducible refine mul_lit ?ka ?kb ?kB ?_); (case ka => decide +kernel); (case kb => omega); (case kB => omega); intro _ _))
  k_with "call builtin:abs" => (k_here; first
      | ((with_reducible refine abs_nm (X := 1099511627776) ?ka ?kA ?_); (case ka => omega); (case kA => omega); intro _ _ _ _ _ _)
      | ((with_reducible refine abs_nm (X := 1208925819614629174706176) ?ka ?kA ?_); (case ka => omega); (case kA => omega); intro _ _ _ _ _ _)
      | ((with_reducible refine abs_nm (X := 1329227995784915872903807060280344576) ?ka ?kA ?_); (case ka => omega); (case kA => omega); intro _ _ _ _ _ _))
  k_with "my enter" => (refine' code_def ?k1 ?k2 ?k3 ?k4 ?k5 ?kA ?kF ?kK ?k6 ?k7 ?k8 ?k9 ?kB ?_ ?c2 ?c3 ?c4 ?c5; (case kA => exact rfl); (case kF => exact rfl); (case kK => first | exact rfl | assumption); (case k1 => k_asm); (case k2 => k_asm); (case k3 => k_asm); (case k4 => k_asm); (case k5 => k_asm); (case k6 => k_is); (case k7 => k_is); (case k8 => ktr_room); (case k9 => first | exact binds_K (by k_in) rfl (by k_is) rfl rfl rfl | exact BindsTo.of_eq rfl); (case c5 => decide); (case kB => exact locs rfl); (case c2 => exact rfl); (case c3 => exact rfl); (case c4 => exact rfl); k_whole; intro g' L' h' FG' F' N' B' X' T'; (try dsimp only); (try k_lift B'); (try k_fold))
  k_with "ite" => (k_here; k_openite; first
      | (refine ite_pos (by first | omega | (simp only [decide_eq_true_eq, beq_iff_eq, bne_iff_ne, ne_eq, Bool.not_eq_true', decide_eq_false_iff_not]; omega)) ?_; walk_say "PRUNED mine")
      | (refine ite_neg (by first | omega | (simp only [decide_eq_true_eq, beq_iff_eq, bne_iff_ne, ne_eq, Bool.not_eq_true', decide_eq_false_iff_not]; omega)) ?_; walk_say "PRUNED mine"))
  k_with "call ref" => (k_here; (refine wpAny_call ?_); k_dflt cell_enter)
  k_with "call ref" => (k_here; k_dflt (refine' c_numof _ _ _ _ _ _ _ _ _ _ _ _ _ _ _ _ _ _ _ _ _ _ _ _ _ _ ?kB ?kF ?kX ?kT ?kK ?kD ?kU ?e0 ?e1 ?e2 ?e3 ?e4 ?e5 ?_; (case kB => k_asm); (case kF => k_asm); (case kX => k_asm); (case kT => k_asm); (case kK => first | exact rfl | assumption); (case kD => ktr_room); (case kU => ktr_units); (case e0 => k_asm); (case e1 => omega); (case e2 => omega); (case e3 => first | omega | exact nez_of_mul (by with_reducible assumption) (by omega) (by omega)); (case e4 => omega); (case e5 => omega); intro X9 Y9 D9 t9 u9 h9 tk9 eX9 eY9 F9 N9 l9; (try k_lt l9); (try dsimp only); (try k_fold)))
  k_fill
  intro dp un gd cn cs a ccd cl outer A₀ base h₀ L m s Q E news pa pb x y u v tx ty tu tv B F X T hk hdp hun N hA hB N1 N2 hret
  have hx1 := N1.1.1
  have hx2 := N1.1.2
  have hy1 := N1.2.1.1
  have hy2 := N1.2.1.2
  have hu1 := N2.1.1
  have hu2 := N2.1.2
  have hv1 := N2.2.1.1
  have hv2 := N2.2.1.2
  refine wpAny_call ?_
  k_dflt cell_enter
  k_steps
  all_goals (first
    | exact absurd rfl (by with_reducible assumption)
    | (refine' (fun h' tk' E F N => hret (.ref 47) 0 0 [] h' tk' (And.left E) (And.right E) F N (R3.nan rfl rfl)) _ _ ?e ?eF ?eN; (case eF => k_asm); (case eN => k_asm); (case e => first | exact nan_l (by with_reducible assumption) | exact nan_r (by with_reducible assumption) | exact pB N1 N2 (by with_reducible assumption) (by with_reducible assumption) (by with_reducible assumption) (by with_reducible assumption) (by with_reducible assumption)))
    | (refine' (fun h' tk' E F N => hret (.ref pa) x y [] h' tk' (And.left E) (And.right E) F N (R3.of hA)) _ _ ?e ?eF ?eN; (case eF => k_asm); (case eN => k_asm); (case e => first | exact pA N1 N2 (by with_reducible assumption) (by with_reducible assumption) (by with_reducible assumption) (by with_reducible assumption) (by with_reducible assumption) | exact pC N1 N2 (by with_reducible assumption) (by with_reducible assumption) (by with_reducible assumption) (by with_reducible assumption)))
    | (refine' (fun h' tk' E F N => hret (.ref pb) u v [] h' tk' (And.left E) (And.right E) F N (R3.of hB)) _ _ ?e ?eF ?eN; (case eF => k_asm); (case eN => k_asm); (case e => first | exact pD N1 N2 (by with_reducible assumption) (by with_reducible assumption) (by with_reducible assumption) (by with_reducible assumption)))
    | (refine' (fun D X Y t1 t2 h' tk' E F N => hret (.ref D) X Y [(D, { cls := .type "tuple", data := .seq #[.int X t1, .int Y t2] })] h' tk' (And.left E) (And.right E) F N (R3.of (List.Mem.head _))) _ _ _ _ _ _ _ ?e ?eF ?eN; (case eF => k_asm); (case eN => k_asm); (case e => first | exact pE N1 N2 (by with_reducible assumption) (by with_reducible assumption) (by with_reducible assumption) (by with_reducible assumption) (by with_reducible assumption) (by with_reducible assumption) (by with_reducible assumption) (by with_reducible assumption) (by with_reducible assumption))))

set_option maxRecDepth 100000 in
set_option maxHeartbeats 8000000 in
theorem c_times (w : World) (mean : ExcName → Option Value) (mg mb : Str → Option Value) : ∀ (dp un : Nat) (gd : Option (List Code)) (cn : Str) (cs : Scope) (a : Addr) (ccd : Value) (cl : List (Str × Addr)) (outer : List Env) (A₀ : Around) (base h₀ : Heap) (L : Addr) (m : Str → Option Value) (s : Shared) (Q E : Value → Shared → Prop) (news : List (Addr × Obj)) (pa pb : Addr) (x y u v : Int) (tx ty tu tv : Tok),
    Below A₀ base outer h₀ → Fr h₀ L s.heap m → (hd.heap_39 w.params).In h₀ → Top hd.view_39 (looseW hd.view_39 [Str.ofString "MOST", Str.ofString "number_of"]) mean mg mb h₀ → cs.kind = .function → dp + 30 < recursionLimit → un + 240 < cLine →
    News h₀ L s.heap news → (pa, ({ cls := .type "tuple", data := .seq #[.int x tx, .int y ty] } : Obj)) ∈ news → (pb, ({ cls := .type "tuple", data := .seq #[.int u tu, .int v tv] } : Obj)) ∈ news → NumF x y → NumF u v →
    (∀ r X Y tl h' tk', X = (nanOr x y u v (mulQ x y u v)).1 → Y = (nanOr x y u v (mulQ x y u v)).2 → Fr h₀ L h' m → News h₀ L h' (tl ++ news) → R3 (tl ++ news) r X Y → Q r { s with heap := h', toks := tk' }) →
    wpAny (model PySem.Challenge.rw_xm0656_01.row.prog w) (ktrTop dp un gd cn cs L a ccd cl outer) (call (.ref 105) [.ref pa, .ref pb]) Q E s := by
  k_with_none
  k_with "subscriptTail Name Constant ref int" => (k_here; (with_reducible show wpAny _ _ (subscriptTail _ _ (Value.ref _) (Value.int _ _)) _ _ _); k_dflt (refine tupAt (by k_asm) (by (with_reducible (repeat (first | assumption | exact List.mem_cons_self | refine List.mem_cons_of_mem _ ?_)))) (by decide) (by decide) (by rfl) (by rfl) ?_))
  k_with "subscriptTail Name Constant ref int" => (k_here; (with_reducible show wpAny _ _ (subscriptTail _ _ (Value.ref _) (Value.int _ _)) _ _ _); (with_unfolding_all refine' item_litK ?k1 ?k2 ?k3 ?k4 ?_ ?k6; (case k1 => is_list); (case k2 => decide); (case k3 => decide); (case k4 => rfl); (case k6 => with_unfolding_all rfl); k_whole))
  k_with "binaryOp Mod int int" => (k_here; (with_reducible refine mod_nm ?kb ?_); (case kb => first | omega | exact pos_of_mul (by with_reducible assumption) (by omega) (by omega) | exact pos_of_abs (by with_reducible assumption) (nez_of_mul (by with_reducible assumption) (by omega) (by omega)) | exact pos_of_abs (by with_reducible assumption) (by omega) | exact pos_of_mul (by with_reducible assumption) (by omega) (pos_of_abs (by with_reducible assumption) (by omega))); intro _ _ _ _)
  k_with "binaryOp FloorDiv int int" => (k_here; first
      | ((with_reducible refine div_nn ?kb ?kc ?ka ?_); (case ka => first | omega | exact nonneg_of_mul (by with_reducible assumption) (by omega) (by omega)); (case kb => first | omega | exact pos_of_mul (by with_reducible assumption) (by omega) (by omega) | exact pos_of_abs (by with_reducible assumption) (nez_of_mul (by with_reducible assumption) (by omega) (by omega)) | exact pos_of_abs (by with_reducible assumption) (by omega) | exact pos_of_mul (by with_reducible assumption) (by omega) (pos_of_abs (by with_reducible assumption) (by omega))); (case kc => omega); intro _ _ _ _)
      | ((with_reducible refine div_nm ?kb ?kc ?_); (case kb => first | omega | exact pos_of_mul (by with_reducible assumption) (by omega) (by omega) | exact pos_of_abs (by with_reducible assumption) (nez_of_mul (by with_reducible assumption) (by omega) (by omega)) | exact pos_of_abs (by with_reducible assumption) (by omega) | exact pos_of_mul (by with_reducible assumption) (by omega) (pos_of_abs (by with_reducible assumption) (by omega))); (case kc => omega); intro _ _))
  k_with "binaryOp Mult int int" => (k_here; first
      | ((with_reducible refine mul_nm (X := 1099511627776) (Y := 1099511627776) (Z := 1208925819614629174706176) ?ka ?kA ?kb ?kB (by decide) (by decide) (by decide) ?_); (case ka => omega); (case kA => omega); (case kb => omega); (case kB => omega); intro _ _ _ _)
      | ((with_reducible refine mul_nm (X := 1208925819614629174706176) (Y := 1099511627776) (Z := 1329227995784915872903807060280344576) ?ka ?kA ?kb ?kB (by decide) (by decide) (by decide) ?_); (case ka => omega); (case kA => omega); (case kb => omega); (case kB => omega); intro _ _ _ _)
      | ((with_reducible refine mul_nm (X := 1099511627776) (Y := 1208925819614629174706176) (Z := 1329227995784915872903807060280344576) ?ka ?kA ?kb ?kB (by decide) (by decide) (by decide) ?_); (case ka => omega); (case kA => omega); (case kb => omega); (case kB => omega); intro _ _ _ _)
      | ((with_reducible refine mul_nm (X := 1329227995784915872903807060280344576) (Y := 1099511627776) (Z := 1461501637330902918203684832716283019655932542976) ?ka ?kA ?kb ?kB (by decide) (by decide) (by decide) ?_); (case ka => omega); (case kA => omega); (case kb => omega); (case kB => omega); intro _ _ _ _)
      | ((with_reducible refine mul_lit ?ka ?kb ?kB ?_); (case ka => decide +kernel); (case kb => omega); (case kB => omega); intro _ _))
  k_with "call builtin:abs" => (k_here; first
      | ((with_reducible refine abs_nm (X := 1099511627776) ?ka ?kA ?_); (case ka => omega); (case kA => omega); intro _ _ _ _ _ _)
      | ((with_reducible refine abs_nm (X := 1208925819614629174706176) ?ka ?kA ?_); (case ka => omega); (case kA => omega); intro _ _ _ _ _ _)
      | ((with_reducible refine abs_nm (X := 1329227995784915872903807060280344576) ?ka ?kA ?_); (case ka => omega); (case kA => omega); intro _ _ _ _ _ _))
  k_with "my enter" => (refine' code_def ?k1 ?k2 ?k3 ?k4 ?k5 ?kA ?kF ?kK ?k6 ?k7 ?k8 ?k9 ?kB ?_ ?c2 ?c3 ?c4 ?c5; (case kA => exact rfl); (case kF => exact rfl); (case kK => first | exact rfl | assumption); (case k1 => k_asm); (case k2 => k_asm); (case k3 => k_asm); (case k4 => k_asm); (case k5 => k_asm); (case k6 => k_is); (case k7 => k_is); (case k8 => ktr_room); (case k9 => first | exact binds_K (by k_in) rfl (by k_is) rfl rfl rfl | exact BindsTo.of_eq rfl); (case c5 => decide); (case kB => exact locs rfl); (case c2 => exact rfl); (case c3 => exact rfl); (case c4 => exact rfl); k_whole; intro g' L' h' FG' F' N' B' X' T'; (try dsimp only); (try k_lift B'); (try k_fold))
  k_with "ite" => (k_here; k_openite; first
      | (refine ite_pos (by first | omega | (simp only [decide_eq_true_eq, beq_iff_eq, bne_iff_ne, ne_eq, Bool.not_eq_true', decide_eq_false_iff_not]; omega)) ?_; walk_say "PRUNED mine")
      | (refine ite_neg (by first | omega | (simp only [decide_eq_true_eq, beq_iff_eq, bne_iff_ne, ne_eq, Bool.not_eq_true', decide_eq_false_iff_not]; omega)) ?_; walk_say "PRUNED mine"))
  k_with "call ref" => (k_here; (refine wpAny_call ?_); k_dflt cell_enter)
  k_with "eval Call" => (k_here; (with_reducible show wpAny _ _ (eval (Expr.Call (Expr.Name (PySem.Str.ofString "sign_of") _) _ _ _) _) _ _ _); k_dflt (refine Call_ ?_))
  k_with "call ref" => (k_here; k_dflt (refine' c_numof _ _ _ _ _ _ _ _ _ _ _ _ _ _ _ _ _ _ _ _ _ _ _ _ _ _ ?kB ?kF ?kX ?kT ?kK ?kD ?kU ?e0 ?e1 ?e2 ?e3 ?e4 ?e5 ?_; (case kB => k_asm); (case kF => k_asm); (case kX => k_asm); (case kT => k_asm); (case kK => first | exact rfl | assumption); (case kD => ktr_room); (case kU => ktr_units); (case e0 => k_asm); (case e1 => omega); (case e2 => omega); (case e3 => first | omega | exact nez_of_mul (by with_reducible assumption) (by omega) (by omega)); (case e4 => omega); (case e5 => omega); intro X9 Y9 D9 t9 u9 h9 tk9 eX9 eY9 F9 N9 l9; (try k_lt l9); (try dsimp only); (try k_fold)))
  k_with "call ref" => (k_here; k_dflt (refine' c_sign _ _ _ _ _ _ _ _ _ _ _ _ _ _ _ _ _ _ _ _ _ _ _ _ ?kB ?kF ?kX ?kT ?kK ?kD ?kU ?e0 ?_; (case kB => k_asm); (case kF => k_asm); (case kX => k_asm); (case kT => k_asm); (case kK => first | exact rfl | assumption); (case kD => ktr_room); (case kU => ktr_units); (case e0 => k_asm); intro g9 t9 h9 tk9 eg9 p9 m9 F9 N9; (try dsimp only); (try k_fold)))
  k_fill
  intro dp un gd cn cs a ccd cl outer A₀ base h₀ L m s Q E news pa pb x y u v tx ty tu tv B F X T hk hdp hun N hA hB N1 N2 hret
  have hx1 := N1.1.1
  have hx2 := N1.1.2
  have hy1 := N1.2.1.1
  have hy2 := N1.2.1.2
  have hu1 := N2.1.1
  have hu2 := N2.1.2
  have hv1 := N2.2.1.1
  have hv2 := N2.2.1.2
  refine wpAny_call ?_
  k_dflt cell_enter
  k_steps
  all_goals (first
    | exact absurd rfl (by with_reducible assumption)
    | (refine' (fun h' tk' E F N => hret (.ref 47) 0 0 [] h' tk' (And.left E) (And.right E) F N (R3.nan rfl rfl)) _ _ ?e ?eF ?eN; (case eF => k_asm); (case eN => k_asm); (case e => first | exact nan_l (by with_reducible assumption) | exact nan_r (by with_reducible assumption)))
    | (refine' (fun D X Y t1 t2 h' tk' E F N => hret (.ref D) X Y [(D, { cls := .type "tuple", data := .seq #[.int X t1, .int Y t2] })] h' tk' (And.left E) (And.right E) F N (R3.of (List.Mem.head _))) _ _ _ _ _ _ _ ?e ?eF ?eN; (case eF => k_asm); (case eN => k_asm); (case e => first | exact tA (by with_reducible assumption) (by with_reducible assumption) (by with_reducible assumption) (by with_reducible assumption) (by with_reducible assumption) (by with_reducible assumption) | exact tB (by with_reducible assumption) (by with_reducible assumption) (by with_reducible assumption) (by with_reducible assumption) (by with_reducible assumption) (by with_reducible assumption) | exact tE N1 N2 (by with_reducible assumption) (by with_reducible assumption) (by with_reducible assumption) (by with_reducible assumption) (by with_reducible assumption) (by with_reducible assumption) (by with_reducible assumption) (by with_reducible assumption))))

set_option maxRecDepth 100000 in
set_option maxHeartbeats 8000000 in
theorem c_div (w : World) (mean : ExcName → Option Value) (mg mb : Str → Option Value) : ∀ (dp un : Nat) (gd : Option (List Code)) (cn : Str) (cs : Scope) (a : Addr) (ccd : Value) (cl : List (Str × Addr)) (outer : List Env) (A₀ : Around) (base h₀ : Heap) (L : Addr) (m : Str → Option Value) (s : Shared) (Q E : Value → Shared → Prop) (news : List (Addr × Obj)) (pa pb : Addr) (x y u v : Int) (tx ty tu tv : Tok),
    Below A₀ base outer h₀ → Fr h₀ L s.heap m → (hd.heap_39 w.params).In h₀ → Top hd.view_39 (looseW hd.view_39 [Str.ofString "MOST", Str.ofString "number_of"]) mean mg mb h₀ → cs.kind = .function → dp + 30 < recursionLimit → un + 240 < cLine →
    News h₀ L s.heap news → (pa, ({ cls := .type "tuple", data := .seq #[.int x tx, .int y ty] } : Obj)) ∈ news → (pb, ({ cls := .type "tuple", data := .seq #[.int u tu, .int v tv] } : Obj)) ∈ news → NumF x y → NumF u v →
    (∀ r X Y tl h' tk', X = (nanOr x y u v (divQ x y u v)).1 → Y = (nanOr x y u v (divQ x y u v)).2 → Fr h₀ L h' m → News h₀ L h' (tl ++ news) → R3 (tl ++ news) r X Y → Q r { s with heap := h', toks := tk' }) →
    wpAny (model PySem.Challenge.rw_xm0656_01.row.prog w) (ktrTop dp un gd cn cs L a ccd cl outer) (call (.ref 112) [.ref pa, .ref pb]) Q E s := by
  k_with_none
  k_with "subscriptTail Name Constant ref int" => (k_here; (with_reducible show wpAny _ _ (subscriptTail _ _ (Value.ref _) (Value.int _ _)) _ _ _); k_dflt (refine tupAt (by k_asm) (by (with_reducible (repeat (first | assumption | exact List.mem_cons_self | refine List.mem_cons_of_mem _ ?_)))) (by decide) (by decide) (by rfl) (by rfl) ?_))
  k_with "subscriptTail Name Constant ref int" => (k_here; (with_reducible show wpAny _ _ (subscriptTail _ _ (Value.ref _) (Value.int _ _)) _ _ _); (with_unfolding_all refine' item_litK ?k1 ?k2 ?k3 ?k4 ?_ ?k6; (case k1 => is_list); (case k2 => decide); (case k3 => decide); (case k4 => rfl); (case k6 => with_unfolding_all rfl); k_whole))
  k_with "binaryOp Mod int int" => (k_here; (with_reducible refine mod_nm ?kb ?_); (case kb => first | omega | exact pos_of_mul (by with_reducible assumption) (by omega) (by omega) | exact pos_of_abs (by with_reducible assumption) (nez_of_mul (by with_reducible assumption) (by omega) (by omega)) | exact pos_of_abs (by with_reducible assumption) (by omega) | exact pos_of_mul (by with_reducible assumption) (by omega) (pos_of_abs (by with_reducible assumption) (by omega))); intro _ _ _ _)
  k_with "binaryOp FloorDiv int int" => (k_here; first
      | ((with_reducible refine div_nn ?kb ?kc ?ka ?_); (case ka => first | omega | exact nonneg_of_mul (by with_reducible assumption) (by omega) (by omega)); (case kb => first | omega | exact pos_of_mul (by with_reducible assumption) (by omega) (by omega) | exact pos_of_abs (by with_reducible assumption) (nez_of_mul (by with_reducible assumption) (by omega) (by omega)) | exact pos_of_abs (by with_reducible assumption) (by omega) | exact pos_of_mul (by with_reducible assumption) (by omega) (pos_of_abs (by with_reducible assumption) (by omega))); (case kc => omega); intro _ _ _ _)
      | ((with_reducible refine div_nm ?kb ?kc ?_); (case kb => first | omega | exact pos_of_mul (by with_reducible assumption) (by omega) (by omega) | exact pos_of_abs (by with_reducible assumption) (nez_of_mul (by with_reducible assumption) (by omega) (by omega)) | exact pos_of_abs (by with_reducible assumption) (by omega) | exact pos_of_mul (by with_reducible assumption) (by omega) (pos_of_abs (by with_reducible assumption) (by omega))); (case kc => omega); intro _ _))
  k_with "binaryOp Mult int int" => (k_here; first
      | ((with_reducible refine mul_nm (X := 1099511627776) (Y := 1099511627776) (Z := 1208925819614629174706176) ?ka ?kA ?kb ?kB (by decide) (by decide) (by decide) ?_); (case ka => omega); (case kA => omega); (case kb => omega); (case kB => omega); intro _ _ _ _)
      | ((with_reducible refine mul_nm (X := 1208925819614629174706176) (Y := 1099511627776) (Z := 1329227995784915872903807060280344576) ?ka ?kA ?kb ?kB (by decide) (by decide) (by decide) ?_); (case ka => omega); (case kA => omega); (case kb => omega); (case kB => omega); intro _ _ _ _)
      | ((with_reducible refine mul_nm (X := 1099511627776) (Y := 1208925819614629174706176) (Z := 1329227995784915872903807060280344576) ?ka ?kA ?kb ?kB (by decide) (by decide) (by decide) ?_); (case ka => omega); (case kA => omega); (case kb => omega); (case kB => omega); intro _ _ _ _)
      | ((with_reducible refine mul_nm (X := 1329227995784915872903807060280344576) (Y := 1099511627776) (Z := 1461501637330902918203684832716283019655932542976) ?ka ?kA ?kb ?kB (by decide) (by decide) (by decide) ?_); (case ka => omega); (case kA => omega); (case kb => omega); (case kB => omega); intro _ _ _ _)
      | ((with_reducible refine mul_lit ?ka ?kb ?kB ?_); (case ka => decide +kernel); (case kb => omega); (case kB => omega); intro _ _))
  k_with "call builtin:abs" => (k_here; first
      | ((with_reducible refine abs_nm (X := 1099511627776) ?ka ?kA ?_); (case ka => omega); (case kA => omega); intro _ _ _ _ _ _)
      | ((with_reducible refine abs_nm (X := 1208925819614629174706176) ?ka ?kA ?_); (case ka => omega); (case kA => omega); intro _ _ _ _ _ _)
      | ((with_reducible refine abs_nm (X := 1329227995784915872903807060280344576) ?ka ?kA ?_); (case ka => omega); (case kA => omega); intro _ _ _ _ _ _))
  k_with "my enter" => (refine' code_def ?k1 ?k2 ?k3 ?k4 ?k5 ?kA ?kF ?kK ?k6 ?k7 ?k8 ?k9 ?kB ?_ ?c2 ?c3 ?c4 ?c5; (case kA => exact rfl); (case kF => exact rfl); (case kK => first | exact rfl | assumption); (case k1 => k_asm); (case k2 => k_asm); (case k3 => k_asm); (case k4 => k_asm); (case k5 => k_asm); (case k6 => k_is); (case k7 => k_is); (case k8 => ktr_room); (case k9 => first | exact binds_K (by k_in) rfl (by k_is) rfl rfl rfl | exact BindsTo.of_eq rfl); (case c5 => decide); (case kB => exact locs rfl); (case c2 => exact rfl); (case c3 => exact rfl); (case c4 => exact rfl); k_whole; intro g' L' h' FG' F' N' B' X' T'; (try dsimp only); (try k_lift B'); (try k_fold))
  k_with "ite" => (k_here; k_openite; first
      | (refine ite_pos (by first | omega | (simp only [decide_eq_true_eq, beq_iff_eq, bne_iff_ne, ne_eq, Bool.not_eq_true', decide_eq_false_iff_not]; omega)) ?_; walk_say "PRUNED mine")
      | (refine ite_neg (by first | omega | (simp only [decide_eq_true_eq, beq_iff_eq, bne_iff_ne, ne_eq, Bool.not_eq_true', decide_eq_false_iff_not]; omega)) ?_; walk_say "PRUNED mine"))
  k_with "call ref" => (k_here; (refine wpAny_call ?_); k_dflt cell_enter)
  k_with "eval Call" => (k_here; (with_reducible show wpAny _ _ (eval (Expr.Call (Expr.Name (PySem.Str.ofString "sign_of") _) _ _ _) _) _ _ _); k_dflt (refine Call_ ?_))
  k_with "call ref" => (k_here; k_dflt (refine' c_numof _ _ _ _ _ _ _ _ _ _ _ _ _ _ _ _ _ _ _ _ _ _ _ _ _ _ ?kB ?kF ?kX ?kT ?kK ?kD ?kU ?e0 ?e1 ?e2 ?e3 ?e4 ?e5 ?_; (case kB => k_asm); (case kF => k_asm); (case kX => k_asm); (case kT => k_asm); (case kK => first | exact rfl | assumption); (case kD => ktr_room); (case kU => ktr_units); (case e0 => k_asm); (case e1 => omega); (case e2 => omega); (case e3 => first | omega | exact nez_of_mul (by with_reducible assumption) (by omega) (by omega)); (case e4 => omega); (case e5 => omega); intro X9 Y9 D9 t9 u9 h9 tk9 eX9 eY9 F9 N9 l9; (try k_lt l9); (try dsimp only); (try k_fold)))
  k_with "call ref" => (k_here; k_dflt (refine' c_sign _ _ _ _ _ _ _ _ _ _ _ _ _ _ _ _ _ _ _ _ _ _ _ _ ?kB ?kF ?kX ?kT ?kK ?kD ?kU ?e0 ?_; (case kB => k_asm); (case kF => k_asm); (case kX => k_asm); (case kT => k_asm); (case kK => first | exact rfl | assumption); (case kD => ktr_room); (case kU => ktr_units); (case e0 => k_asm); intro g9 t9 h9 tk9 eg9 p9 m9 F9 N9; (try dsimp only); (try k_fold)))
  k_fill
  intro dp un gd cn cs a ccd cl outer A₀ base h₀ L m s Q E news pa pb x y u v tx ty tu tv B F X T hk hdp hun N hA hB N1 N2 hret
  have hx1 := N1.1.1
  have hx2 := N1.1.2
  have hy1 := N1.2.1.1
  have hy2 := N1.2.1.2
  have hu1 := N2.1.1
  have hu2 := N2.1.2
  have hv1 := N2.2.1.1
  have hv2 := N2.2.1.2
  refine wpAny_call ?_
  k_dflt cell_enter
  k_steps
  all_goals (first
    | exact absurd rfl (by with_reducible assumption)
    | (refine' (fun h' tk' E F N => hret (.ref 47) 0 0 [] h' tk' (And.left E) (And.right E) F N (R3.nan rfl rfl)) _ _ ?e ?eF ?eN; (case eF => k_asm); (case eN => k_asm); (case e => first | exact nan_l (by with_reducible assumption) | exact nan_r (by with_reducible assumption) | exact dA N1 N2 (by with_reducible assumption) (by with_reducible assumption) (by with_reducible assumption) (by with_reducible assumption)))
    | (refine' (fun h' tk' E F N => hret (.ref 48) 0 1 [] h' tk' (And.left E) (And.right E) F N (R3.zero rfl rfl)) _ _ ?e ?eF ?eN; (case eF => k_asm); (case eN => k_asm); (case e => first | exact dB N1 N2 (by with_reducible assumption) (by with_reducible assumption) (by with_reducible assumption) (by with_reducible assumption)))
    | (refine' (fun h' tk' E F N => hret (.ref pa) x y [] h' tk' (And.left E) (And.right E) F N (R3.of hA)) _ _ ?e ?eF ?eN; (case eF => k_asm); (case eN => k_asm); (case e => first | exact dC N1 N2 (by with_reducible assumption) (by with_reducible assumption) (by with_reducible assumption) (by with_reducible assumption) (by with_reducible assumption)))
    | (refine' (fun D X Y t1 t2 h' tk' E F N => hret (.ref D) X Y [(D, { cls := .type "tuple", data := .seq #[.int X t1, .int Y t2] })] h' tk' (And.left E) (And.right E) F N (R3.of (List.Mem.head _))) _ _ _ _ _ _ _ ?e ?eF ?eN; (case eF => k_asm); (case eN => k_asm); (case e => first | exact dD N1 N2 (by with_reducible assumption) (by with_reducible assumption) (by with_reducible assumption) (by with_reducible assumption) (by with_reducible assumption) | exact dF N1 N2 (by with_reducible assumption) (by with_reducible assumption) (by with_reducible assumption) (by with_reducible assumption) (by with_reducible assumption) (by with_reducible assumption) | exact dE N1 N2 (by with_reducible assumption) (by with_reducible assumption) (by with_reducible assumption) (by with_reducible assumption) (by with_reducible assumption) (by with_reducible assumption) (by with_reducible assumption) (by with_reducible assumption) (by with_reducible assumption))))

set_option maxRecDepth 100000 in
set_option maxHeartbeats 8000000 in
theorem c_mod (w : World) (mean : ExcName → Option Value) (mg mb : Str → Option Value) : ∀ (dp un : Nat) (gd : Option (List Code)) (cn : Str) (cs : Scope) (a : Addr) (ccd : Value) (cl : List (Str × Addr)) (outer : List Env) (A₀ : Around) (base h₀ : Heap) (L : Addr) (m : Str → Option Value) (s : Shared) (Q E : Value → Shared → Prop) (news : List (Addr × Obj)) (pa pb : Addr) (x y u v : Int) (tx ty tu tv : Tok),
    Below A₀ base outer h₀ → Fr h₀ L s.heap m → (hd.heap_39 w.params).In h₀ → Top hd.view_39 (looseW hd.view_39 [Str.ofString "MOST", Str.ofString "number_of"]) mean mg mb h₀ → cs.kind = .function → dp + 30 < recursionLimit → un + 240 < cLine →
    News h₀ L s.heap news → (pa, ({ cls := .type "tuple", data := .seq #[.int x tx, .int y ty] } : Obj)) ∈ news → (pb, ({ cls := .type "tuple", data := .seq #[.int u tu, .int v tv] } : Obj)) ∈ news → NumF x y → NumF u v →
    (∀ r X Y tl h' tk', X = (nanOr x y u v (modQ x y u v)).1 → Y = (nanOr x y u v (modQ x y u v)).2 → Fr h₀ L h' m → News h₀ L h' (tl ++ news) → R3 (tl ++ news) r X Y → Q r { s with heap := h', toks := tk' }) →
    wpAny (model PySem.Challenge.rw_xm0656_01.row.prog w) (ktrTop dp un gd cn cs L a ccd cl outer) (call (.ref 119) [.ref pa, .ref pb]) Q E s := by
  k_with_none
  k_with "subscriptTail Name Constant ref int" => (k_here; (with_reducible show wpAny _ _ (subscriptTail _ _ (Value.ref _) (Value.int _ _)) _ _ _); k_dflt (refine tupAt (by k_asm) (by (with_reducible (repeat (first | assumption | exact List.mem_cons_self | refine List.mem_cons_of_mem _ ?_)))) (by decide) (by decide) (by rfl) (by rfl) ?_))
  k_with "subscriptTail Name Constant ref int" => (k_here; (with_reducible show wpAny _ _ (subscriptTail _ _ (Value.ref _) (Value.int _ _)) _ _ _); (with_unfolding_all refine' item_litK ?k1 ?k2 ?k3 ?k4 ?_ ?k6; (case k1 => is_list); (case k2 => decide); (case k3 => decide); (case k4 => rfl); (case k6 => with_unfolding_all rfl); k_whole))
  k_with "binaryOp Mod int int" => (k_here; (with_reducible refine mod_nm ?kb ?_); (case kb => first | omega | exact pos_of_mul (by with_reducible assumption) (by omega) (by omega) | exact pos_of_abs (by with_reducible assumption) (nez_of_mul (by with_reducible assumption) (by omega) (by omega)) | exact pos_of_abs (by with_reducible assumption) (by omega) | exact pos_of_mul (by with_reducible assumption) (by omega) (pos_of_abs (by with_reducible assumption) (by omega))); intro _ _ _ _)
  k_with "binaryOp FloorDiv int int" => (k_here; first
      | ((with_reducible refine div_nn ?kb ?kc ?ka ?_); (case ka => first | omega | exact nonneg_of_mul (by with_reducible assumption) (by omega) (by omega)); (case kb => first | omega | exact pos_of_mul (by with_reducible assumption) (by omega) (by omega) | exact pos_of_abs (by with_reducible assumption) (nez_of_mul (by with_reducible assumption) (by omega) (by omega)) | exact pos_of_abs (by with_reducible assumption) (by omega) | exact pos_of_mul (by with_reducible assumption) (by omega) (pos_of_abs (by with_reducible assumption) (by omega))); (case kc => omega); intro _ _ _ _)
      | ((with_reducible refine div_nm ?kb ?kc ?_); (case kb => first | omega | exact pos_of_mul (by with_reducible assumption) (by omega) (by omega) | exact pos_of_abs (by with_reducible assumption) (nez_of_mul (by with_reducible assumption) (by omega) (by omega)) | exact pos_of_abs (by with_reducible assumption) (by omega) | exact pos_of_mul (by with_reducible assumption) (by omega) (pos_of_abs (by with_reducible assumption) (by omega))); (case kc => omega); intro _ _))
  k_with "binaryOp Mult int int" => (k_here; first
      | ((with_reducible refine mul_nm (X := 1099511627776) (Y := 1099511627776) (Z := 1208925819614629174706176) ?ka ?kA ?kb ?kB (by decide) (by decide) (by decide) ?_); (case ka => omega); (case kA => omega); (case kb => omega); (case kB => omega); intro _ _ _ _)
      | ((with_reducible refine mul_nm (X := 1208925819614629174706176) (Y := 1099511627776) (Z := 1329227995784915872903807060280344576) ?ka ?kA ?kb ?kB (by decide) (by decide) (by decide) ?_); (case ka => omega); (case kA => omega); (case kb => omega); (case kB => omega); intro _ _ _ _)
      | ((with_reducible refine mul_nm (X := 1099511627776) (Y := 1208925819614629174706176) (Z := 1329227995784915872903807060280344576) ?ka ?kA ?kb ?kB (by decide) (by decide) (by decide) ?_); (case ka => omega); (case kA => omega); (case kb => omega); (case kB => omega); intro _ _ _ _)
      | ((with_reducible refine mul_nm (X := 1329227995784915872903807060280344576) (Y := 1099511627776) (Z := 1461501637330902918203684832716283019655932542976) ?ka ?kA ?kb ?kB (by decide) (by decide) (by decide) ?_); (case ka => omega); (case kA => omega); (case kb => omega); (case kB => omega); intro _ _ _ _)
      | ((with_reducible refine mul_lit ?ka ?kb ?kB ?_); (case ka => decide +kernel); (case kb => omega); (case kB => omega); intro _ _))
  k_with "call builtin:abs" => (k_here; first
      | ((with_reducible refine abs_nm (X := 1099511627776) ?ka ?kA ?_); (case ka => omega); (case kA => omega); intro _ _ _ _ _ _)
      | ((with_reducible refine abs_nm (X := 1208925819614629174706176) ?ka ?kA ?_); (case ka => omega); (case kA => omega); intro _ _ _ _ _ _)
      | ((with_reducible refine abs_nm (X := 1329227995784915872903807060280344576) ?ka ?kA ?_); (case ka => omega); (case kA => omega); intro _ _ _ _ _ _))
  k_with "my enter" => (refine' code_def ?k1 ?k2 ?k3 ?k4 ?k5 ?kA ?kF ?kK ?k6 ?k7 ?k8 ?k9 ?kB ?_ ?c2 ?c3 ?c4 ?c5; (case kA => exact rfl); (case kF => exact rfl); (case kK => first | exact rfl | assumption); (case k1 => k_asm); (case k2 => k_asm); (case k3 => k_asm); (case k4 => k_asm); (case k5 => k_asm); (case k6 => k_is); (case k7 => k_is); (case k8 => ktr_room); (case k9 => first | exact binds_K (by k_in) rfl (by k_is) rfl rfl rfl | exact BindsTo.of_eq rfl); (case c5 => decide); (case kB => exact locs rfl); (case c2 => exact rfl); (case c3 => exact rfl); (case c4 => exact rfl); k_whole; intro g' L' h' FG' F' N' B' X' T'; (try dsimp only); (try k_lift B'); (try k_fold))
  k_with "ite" => (k_here; k_openite; first
      | (refine ite_pos (by first | omega | (simp only [decide_eq_true_eq, beq_iff_eq, bne_iff_ne, ne_eq, Bool.not_eq_true', decide_eq_false_iff_not]; omega)) ?_; walk_say "PRUNED mine")
      | (refine ite_neg (by first | omega | (simp only [decide_eq_true_eq, beq_iff_eq, bne_iff_ne, ne_eq, Bool.not_eq_true', decide_eq_false_iff_not]; omega)) ?_; walk_say "PRUNED mine"))
  k_with "call ref" => (k_here; (refine wpAny_call ?_); k_dflt cell_enter)
  k_with "eval Call" => (k_here; (with_reducible show wpAny _ _ (eval (Expr.Call (Expr.Name (PySem.Str.ofString "sign_of") _) _ _ _) _) _ _ _); k_dflt (refine Call_ ?_))
  k_with "call ref" => (k_here; k_dflt (refine' c_numof _ _ _ _ _ _ _ _ _ _ _ _ _ _ _ _ _ _ _ _ _ _ _ _ _ _ ?kB ?kF ?kX ?kT ?kK ?kD ?kU ?e0 ?e1 ?e2 ?e3 ?e4 ?e5 ?_; (case kB => k_asm); (case kF => k_asm); (case kX => k_asm); (case kT => k_asm); (case kK => first | exact rfl | assumption); (case kD => ktr_room); (case kU => ktr_units); (case e0 => k_asm); (case e1 => omega); (case e2 => omega); (case e3 => first | omega | exact nez_of_mul (by with_reducible assumption) (by omega) (by omega)); (case e4 => omega); (case e5 => omega); intro X9 Y9 D9 t9 u9 h9 tk9 eX9 eY9 F9 N9 l9; (try k_lt l9); (try dsimp only); (try k_fold)))
  k_with "call ref" => (k_here; k_dflt (refine' c_sign _ _ _ _ _ _ _ _ _ _ _ _ _ _ _ _ _ _ _ _ _ _ _ _ ?kB ?kF ?kX ?kT ?kK ?kD ?kU ?e0 ?_; (case kB => k_asm); (case kF => k_asm); (case kX => k_asm); (case kT => k_asm); (case kK => first | exact rfl | assumption); (case kD => ktr_room); (case kU => ktr_units); (case e0 => k_asm); intro g9 t9 h9 tk9 eg9 p9 m9 F9 N9; (try dsimp only); (try k_fold)))
  k_fill
  intro dp un gd cn cs a ccd cl outer A₀ base h₀ L m s Q E news pa pb x y u v tx ty tu tv B F X T hk hdp hun N hA hB N1 N2 hret
  have hx1 := N1.1.1
  have hx2 := N1.1.2
  have hy1 := N1.2.1.1
  have hy2 := N1.2.1.2
  have hu1 := N2.1.1
  have hu2 := N2.1.2
  have hv1 := N2.2.1.1
  have hv2 := N2.2.1.2
  refine wpAny_call ?_
  k_dflt cell_enter
  k_steps
  all_goals (first
    | exact absurd rfl (by with_reducible assumption)
    | (refine' (fun h' tk' E F N => hret (.ref 47) 0 0 [] h' tk' (And.left E) (And.right E) F N (R3.nan rfl rfl)) _ _ ?e ?eF ?eN; (case eF => k_asm); (case eN => k_asm); (case e => first | exact nan_l (by with_reducible assumption) | exact nan_r (by with_reducible assumption) | exact mA N1 N2 (by with_reducible assumption) (by with_reducible assumption) (by with_reducible assumption) | exact mB N1 N2 (by with_reducible assumption) (by with_reducible assumption) (by with_reducible assumption) (by with_reducible assumption)))
    | (refine' (fun h' tk' E F N => hret (.ref pa) x y [] h' tk' (And.left E) (And.right E) F N (R3.of hA)) _ _ ?e ?eF ?eN; (case eF => k_asm); (case eN => k_asm); (case e => first | exact mC N1 N2 (by with_reducible assumption) (by with_reducible assumption) (by with_reducible assumption) (by with_reducible assumption) (by with_reducible assumption)))
    | (refine' (fun D X Y t1 t2 q h' tk' E F N => hret (.ref D) X Y [(D, { cls := .type "tuple", data := .seq #[.int X t1, .int Y t2] }), q] h' tk' (And.left E) (And.right E) F N (R3.of (List.Mem.head _))) _ _ _ _ _ _ _ _ ?e ?eF ?eN; (case eF => k_asm); (case eN => k_asm); (case e => first | exact mE N1 N2 (by with_reducible assumption) (by with_reducible assumption) (by with_reducible assumption) (by with_reducible assumption) (by with_reducible assumption) (by with_reducible assumption) (by with_reducible assumption) (by with_reducible assumption) (by with_reducible assumption) (by with_reducible assumption) (by with_reducible assumption) (by with_reducible assumption) (by with_reducible assumption) (by with_reducible assumption) (by with_reducible assumption))))

set_option maxRecDepth 100000 in
set_option maxHeartbeats 8000000 in
theorem c_lsign (w : World) (mean : ExcName → Option Value) (mg mb : Str → Option Value) : ∀ (dp un : Nat) (gd : Option (List Code)) (cn : Str) (cs : Scope) (a : Addr) (ccd : Value) (cl : List (Str × Addr)) (outer : List Env) (A₀ : Around) (base h₀ : Heap) (L : Addr) (m : Str → Option Value) (s : Shared) (Q E : Value → Shared → Prop) (news : List (Addr × Obj)) (pa : Addr) (x y : Int) (t u : Tok),
    Below A₀ base outer h₀ → Fr h₀ L s.heap m → (hd.heap_39 w.params).In h₀ → Top hd.view_39 (looseW hd.view_39 [Str.ofString "MOST", Str.ofString "number_of"]) mean mg mb h₀ → cs.kind = .function → dp + 6 < recursionLimit → un + 48 < cLine →
    News h₀ L s.heap news → (pa, ({ cls := .type "tuple", data := .seq #[.int x t, .int y u] } : Obj)) ∈ news →
    (∀ g tt h' tk', g = sgn x → -1 ≤ g → g ≤ 1 → Fr h₀ L h' m → News h₀ L h' news → Q (.int g tt) { s with heap := h', toks := tk' }) →
    wpAny (model PySem.Challenge.rw_xm0656_01.row.prog w) (ktrTop dp un gd cn cs L a ccd cl outer) (call (.ref 175) [.ref pa]) Q E s := by
  k_with_none
  k_with "subscriptTail Name Constant ref int" => (k_here; (with_reducible show wpAny _ _ (subscriptTail _ _ (Value.ref _) (Value.int _ _)) _ _ _); k_dflt (refine tupAt (by k_asm) (by (with_reducible (repeat (first | assumption | exact List.mem_cons_self | refine List.mem_cons_of_mem _ ?_)))) (by decide) (by decide) (by rfl) (by rfl) ?_))
  k_with "subscriptTail Name Constant ref int" => (k_here; (with_reducible show wpAny _ _ (subscriptTail _ _ (Value.ref _) (Value.int _ _)) _ _ _); (with_unfolding_all refine' item_litK ?k1 ?k2 ?k3 ?k4 ?_ ?k6; (case k1 => is_list); (case k2 => decide); (case k3 => decide); (case k4 => rfl); (case k6 => with_unfolding_all rfl); k_whole))
  k_with "binaryOp Mod int int" => (k_here; (with_reducible refine mod_nm ?kb ?_); (case kb => first | omega | exact pos_of_mul (by with_reducible assumption) (by omega) (by omega) | exact pos_of_abs (by with_reducible assumption) (nez_of_mul (by with_reducible assumption) (by omega) (by omega)) | exact pos_of_abs (by with_reducible assumption) (by omega) | exact pos_of_mul (by with_reducible assumption) (by omega) (pos_of_abs (by with_reducible assumption) (by omega))); intro _ _ _ _)
  k_with "binaryOp FloorDiv int int" => (k_here; first
      | ((with_reducible refine div_nn ?kb ?kc ?ka ?_); (case ka => first | omega | exact nonneg_of_mul (by with_reducible assumption) (by omega) (by omega)); (case kb => first | omega | exact pos_of_mul (by with_reducible assumption) (by omega) (by omega) | exact pos_of_abs (by with_reducible assumption) (nez_of_mul (by with_reducible assumption) (by omega) (by omega)) | exact pos_of_abs (by with_reducible assumption) (by omega) | exact pos_of_mul (by with_reducible assumption) (by omega) (pos_of_abs (by with_reducible assumption) (by omega))); (case kc => omega); intro _ _ _ _)
      | ((with_reducible refine div_nm ?kb ?kc ?_); (case kb => first | omega | exact pos_of_mul (by with_reducible assumption) (by omega) (by omega) | exact pos_of_abs (by with_reducible assumption) (nez_of_mul (by with_reducible assumption) (by omega) (by omega)) | exact pos_of_abs (by with_reducible assumption) (by omega) | exact pos_of_mul (by with_reducible assumption) (by omega) (pos_of_abs (by with_reducible assumption) (by omega))); (case kc => omega); intro _ _))
  k_with "binaryOp Mult int int" => (k_here; first
      | ((with_reducible refine mul_nm (X := 1099511627776) (Y := 1099511627776) (Z := 1208925819614629174706176) ?ka ?kA ?kb ?kB (by decide) (by decide) (by decide) ?_); (case ka => omega); (case kA => omega); (case kb => omega); (case kB => omega); intro _ _ _ _)
      | ((with_reducible refine mul_nm (X := 1208925819614629174706176) (Y := 1099511627776) (Z := 1329227995784915872903807060280344576) ?ka ?kA ?kb ?kB (by decide) (by decide) (by decide) ?_); (case ka => omega); (case kA => omega); (case kb => omega); (case kB => omega); intro _ _ _ _)
      | ((with_reducible refine mul_nm (X := 1099511627776) (Y := 1208925819614629174706176) (Z := 1329227995784915872903807060280344576) ?ka ?kA ?kb ?kB (by decide) (by decide) (by decide) ?_); (case ka => omega); (case kA => omega); (case kb => omega); (case kB => omega); intro _ _ _ _)
      | ((with_reducible refine mul_nm (X := 1329227995784915872903807060280344576) (Y := 1099511627776) (Z := 1461501637330902918203684832716283019655932542976) ?ka ?kA ?kb ?kB (by decide) (by decide) (by decide) ?_); (case ka => omega); (case kA => omega); (case kb => omega); (case kB => omega); intro _ _ _ _)
      | ((with_reducible refine mul_lit ?ka ?kb ?kB ?_); (case ka => decide +kernel); (case kb => omega); (case kB => omega); intro _ _))
  k_with "call builtin:abs" => (k_here; first
      | ((with_reducible refine abs_nm (X := 1099511627776) ?ka ?kA ?_); (case ka => omega); (case kA => omega); intro _ _ _ _ _ _)
      | ((with_reducible refine abs_nm (X := 1208925819614629174706176) ?ka ?kA ?_); (case ka => omega); (case kA => omega); intro _ _ _ _ _ _)
      | ((with_reducible refine abs_nm (X := 1329227995784915872903807060280344576) ?ka ?kA ?_); (case ka => omega); (case kA => omega); intro _ _ _ _ _ _))
  k_with "my enter" => (refine' code_def ?k1 ?k2 ?k3 ?k4 ?k5 ?kA ?kF ?kK ?k6 ?k7 ?k8 ?k9 ?kB ?_ ?c2 ?c3 ?c4 ?c5; (case kA => exact rfl); (case kF => exact rfl); (case kK => first | exact rfl | assumption); (case k1 => k_asm); (case k2 => k_asm); (case k3 => k_asm); (case k4 => k_asm); (case k5 => k_asm); (case k6 => k_is); (case k7 => k_is); (case k8 => ktr_room); (case k9 => first | exact binds_K (by k_in) rfl (by k_is) rfl rfl rfl | exact BindsTo.of_eq rfl); (case c5 => decide); (case kB => exact locs rfl); (case c2 => exact rfl); (case c3 => exact rfl); (case c4 => exact rfl); k_whole; intro g' L' h' FG' F' N' B' X' T'; (try dsimp only); (try k_lift B'); (try k_fold))
  k_with "ite" => (k_here; k_openite; first
      | (refine ite_pos (by first | omega | (simp only [decide_eq_true_eq, beq_iff_eq, bne_iff_ne, ne_eq, Bool.not_eq_true', decide_eq_false_iff_not]; omega)) ?_; walk_say "PRUNED mine")
      | (refine ite_neg (by first | omega | (simp only [decide_eq_true_eq, beq_iff_eq, bne_iff_ne, ne_eq, Bool.not_eq_true', decide_eq_false_iff_not]; omega)) ?_; walk_say "PRUNED mine"))
  k_with "call ref" => (k_here; (refine wpAny_call ?_); k_dflt cell_enter)
  k_fill
  intro dp un gd cn cs a ccd cl outer A₀ base h₀ L m s Q E news pa x y t u B F X T hk hdp hun N hA hret
  refine wpAny_call ?_
  k_dflt cell_enter
  k_steps
  all_goals (refine' (fun g tt h' tk' e F N => hret g tt h' tk' e (e ▸ sgn_lo x) (e ▸ sgn_hi x) F N) _ _ _ _ ?e1 ?eF ?eN; (case eF => k_asm); (case eN => first | k_asm | (refine' cb_drop ?cbN ?cbS; (case cbN => assumption); (case cbS => kcj_all))); (case e1 => (try simp only [decide_eq_true_eq]); unfold sgn; (repeat' split) <;> omega))

set_option maxRecDepth 100000 in
set_option maxHeartbeats 8000000 in
theorem c_lsum (w : World) (mean : ExcName → Option Value) (mg mb : Str → Option Value) : ∀ (dp un : Nat) (gd : Option (List Code)) (cn : Str) (cs : Scope) (a : Addr) (ccd : Value) (cl : List (Str × Addr)) (outer : List Env) (A₀ : Around) (base h₀ : Heap) (L : Addr) (m : Str → Option Value) (s : Shared) (Q E : Value → Shared → Prop) (news : List (Addr × Obj)) (pa pb : Addr) (x y u v : Int) (tx ty tu tv : Tok),
    Below A₀ base outer h₀ → Fr h₀ L s.heap m → (hd.heap_39 w.params).In h₀ → Top hd.view_39 (looseW hd.view_39 [Str.ofString "MOST", Str.ofString "number_of"]) mean mg mb h₀ → cs.kind = .function → dp + 30 < recursionLimit → un + 240 < cLine →
    News h₀ L s.heap news → (pa, ({ cls := .type "tuple", data := .seq #[.int x tx, .int y ty] } : Obj)) ∈ news → (pb, ({ cls := .type "tuple", data := .seq #[.int u tu, .int v tv] } : Obj)) ∈ news → NumF x y → NumF u v → Told x y → Told u v →
    (∀ r X Y tl h' tk', X = (sumQ x y u v).1 → Y = (sumQ x y u v).2 → Fr h₀ L h' m → News h₀ L h' (tl ++ news) → R3 (tl ++ news) r X Y → Q r { s with heap := h', toks := tk' }) →
    wpAny (model PySem.Challenge.rw_xm0656_01.row.prog w) (ktrTop dp un gd cn cs L a ccd cl outer) (call (.ref 180) [.ref pa, .ref pb]) Q E s := by
  k_with_none
  k_with "subscriptTail Name Constant ref int" => (k_here; (with_reducible show wpAny _ _ (subscriptTail _ _ (Value.ref _) (Value.int _ _)) _ _ _); k_dflt (refine tupAt (by k_asm) (by (with_reducible (repeat (first | assumption | exact List.mem_cons_self | refine List.mem_cons_of_mem _ ?_)))) (by decide) (by decide) (by rfl) (by rfl) ?_))
  k_with "subscriptTail Name Constant ref int" => (k_here; (with_reducible show wpAny _ _ (subscriptTail _ _ (Value.ref _) (Value.int _ _)) _ _ _); (with_unfolding_all refine' item_litK ?k1 ?k2 ?k3 ?k4 ?_ ?k6; (case k1 => is_list); (case k2 => decide); (case k3 => decide); (case k4 => rfl); (case k6 => with_unfolding_all rfl); k_whole))
  k_with "binaryOp Mod int int" => (k_here; (with_reducible refine mod_nm ?kb ?_); (case kb => first | omega | exact pos_of_mul (by with_reducible assumption) (by omega) (by omega) | exact pos_of_abs (by with_reducible assumption) (nez_of_mul (by with_reducible assumption) (by omega) (by omega)) | exact pos_of_abs (by with_reducible assumption) (by omega) | exact pos_of_mul (by with_reducible assumption) (by omega) (pos_of_abs (by with_reducible assumption) (by omega))); intro _ _ _ _)
  k_with "binaryOp FloorDiv int int" => (k_here; first
      | ((with_reducible refine div_nn ?kb ?kc ?ka ?_); (case ka => first | omega | exact nonneg_of_mul (by with_reducible assumption) (by omega) (by omega)); (case kb => first | omega | exact pos_of_mul (by with_reducible assumption) (by omega) (by omega) | exact pos_of_abs (by with_reducible assumption) (nez_of_mul (by with_reducible assumption) (by omega) (by omega)) | exact pos_of_abs (by with_reducible assumption) (by omega) | exact pos_of_mul (by with_reducible assumption) (by omega) (pos_of_abs (by with_reducible assumption) (by omega))); (case kc => omega); intro _ _ _ _)
      | ((with_reducible refine div_nm ?kb ?kc ?_); (case kb => first | omega | exact pos_of_mul (by with_reducible assumption) (by omega) (by omega) | exact pos_of_abs (by with_reducible assumption) (nez_of_mul (by with_reducible assumption) (by omega) (by omega)) | exact pos_of_abs (by with_reducible assumption) (by omega) | exact pos_of_mul (by with_reducible assumption) (by omega) (pos_of_abs (by with_reducible assumption) (by omega))); (case kc => omega); intro _ _))
  k_with "binaryOp Mult int int" => (k_here; first
      | ((with_reducible refine mul_nm (X := 1099511627776) (Y := 1099511627776) (Z := 1208925819614629174706176) ?ka ?kA ?kb ?kB (by decide) (by decide) (by decide) ?_); (case ka => omega); (case kA => omega); (case kb => omega); (case kB => omega); intro _ _ _ _)
      | ((with_reducible refine mul_nm (X := 1208925819614629174706176) (Y := 1099511627776) (Z := 1329227995784915872903807060280344576) ?ka ?kA ?kb ?kB (by decide) (by decide) (by decide) ?_); (case ka => omega); (case kA => omega); (case kb => omega); (case kB => omega); intro _ _ _ _)
      | ((with_reducible refine mul_nm (X := 1099511627776) (Y := 1208925819614629174706176) (Z := 1329227995784915872903807060280344576) ?ka ?kA ?kb ?kB (by decide) (by decide) (by decide) ?_); (case ka => omega); (case kA => omega); (case kb => omega); (case kB => omega); intro _ _ _ _)
      | ((with_reducible refine mul_nm (X := 1329227995784915872903807060280344576) (Y := 1099511627776) (Z := 1461501637330902918203684832716283019655932542976) ?ka ?kA ?kb ?kB (by decide) (by decide) (by decide) ?_); (case ka => omega); (case kA => omega); (case kb => omega); (case kB => omega); intro _ _ _ _)
      | ((with_reducible refine mul_lit ?ka ?kb ?kB ?_); (case ka => decide +kernel); (case kb => omega); (case kB => omega); intro _ _))
  k_with "call builtin:abs" => (k_here; first
      | ((with_reducible refine abs_nm (X := 1099511627776) ?ka ?kA ?_); (case ka => omega); (case kA => omega); intro _ _ _ _ _ _)
      | ((with_reducible refine abs_nm (X := 1208925819614629174706176) ?ka ?kA ?_); (case ka => omega); (case kA => omega); intro _ _ _ _ _ _)
      | ((with_reducible refine abs_nm (X := 1329227995784915872903807060280344576) ?ka ?kA ?_); (case ka => omega); (case kA => omega); intro _ _ _ _ _ _))
  k_with "my enter" => (refine' code_def ?k1 ?k2 ?k3 ?k4 ?k5 ?kA ?kF ?kK ?k6 ?k7 ?k8 ?k9 ?kB ?_ ?c2 ?c3 ?c4 ?c5; (case kA => exact rfl); (case kF => exact rfl); (case kK => first | exact rfl | assumption); (case k1 => k_asm); (case k2 => k_asm); (case k3 => k_asm); (case k4 => k_asm); (case k5 => k_asm); (case k6 => k_is); (case k7 => k_is); (case k8 => ktr_room); (case k9 => first | exact binds_K (by k_in) rfl (by k_is) rfl rfl rfl | exact BindsTo.of_eq rfl); (case c5 => decide); (case kB => exact locs rfl); (case c2 => exact rfl); (case c3 => exact rfl); (case c4 => exact rfl); k_whole; intro g' L' h' FG' F' N' B' X' T'; (try dsimp only); (try k_lift B'); (try k_fold))
  k_with "ite" => (k_here; k_openite; first
      | (refine ite_pos (by first | omega | (simp only [decide_eq_true_eq, beq_iff_eq, bne_iff_ne, ne_eq, Bool.not_eq_true', decide_eq_false_iff_not]; omega)) ?_; walk_say "PRUNED mine")
      | (refine ite_neg (by first | omega | (simp only [decide_eq_true_eq, beq_iff_eq, bne_iff_ne, ne_eq, Bool.not_eq_true', decide_eq_false_iff_not]; omega)) ?_; walk_say "PRUNED mine"))
  k_with "call ref" => (k_here; (refine wpAny_call ?_); k_dflt cell_enter)
  k_with "CompEnd" => k_dflt (refine LCg.CompEnd.intro (by k_asm) (by k_asm) _ (fun _ hp => hp) (by assumption) (by lcg_src) ?_)
  k_with "eval Call" => (k_here; (with_reducible show wpAny _ _ (eval (Expr.Call (Expr.Name (PySem.Str.ofString "_law_sign") _) _ _ _) _) _ _ _); k_dflt (refine Call_ ?_))
  k_with "call ref" => (k_here; k_dflt (refine' c_lowest _ _ _ _ _ _ _ _ _ _ _ _ _ _ _ _ _ _ _ _ _ _ _ _ _ _ ?kB ?kF ?kX ?kT ?kK ?kD ?kU ?e0 ?e1 ?e2 ?e3 ?e4 ?_; (case kB => k_asm); (case kF => k_asm); (case kX => k_asm); (case kT => k_asm); (case kK => first | exact rfl | assumption); (case kD => ktr_room); (case kU => ktr_units); (case e0 => k_asm); (case e1 => omega); (case e2 => omega); (case e3 => first | omega | exact pos_of_mul (by with_reducible assumption) (by omega) (by omega) | exact pos_of_abs (by with_reducible assumption) (nez_of_mul (by with_reducible assumption) (by omega) (by omega)) | exact pos_of_abs (by with_reducible assumption) (by omega) | exact pos_of_mul (by with_reducible assumption) (by omega) (pos_of_abs (by with_reducible assumption) (by omega))); (case e4 => omega); intro X9 Y9 D9 t9 u9 h9 tk9 eX9 eY9 F9 N9 l9; (try k_lt l9); (try dsimp only); (try k_fold)))
  k_with "call ref" => (k_here; k_dflt (refine' c_lsign _ _ _ _ _ _ _ _ _ _ _ _ _ _ _ _ _ _ _ _ _ _ _ _ _ _ _ ?kB ?kF ?kX ?kT ?kK ?kD ?kU ?e0 ?e1 ?_; (case kB => k_asm); (case kF => k_asm); (case kX => k_asm); (case kT => k_asm); (case kK => first | exact rfl | assumption); (case kD => ktr_room); (case kU => ktr_units); (case e0 => k_asm); (case e1 => (with_reducible (repeat (first | assumption | exact List.mem_cons_self | refine List.mem_cons_of_mem _ ?_)))); intro g9 t9 h9 tk9 eg9 p9 m9 F9 N9; (try dsimp only); (try k_fold)))
  k_fill
  intro dp un gd cn cs a ccd cl outer A₀ base h₀ L m s Q E news pa pb x y u v tx ty tu tv B F X T hk hdp hun N hA hB N1 N2 m1 m2 hret
  have hx1 := N1.1.1
  have hx2 := N1.1.2
  have hy1 := N1.2.1.1
  have hy2 := N1.2.1.2
  have hu1 := N2.1.1
  have hu2 := N2.1.2
  have hv1 := N2.2.1.1
  have hv2 := N2.2.1.2
  refine wpAny_call ?_
  k_dflt cell_enter
  k_steps
  all_goals (first
    | exact absurd rfl (by with_reducible assumption)
    | (refine' (fun D X Y t1 t2 h' tk' E F N => hret (.ref D) X Y [(D, { cls := .type "tuple", data := .seq #[.int X t1, .int Y t2] })] h' tk' (And.left E) (And.right E) F N (R3.of (List.Mem.head _))) _ _ _ _ _ _ _ ?e ?eF ?eN; (case eF => k_asm); (case eN => k_asm); (case e => first | exact pE0 (by with_reducible assumption) (by with_reducible assumption) (by with_reducible assumption) (by with_reducible assumption) (by with_reducible assumption) (by with_reducible assumption) (by with_reducible assumption)))
    | (refine' (fun D X Y t1 t2 q q' h' tk' E F N => hret (.ref D) X Y [(D, { cls := .type "tuple", data := .seq #[.int X t1, .int Y t2] }), q, q'] h' tk' (And.left E) (And.right E) F N (R3.of (List.Mem.head _))) _ _ _ _ _ _ _ _ _ ?e ?eF ?eN; (case eF => k_asm); (case eN => k_asm); (case e => first | exact sE4 (by with_reducible assumption) (by omega) (by with_reducible assumption) | exact sE1 (by omega) (by with_reducible assumption) (by with_reducible assumption) (by with_reducible assumption) (by with_reducible assumption) | exact sE2 (by omega) (by with_reducible assumption) (by with_reducible assumption) (by with_reducible assumption) (by with_reducible assumption) | exact sE3 (by omega) (by omega) (by with_reducible assumption))))

set_option maxRecDepth 100000 in
set_option maxHeartbeats 8000000 in
theorem c_lshare (w : World) (mean : ExcName → Option Value) (mg mb : Str → Option Value) : ∀ (dp un : Nat) (gd : Option (List Code)) (cn : Str) (cs : Scope) (a : Addr) (ccd : Value) (cl : List (Str × Addr)) (outer : List Env) (A₀ : Around) (base h₀ : Heap) (L : Addr) (m : Str → Option Value) (s : Shared) (Q E : Value → Shared → Prop) (news : List (Addr × Obj)) (pa pb : Addr) (x y u v : Int) (tx ty tu tv : Tok),
    Below A₀ base outer h₀ → Fr h₀ L s.heap m → (hd.heap_39 w.params).In h₀ → Top hd.view_39 (looseW hd.view_39 [Str.ofString "MOST", Str.ofString "number_of"]) mean mg mb h₀ → cs.kind = .function → dp + 30 < recursionLimit → un + 240 < cLine →
    News h₀ L s.heap news → (pa, ({ cls := .type "tuple", data := .seq #[.int x tx, .int y ty] } : Obj)) ∈ news → (pb, ({ cls := .type "tuple", data := .seq #[.int u tu, .int v tv] } : Obj)) ∈ news → NumF x y → NumF u v → Told x y → Told u v →
    (∀ r X Y tl h' tk', X = (divQ x y u v).1 → Y = (divQ x y u v).2 → Fr h₀ L h' m → News h₀ L h' (tl ++ news) → R3 (tl ++ news) r X Y → Q r { s with heap := h', toks := tk' }) →
    wpAny (model PySem.Challenge.rw_xm0656_01.row.prog w) (ktrTop dp un gd cn cs L a ccd cl outer) (call (.ref 187) [.ref pa, .ref pb]) Q E s := by
  k_with_none
  k_with "subscriptTail Name Constant ref int" => (k_here; (with_reducible show wpAny _ _ (subscriptTail _ _ (Value.ref _) (Value.int _ _)) _ _ _); k_dflt (refine tupAt (by k_asm) (by (with_reducible (repeat (first | assumption | exact List.mem_cons_self | refine List.mem_cons_of_mem _ ?_)))) (by decide) (by decide) (by rfl) (by rfl) ?_))
  k_with "subscriptTail Name Constant ref int" => (k_here; (with_reducible show wpAny _ _ (subscriptTail _ _ (Value.ref _) (Value.int _ _)) _ _ _); (with_unfolding_all refine' item_litK ?k1 ?k2 ?k3 ?k4 ?_ ?k6; (case k1 => is_list); (case k2 => decide); (case k3 => decide); (case k4 => rfl); (case k6 => with_unfolding_all rfl); k_whole))
  k_with "binaryOp Mod int int" => (k_here; (with_reducible refine mod_nm ?kb ?_); (case kb => first | omega | exact pos_of_mul (by with_reducible assumption) (by omega) (by omega) | exact pos_of_abs (by with_reducible assumption) (nez_of_mul (by with_reducible assumption) (by omega) (by omega)) | exact pos_of_abs (by with_reducible assumption) (by omega) | exact pos_of_mul (by with_reducible assumption) (by omega) (pos_of_abs (by with_reducible assumption) (by omega))); intro _ _ _ _)
  k_with "binaryOp FloorDiv int int" => (k_here; first
      | ((with_reducible refine div_nn ?kb ?kc ?ka ?_); (case ka => first | omega | exact nonneg_of_mul (by with_reducible assumption) (by omega) (by omega)); (case kb => first | omega | exact pos_of_mul (by with_reducible assumption) (by omega) (by omega) | exact pos_of_abs (by with_reducible assumption) (nez_of_mul (by with_reducible assumption) (by omega) (by omega)) | exact pos_of_abs (by with_reducible assumption) (by omega) | exact pos_of_mul (by with_reducible assumption) (by omega) (pos_of_abs (by with_reducible assumption) (by omega))); (case kc => omega); intro _ _ _ _)
      | ((with_reducible refine div_nm ?kb ?kc ?_); (case kb => first | omega | exact pos_of_mul (by with_reducible assumption) (by omega) (by omega) | exact pos_of_abs (by with_reducible assumption) (nez_of_mul (by with_reducible assumption) (by omega) (by omega)) | exact pos_of_abs (by with_reducible assumption) (by omega) | exact pos_of_mul (by with_reducible assumption) (by omega) (pos_of_abs (by with_reducible assumption) (by omega))); (case kc => omega); intro _ _))
  k_with "binaryOp Mult int int" => (k_here; first
      | ((with_reducible refine mul_nm (X := 1099511627776) (Y := 1099511627776) (Z := 1208925819614629174706176) ?ka ?kA ?kb ?kB (by decide) (by decide) (by decide) ?_); (case ka => omega); (case kA => omega); (case kb => omega); (case kB => omega); intro _ _ _ _)
      | ((with_reducible refine mul_nm (X := 1208925819614629174706176) (Y := 1099511627776) (Z := 1329227995784915872903807060280344576) ?ka ?kA ?kb ?kB (by decide) (by decide) (by decide) ?_); (case ka => omega); (case kA => omega); (case kb => omega); (case kB => omega); intro _ _ _ _)
      | ((with_reducible refine mul_nm (X := 1099511627776) (Y := 1208925819614629174706176) (Z := 1329227995784915872903807060280344576) ?ka ?kA ?kb ?kB (by decide) (by decide) (by decide) ?_); (case ka => omega); (case kA => omega); (case kb => omega); (case kB => omega); intro _ _ _ _)
      | ((with_reducible refine mul_nm (X := 1329227995784915872903807060280344576) (Y := 1099511627776) (Z := 1461501637330902918203684832716283019655932542976) ?ka ?kA ?kb ?kB (by decide) (by decide) (by decide) ?_); (case ka => omega); (case kA => omega); (case kb => omega); (case kB => omega); intro _ _ _ _)
      | ((with_reducible refine mul_lit ?ka ?kb ?kB ?_); (case ka => decide +kernel); (case kb => omega); (case kB => omega); intro _ _))
  k_with "call builtin:abs" => (k_here; first
      | ((with_reducible refine abs_nm (X := 1099511627776) ?ka ?kA ?_); (case ka => omega); (case kA => omega); intro _ _ _ _ _ _)
      | ((with_reducible refine abs_nm (X := 1208925819614629174706176) ?ka ?kA ?_); (case ka => omega); (case kA => omega); intro _ _ _ _ _ _)
      | ((with_reducible refine abs_nm (X := 1329227995784915872903807060280344576) ?ka ?kA ?_); (case ka => omega); (case kA => omega); intro _ _ _ _ _ _))
  k_with "my enter" => (refine' code_def ?k1 ?k2 ?k3 ?k4 ?k5 ?kA ?kF ?kK ?k6 ?k7 ?k8 ?k9 ?kB ?_ ?c2 ?c3 ?c4 ?c5; (case kA => exact rfl); (case kF => exact rfl); (case kK => first | exact rfl | assumption); (case k1 => k_asm); (case k2 => k_asm); (case k3 => k_asm); (case k4 => k_asm); (case k5 => k_asm); (case k6 => k_is); (case k7 => k_is); (case k8 => ktr_room); (case k9 => first | exact binds_K (by k_in) rfl (by k_is) rfl rfl rfl | exact BindsTo.of_eq rfl); (case c5 => decide); (case kB => exact locs rfl); (case c2 => exact rfl); (case c3 => exact rfl); (case c4 => exact rfl); k_whole; intro g' L' h' FG' F' N' B' X' T'; (try dsimp only); (try k_lift B'); (try k_fold))
  k_with "ite" => (k_here; k_openite; first
      | (refine ite_pos (by first | omega | (simp only [decide_eq_true_eq, beq_iff_eq, bne_iff_ne, ne_eq, Bool.not_eq_true', decide_eq_false_iff_not]; omega)) ?_; walk_say "PRUNED mine")
      | (refine ite_neg (by first | omega | (simp only [decide_eq_true_eq, beq_iff_eq, bne_iff_ne, ne_eq, Bool.not_eq_true', decide_eq_false_iff_not]; omega)) ?_; walk_say "PRUNED mine"))
  k_with "call ref" => (k_here; (refine wpAny_call ?_); k_dflt cell_enter)
  k_with "eval Call" => (k_here; (with_reducible show wpAny _ _ (eval (Expr.Call (Expr.Name (PySem.Str.ofString "_law_sign") _) _ _ _) _) _ _ _); k_dflt (refine Call_ ?_))
  k_with "call ref" => (k_here; k_dflt (refine' c_lowest _ _ _ _ _ _ _ _ _ _ _ _ _ _ _ _ _ _ _ _ _ _ _ _ _ _ ?kB ?kF ?kX ?kT ?kK ?kD ?kU ?e0 ?e1 ?e2 ?e3 ?e4 ?_; (case kB => k_asm); (case kF => k_asm); (case kX => k_asm); (case kT => k_asm); (case kK => first | exact rfl | assumption); (case kD => ktr_room); (case kU => ktr_units); (case e0 => k_asm); (case e1 => omega); (case e2 => omega); (case e3 => first | omega | exact pos_of_mul (by with_reducible assumption) (by omega) (by omega) | exact pos_of_abs (by with_reducible assumption) (nez_of_mul (by with_reducible assumption) (by omega) (by omega)) | exact pos_of_abs (by with_reducible assumption) (by omega) | exact pos_of_mul (by with_reducible assumption) (by omega) (pos_of_abs (by with_reducible assumption) (by omega))); (case e4 => omega); intro X9 Y9 D9 t9 u9 h9 tk9 eX9 eY9 F9 N9 l9; (try k_lt l9); (try dsimp only); (try k_fold)))
  k_with "call ref" => (k_here; k_dflt (refine' c_lsign _ _ _ _ _ _ _ _ _ _ _ _ _ _ _ _ _ _ _ _ _ _ _ _ _ _ _ ?kB ?kF ?kX ?kT ?kK ?kD ?kU ?e0 ?e1 ?_; (case kB => k_asm); (case kF => k_asm); (case kX => k_asm); (case kT => k_asm); (case kK => first | exact rfl | assumption); (case kD => ktr_room); (case kU => ktr_units); (case e0 => k_asm); (case e1 => (with_reducible (repeat (first | assumption | exact List.mem_cons_self | refine List.mem_cons_of_mem _ ?_)))); intro g9 t9 h9 tk9 eg9 p9 m9 F9 N9; (try dsimp only); (try k_fold)))
  k_fill
  intro dp un gd cn cs a ccd cl outer A₀ base h₀ L m s Q E news pa pb x y u v tx ty tu tv B F X T hk hdp hun N hA hB N1 N2 m1 m2 hret
  have hx1 := N1.1.1
  have hx2 := N1.1.2
  have hy1 := N1.2.1.1
  have hy2 := N1.2.1.2
  have hu1 := N2.1.1
  have hu2 := N2.1.2
  have hv1 := N2.2.1.1
  have hv2 := N2.2.1.2
  refine wpAny_call ?_
  k_dflt cell_enter
  k_steps
  all_goals (first
    | exact absurd rfl (by with_reducible assumption)
    | (refine' (fun D X Y t1 t2 h' tk' E F N => hret (.ref D) X Y [(D, { cls := .type "tuple", data := .seq #[.int X t1, .int Y t2] })] h' tk' (And.left E) (And.right E) F N (R3.of (List.Mem.head _))) _ _ _ _ _ _ _ ?e ?eF ?eN; (case eF => k_asm); (case eN => k_asm); (case e => first | exact hA6 (by with_reducible assumption) (by with_reducible assumption) (by with_reducible assumption) (by with_reducible assumption) (by with_reducible assumption) (by with_reducible assumption) (by with_reducible assumption) (by with_reducible assumption) (by with_reducible assumption) (by with_reducible assumption) | exact hA5 (by with_reducible assumption) (by with_reducible assumption) (by with_reducible assumption) (by with_reducible assumption) | exact hA4 (by with_reducible assumption) (by with_reducible assumption) | exact hA3 (by with_reducible assumption) (by with_reducible assumption) (by with_reducible assumption) (by with_reducible assumption) (by with_reducible assumption) | exact hA2 (by with_reducible assumption) (by with_reducible assumption) (by with_reducible assumption) (by with_reducible assumption) (by with_reducible assumption) | exact hA1 (by with_reducible assumption) (by with_reducible assumption))))

set_option maxRecDepth 100000 in
set_option maxHeartbeats 8000000 in
theorem c_lrest (w : World) (mean : ExcName → Option Value) (mg mb : Str → Option Value) : ∀ (dp un : Nat) (gd : Option (List Code)) (cn : Str) (cs : Scope) (a : Addr) (ccd : Value) (cl : List (Str × Addr)) (outer : List Env) (A₀ : Around) (base h₀ : Heap) (L : Addr) (m : Str → Option Value) (s : Shared) (Q E : Value → Shared → Prop) (news : List (Addr × Obj)) (pa pb : Addr) (x y u v : Int) (tx ty tu tv : Tok),
    Below A₀ base outer h₀ → Fr h₀ L s.heap m → (hd.heap_39 w.params).In h₀ → Top hd.view_39 (looseW hd.view_39 [Str.ofString "MOST", Str.ofString "number_of"]) mean mg mb h₀ → cs.kind = .function → dp + 30 < recursionLimit → un + 240 < cLine →
    News h₀ L s.heap news → (pa, ({ cls := .type "tuple", data := .seq #[.int x tx, .int y ty] } : Obj)) ∈ news → (pb, ({ cls := .type "tuple", data := .seq #[.int u tu, .int v tv] } : Obj)) ∈ news → NumF x y → NumF u v → Told x y → Told u v →
    (∀ r X Y tl h' tk', X = (modQ x y u v).1 → Y = (modQ x y u v).2 → Fr h₀ L h' m → News h₀ L h' (tl ++ news) → R3 (tl ++ news) r X Y → Q r { s with heap := h', toks := tk' }) →
    wpAny (model PySem.Challenge.rw_xm0656_01.row.prog w) (ktrTop dp un gd cn cs L a ccd cl outer) (call (.ref 194) [.ref pa, .ref pb]) Q E s := by
  k_with_none
  k_with "subscriptTail Name Constant ref int" => (k_here; (with_reducible show wpAny _ _ (subscriptTail _ _ (Value.ref _) (Value.int _ _)) _ _ _); k_dflt (refine tupAt (by k_asm) (by (with_reducible (repeat (first | assumption | exact List.mem_cons_self | refine List.mem_cons_of_mem _ ?_)))) (by decide) (by decide) (by rfl) (by rfl) ?_))
  k_with "subscriptTail Name Constant ref int" => (k_here; (with_reducible show wpAny _ _ (subscriptTail _ _ (Value.ref _) (Value.int _ _)) _ _ _); (with_unfolding_all refine' item_litK ?k1 ?k2 ?k3 ?k4 ?_ ?k6; (case k1 => is_list); (case k2 => decide); (case k3 => decide); (case k4 => rfl); (case k6 => with_unfolding_all rfl); k_whole))
  k_with "binaryOp Mod int int" => (k_here; (with_reducible refine mod_nm ?kb ?_); (case kb => first | omega | exact pos_of_mul (by with_reducible assumption) (by omega) (by omega) | exact pos_of_abs (by with_reducible assumption) (nez_of_mul (by with_reducible assumption) (by omega) (by omega)) | exact pos_of_abs (by with_reducible assumption) (by omega) | exact pos_of_mul (by with_reducible assumption) (by omega) (pos_of_abs (by with_reducible assumption) (by omega))); intro _ _ _ _)
  k_with "binaryOp FloorDiv int int" => (k_here; first
      | ((with_reducible refine div_nn ?kb ?kc ?ka ?_); (case ka => first | omega | exact nonneg_of_mul (by with_reducible assumption) (by omega) (by omega)); (case kb => first | omega | exact pos_of_mul (by with_reducible assumption) (by omega) (by omega) | exact pos_of_abs (by with_reducible assumption) (nez_of_mul (by with_reducible assumption) (by omega) (by omega)) | exact pos_of_abs (by with_reducible assumption) (by omega) | exact pos_of_mul (by with_reducible assumption) (by omega) (pos_of_abs (by with_reducible assumption) (by omega))); (case kc => omega); intro _ _ _ _)
      | ((with_reducible refine div_nm ?kb ?kc ?_); (case kb => first | omega | exact pos_of_mul (by with_reducible assumption) (by omega) (by omega) | exact pos_of_abs (by with_reducible assumption) (nez_of_mul (by with_reducible assumption) (by omega) (by omega)) | exact pos_of_abs (by with_reducible assumption) (by omega) | exact pos_of_mul (by with_reducible assumption) (by omega) (pos_of_abs (by with_reducible assumption) (by omega))); (case kc => omega); intro _ _))
  k_with "binaryOp Mult int int" => (k_here; first
      | ((with_reducible refine mul_nm (X := 1099511627776) (Y := 1099511627776) (Z := 1208925819614629174706176) ?ka ?kA ?kb ?kB (by decide) (by decide) (by decide) ?_); (case ka => omega); (case kA => omega); (case kb => omega); (case kB => omega); intro _ _ _ _)
      | ((with_reducible refine mul_nm (X := 1208925819614629174706176) (Y := 1099511627776) (Z := 1329227995784915872903807060280344576) ?ka ?kA ?kb ?kB (by decide) (by decide) (by decide) ?_); (case ka => omega); (case kA => omega); (case kb => omega); (case kB => omega); intro _ _ _ _)
      | ((with_reducible refine mul_nm (X := 1099511627776) (Y := 1208925819614629174706176) (Z := 1329227995784915872903807060280344576) ?ka ?kA ?kb ?kB (by decide) (by decide) (by decide) ?_); (case ka => omega); (case kA => omega); (case kb => omega); (case kB => omega); intro _ _ _ _)
      | ((with_reducible refine mul_nm (X := 1329227995784915872903807060280344576) (Y := 1099511627776) (Z := 1461501637330902918203684832716283019655932542976) ?ka ?kA ?kb ?kB (by decide) (by decide) (by decide) ?_); (case ka => omega); (case kA => omega); (case kb => omega); (case kB => omega); intro _ _ _ _)
      | ((with_reducible refine mul_lit ?ka ?kb ?kB ?_); (case ka => decide +kernel); (case kb => omega); (case kB => omega); intro _ _))
  k_with "call builtin:abs" => (k_here; first
      | ((with_reducible refine abs_nm (X := 1099511627776) ?ka ?kA ?_); (case ka => omega); (case kA => omega); intro _ _ _ _ _ _)
      | ((with_reducible refine abs_nm (X := 1208925819614629174706176) ?ka ?kA ?_); (case ka => omega); (case kA => omega); intro _ _ _ _ _ _)
      | ((with_reducible refine abs_nm (X := 1329227995784915872903807060280344576) ?ka ?kA ?_); (case ka => omega); (case kA => omega); intro _ _ _ _ _ _))
  k_with "my enter" => (refine' code_def ?k1 ?k2 ?k3 ?k4 ?k5 ?kA ?kF ?kK ?k6 ?k7 ?k8 ?k9 ?kB ?_ ?c2 ?c3 ?c4 ?c5; (case kA => exact rfl); (case kF => exact rfl); (case kK => first | exact rfl | assumption); (case k1 => k_asm); (case k2 => k_asm); (case k3 => k_asm); (case k4 => k_asm); (case k5 => k_asm); (case k6 => k_is); (case k7 => k_is); (case k8 => ktr_room); (case k9 => first | exact binds_K (by k_in) rfl (by k_is) rfl rfl rfl | exact BindsTo.of_eq rfl); (case c5 => decide); (case kB => exact locs rfl); (case c2 => exact rfl); (case c3 => exact rfl); (case c4 => exact rfl); k_whole; intro g' L' h' FG' F' N' B' X' T'; (try dsimp only); (try k_lift B'); (try k_fold))
  k_with "ite" => (k_here; k_openite; first
      | (refine ite_pos (by first | omega | (simp only [decide_eq_true_eq, beq_iff_eq, bne_iff_ne, ne_eq, Bool.not_eq_true', decide_eq_false_iff_not]; omega)) ?_; walk_say "PRUNED mine")
      | (refine ite_neg (by first | omega | (simp only [decide_eq_true_eq, beq_iff_eq, bne_iff_ne, ne_eq, Bool.not_eq_true', decide_eq_false_iff_not]; omega)) ?_; walk_say "PRUNED mine"))
  k_with "call ref" => (k_here; (refine wpAny_call ?_); k_dflt cell_enter)
  k_with "binaryOp Sub int int" => (k_here; (with_reducible refine sub_rest (by with_reducible assumption) (by with_reducible assumption) (by with_reducible assumption) (by with_reducible assumption) (by with_reducible assumption) (by with_reducible assumption) (by with_reducible assumption) (by with_reducible assumption) (by with_reducible assumption) (by with_reducible assumption) ?kb ?kc ?_); (case kb => first | omega | exact pos_of_mul (by with_reducible assumption) (by omega) (by omega) | exact pos_of_abs (by with_reducible assumption) (nez_of_mul (by with_reducible assumption) (by omega) (by omega)) | exact pos_of_abs (by with_reducible assumption) (by omega) | exact pos_of_mul (by with_reducible assumption) (by omega) (pos_of_abs (by with_reducible assumption) (by omega))); (case kc => omega); intro _ _ _ _)
  k_with "eval Call" => (k_here; (with_reducible show wpAny _ _ (eval (Expr.Call (Expr.Name (PySem.Str.ofString "_law_sign") _) _ _ _) _) _ _ _); k_dflt (refine Call_ ?_))
  k_with "call ref" => (k_here; k_dflt (refine' c_lowest _ _ _ _ _ _ _ _ _ _ _ _ _ _ _ _ _ _ _ _ _ _ _ _ _ _ ?kB ?kF ?kX ?kT ?kK ?kD ?kU ?e0 ?e1 ?e2 ?e3 ?e4 ?_; (case kB => k_asm); (case kF => k_asm); (case kX => k_asm); (case kT => k_asm); (case kK => first | exact rfl | assumption); (case kD => ktr_room); (case kU => ktr_units); (case e0 => k_asm); (case e1 => omega); (case e2 => omega); (case e3 => first | omega | exact pos_of_mul (by with_reducible assumption) (by omega) (by omega) | exact pos_of_abs (by with_reducible assumption) (nez_of_mul (by with_reducible assumption) (by omega) (by omega)) | exact pos_of_abs (by with_reducible assumption) (by omega) | exact pos_of_mul (by with_reducible assumption) (by omega) (pos_of_abs (by with_reducible assumption) (by omega))); (case e4 => omega); intro X9 Y9 D9 t9 u9 h9 tk9 eX9 eY9 F9 N9 l9; (try k_lt l9); (try dsimp only); (try k_fold)))
  k_with "call ref" => (k_here; k_dflt (refine' c_lsign _ _ _ _ _ _ _ _ _ _ _ _ _ _ _ _ _ _ _ _ _ _ _ _ _ _ _ ?kB ?kF ?kX ?kT ?kK ?kD ?kU ?e0 ?e1 ?_; (case kB => k_asm); (case kF => k_asm); (case kX => k_asm); (case kT => k_asm); (case kK => first | exact rfl | assumption); (case kD => ktr_room); (case kU => ktr_units); (case e0 => k_asm); (case e1 => (with_reducible (repeat (first | assumption | exact List.mem_cons_self | refine List.mem_cons_of_mem _ ?_)))); intro g9 t9 h9 tk9 eg9 p9 m9 F9 N9; (try dsimp only); (try k_fold)))
  k_fill
  intro dp un gd cn cs a ccd cl outer A₀ base h₀ L m s Q E news pa pb x y u v tx ty tu tv B F X T hk hdp hun N hA hB N1 N2 m1 m2 hret
  have hx1 := N1.1.1
  have hx2 := N1.1.2
  have hy1 := N1.2.1.1
  have hy2 := N1.2.1.2
  have hu1 := N2.1.1
  have hu2 := N2.1.2
  have hv1 := N2.2.1.1
  have hv2 := N2.2.1.2
  refine wpAny_call ?_
  k_dflt cell_enter
  k_steps
  all_goals (first
    | exact absurd rfl (by with_reducible assumption)
    | (refine' (fun D X Y t1 t2 h' tk' E F N => hret (.ref D) X Y [(D, { cls := .type "tuple", data := .seq #[.int X t1, .int Y t2] })] h' tk' (And.left E) (And.right E) F N (R3.of (List.Mem.head _))) _ _ _ _ _ _ _ ?e ?eF ?eN; (case eF => k_asm); (case eN => k_asm); (case e => first | exact rA5 (by with_reducible assumption) (by with_reducible assumption) (by with_reducible assumption) (by with_reducible assumption) (by with_reducible assumption) (by with_reducible assumption) (by with_reducible assumption) (by with_reducible assumption) (by with_reducible assumption) | exact rA2 (by with_reducible assumption) (by with_reducible assumption) (by with_reducible assumption) | exact rA1 (by with_reducible assumption)))
    | (refine' (fun h' tk' E F N => hret (.ref pa) x y [] h' tk' (And.left E) (And.right E) F N (R3.of hA)) _ _ ?e ?eF ?eN; (case eF => k_asm); (case eN => k_asm); (case e => first | exact rA4 (by with_reducible assumption) (by with_reducible assumption) (by with_reducible assumption) | exact rA3 N2 m2 (by with_reducible assumption) (by with_reducible assumption) (by with_reducible assumption))))

set_option maxRecDepth 100000 in
set_option maxHeartbeats 8000000 in
theorem c_reck (w : World) (mean : ExcName → Option Value) (mg mb : Str → Option Value) : ∀ (dp un : Nat) (gd : Option (List Code)) (cn : Str) (cs : Scope) (a : Addr) (ccd : Value) (cl : List (Str × Addr)) (outer : List Env) (A₀ : Around) (base h₀ : Heap) (L : Addr) (m : Str → Option Value) (s : Shared) (Q E : Value → Shared → Prop) (news : List (Addr × Obj)) (pa pb : Addr) (x y u v : Int) (tx ty tu tv : Tok) (o : Op) (to : Tok),
    Below A₀ base outer h₀ → Fr h₀ L s.heap m → (hd.heap_39 w.params).In h₀ → Top hd.view_39 (looseW hd.view_39 [Str.ofString "MOST", Str.ofString "number_of"]) mean mg mb h₀ → cs.kind = .function → dp + 60 < recursionLimit → un + 480 < cLine →
    News h₀ L s.heap news → (pa, ({ cls := .type "tuple", data := .seq #[.int x tx, .int y ty] } : Obj)) ∈ news → (pb, ({ cls := .type "tuple", data := .seq #[.int u tu, .int v tv] } : Obj)) ∈ news → NumF x y → NumF u v →
    (∀ r X Y tl h' tk', X = (dueQ o x y u v).1 → Y = (dueQ o x y u v).2 → Fr h₀ L h' m → News h₀ L h' (tl ++ news) → R3 (tl ++ news) r X Y → Q r { s with heap := h', toks := tk' }) →
    wpAny (model PySem.Challenge.rw_xm0656_01.row.prog w) (ktrTop dp un gd cn cs L a ccd cl outer) (call (.ref 133) [.str (Op.str o) to, .ref pa, .ref pb]) Q E s := by
  k_with_none
  k_with "subscriptTail Name Constant ref int" => (k_here; (with_reducible show wpAny _ _ (subscriptTail _ _ (Value.ref _) (Value.int _ _)) _ _ _); k_dflt (refine tupAt (by k_asm) (by (with_reducible (repeat (first | assumption | exact List.mem_cons_self | refine List.mem_cons_of_mem _ ?_)))) (by decide) (by decide) (by rfl) (by rfl) ?_))
  k_with "subscriptTail Name Constant ref int" => (k_here; (with_reducible show wpAny _ _ (subscriptTail _ _ (Value.ref _) (Value.int _ _)) _ _ _); (with_unfolding_all refine' item_litK ?k1 ?k2 ?k3 ?k4 ?_ ?k6; (case k1 => is_list); (case k2 => decide); (case k3 => decide); (case k4 => rfl); (case k6 => with_unfolding_all rfl); k_whole))
  k_with "binaryOp Mod int int" => (k_here; (with_reducible refine mod_nm ?kb ?_); (case kb => first | omega | exact pos_of_mul (by with_reducible assumption) (by omega) (by omega) | exact pos_of_abs (by with_reducible assumption) (nez_of_mul (by with_reducible assumption) (by omega) (by omega)) | exact pos_of_abs (by with_reducible assumption) (by omega) | exact pos_of_mul (by with_reducible assumption) (by omega) (pos_of_abs (by with_reducible assumption) (by omega))); intro _ _ _ _)
  k_with "binaryOp FloorDiv int int" => (k_here; first
      | ((with_reducible refine div_nn ?kb ?kc ?ka ?_); (case ka => first | omega | exact nonneg_of_mul (by with_reducible assumption) (by omega) (by omega)); (case kb => first | omega | exact pos_of_mul (by with_reducible assumption) (by omega) (by omega) | exact pos_of_abs (by with_reducible assumption) (nez_of_mul (by with_reducible assumption) (by omega) (by omega)) | exact pos_of_abs (by with_reducible assumption) (by omega) | exact pos_of_mul (by with_reducible assumption) (by omega) (pos_of_abs (by with_reducible assumption) (by omega))); (case kc => omega); intro _ _ _ _)
      | ((with_reducible refine div_nm ?kb ?kc ?_); (case kb => first | omega | exact pos_of_mul (by with_reducible assumption) (by omega) (by omega) | exact pos_of_abs (by with_reducible assumption) (nez_of_mul (by with_reducible assumption) (by omega) (by omega)) | exact pos_of_abs (by with_reducible assumption) (by omega) | exact pos_of_mul (by with_reducible assumption) (by omega) (pos_of_abs (by with_reducible assumption) (by omega))); (case kc => omega); intro _ _))
  k_with "binaryOp Mult int int" => (k_here; first
      | ((with_reducible refine mul_nm (X := 1099511627776) (Y := 1099511627776) (Z := 1208925819614629174706176) ?ka ?kA ?kb ?kB (by decide) (by decide) (by decide) ?_); (case ka => omega); (case kA => omega); (case kb => omega); (case kB => omega); intro _ _ _ _)
      | ((with_reducible refine mul_nm (X := 1208925819614629174706176) (Y := 1099511627776) (Z := 1329227995784915872903807060280344576) ?ka ?kA ?kb ?kB (by decide) (by decide) (by decide) ?_); (case ka => omega); (case kA => omega); (case kb => omega); (case kB => omega); intro _ _ _ _)
      | ((with_reducible refine mul_nm (X := 1099511627776) (Y := 1208925819614629174706176) (Z := 1329227995784915872903807060280344576) ?ka ?kA ?kb ?kB (by decide) (by decide) (by decide) ?_); (case ka => omega); (case kA => omega); (case kb => omega); (case kB => omega); intro _ _ _ _)
      | ((with_reducible refine mul_nm (X := 1329227995784915872903807060280344576) (Y := 1099511627776) (Z := 1461501637330902918203684832716283019655932542976) ?ka ?kA ?kb ?kB (by decide) (by decide) (by decide) ?_); (case ka => omega); (case kA => omega); (case kb => omega); (case kB => omega); intro _ _ _ _)
      | ((with_reducible refine mul_lit ?ka ?kb ?kB ?_); (case ka => decide +kernel); (case kb => omega); (case kB => omega); intro _ _))
  k_with "call builtin:abs" => (k_here; first
      | ((with_reducible refine abs_nm (X := 1099511627776) ?ka ?kA ?_); (case ka => omega); (case kA => omega); intro _ _ _ _ _ _)
      | ((with_reducible refine abs_nm (X := 1208925819614629174706176) ?ka ?kA ?_); (case ka => omega); (case kA => omega); intro _ _ _ _ _ _)
      | ((with_reducible refine abs_nm (X := 1329227995784915872903807060280344576) ?ka ?kA ?_); (case ka => omega); (case kA => omega); intro _ _ _ _ _ _))
  k_with "my enter" => (refine' code_def ?k1 ?k2 ?k3 ?k4 ?k5 ?kA ?kF ?kK ?k6 ?k7 ?k8 ?k9 ?kB ?_ ?c2 ?c3 ?c4 ?c5; (case kA => exact rfl); (case kF => exact rfl); (case kK => first | exact rfl | assumption); (case k1 => k_asm); (case k2 => k_asm); (case k3 => k_asm); (case k4 => k_asm); (case k5 => k_asm); (case k6 => k_is); (case k7 => k_is); (case k8 => ktr_room); (case k9 => first | exact binds_K (by k_in) rfl (by k_is) rfl rfl rfl | exact BindsTo.of_eq rfl); (case c5 => decide); (case kB => exact locs rfl); (case c2 => exact rfl); (case c3 => exact rfl); (case c4 => exact rfl); k_whole; intro g' L' h' FG' F' N' B' X' T'; (try dsimp only); (try k_lift B'); (try k_fold))
  k_with "ite" => (k_here; k_openite; first
      | (refine ite_pos (by first | omega | (simp only [decide_eq_true_eq, beq_iff_eq, bne_iff_ne, ne_eq, Bool.not_eq_true', decide_eq_false_iff_not]; omega)) ?_; walk_say "PRUNED mine")
      | (refine ite_neg (by first | omega | (simp only [decide_eq_true_eq, beq_iff_eq, bne_iff_ne, ne_eq, Bool.not_eq_true', decide_eq_false_iff_not]; omega)) ?_; walk_say "PRUNED mine"))
  k_with "call ref" => (k_here; (refine wpAny_call ?_); k_dflt cell_enter)
  k_with "call ref" => (k_here; k_dflt (refine' c_plus _ _ _ _ _ _ _ _ _ _ _ _ _ _ _ _ _ _ _ _ _ _ _ _ _ _ _ _ _ _ _ _ ?kB ?kF ?kX ?kT ?kK ?kD ?kU ?e0 ?e1 ?e2 ?e3 ?e4 ?_; (case kB => k_asm); (case kF => k_asm); (case kX => k_asm); (case kT => k_asm); (case kK => first | exact rfl | assumption); (case kD => ktr_room); (case kU => ktr_units); (case e0 => k_asm); (case e1 => (with_reducible (repeat (first | assumption | exact List.mem_cons_self | refine List.mem_cons_of_mem _ ?_)))); (case e2 => (with_reducible (repeat (first | assumption | exact List.mem_cons_self | refine List.mem_cons_of_mem _ ?_)))); (case e3 => assumption); (case e4 => first | assumption | exact numF_neg (by assumption)); intro r9 X9 Y9 tl9 h9 tk9 eX9 eY9 F9 N9 R9; (try dsimp only); (try k_fold)))
  k_with "call ref" => (k_here; k_dflt (refine' c_times _ _ _ _ _ _ _ _ _ _ _ _ _ _ _ _ _ _ _ _ _ _ _ _ _ _ _ _ _ _ _ _ ?kB ?kF ?kX ?kT ?kK ?kD ?kU ?e0 ?e1 ?e2 ?e3 ?e4 ?_; (case kB => k_asm); (case kF => k_asm); (case kX => k_asm); (case kT => k_asm); (case kK => first | exact rfl | assumption); (case kD => ktr_room); (case kU => ktr_units); (case e0 => k_asm); (case e1 => (with_reducible (repeat (first | assumption | exact List.mem_cons_self | refine List.mem_cons_of_mem _ ?_)))); (case e2 => (with_reducible (repeat (first | assumption | exact List.mem_cons_self | refine List.mem_cons_of_mem _ ?_)))); (case e3 => assumption); (case e4 => first | assumption | exact numF_neg (by assumption)); intro r9 X9 Y9 tl9 h9 tk9 eX9 eY9 F9 N9 R9; (try dsimp only); (try k_fold)))
  k_with "call ref" => (k_here; k_dflt (refine' c_div _ _ _ _ _ _ _ _ _ _ _ _ _ _ _ _ _ _ _ _ _ _ _ _ _ _ _ _ _ _ _ _ ?kB ?kF ?kX ?kT ?kK ?kD ?kU ?e0 ?e1 ?e2 ?e3 ?e4 ?_; (case kB => k_asm); (case kF => k_asm); (case kX => k_asm); (case kT => k_asm); (case kK => first | exact rfl | assumption); (case kD => ktr_room); (case kU => ktr_units); (case e0 => k_asm); (case e1 => (with_reducible (repeat (first | assumption | exact List.mem_cons_self | refine List.mem_cons_of_mem _ ?_)))); (case e2 => (with_reducible (repeat (first | assumption | exact List.mem_cons_self | refine List.mem_cons_of_mem _ ?_)))); (case e3 => assumption); (case e4 => first | assumption | exact numF_neg (by assumption)); intro r9 X9 Y9 tl9 h9 tk9 eX9 eY9 F9 N9 R9; (try dsimp only); (try k_fold)))
  k_with "call ref" => (k_here; k_dflt (refine' c_mod _ _ _ _ _ _ _ _ _ _ _ _ _ _ _ _ _ _ _ _ _ _ _ _ _ _ _ _ _ _ _ _ ?kB ?kF ?kX ?kT ?kK ?kD ?kU ?e0 ?e1 ?e2 ?e3 ?e4 ?_; (case kB => k_asm); (case kF => k_asm); (case kX => k_asm); (case kT => k_asm); (case kK => first | exact rfl | assumption); (case kD => ktr_room); (case kU => ktr_units); (case e0 => k_asm); (case e1 => (with_reducible (repeat (first | assumption | exact List.mem_cons_self | refine List.mem_cons_of_mem _ ?_)))); (case e2 => (with_reducible (repeat (first | assumption | exact List.mem_cons_self | refine List.mem_cons_of_mem _ ?_)))); (case e3 => assumption); (case e4 => first | assumption | exact numF_neg (by assumption)); intro r9 X9 Y9 tl9 h9 tk9 eX9 eY9 F9 N9 R9; (try dsimp only); (try k_fold)))
  k_fill
  intro dp un gd cn cs a ccd cl outer A₀ base h₀ L m s Q E news pa pb x y u v tx ty tu tv o to B F X T hk hdp hun N hA hB N1 N2 hret
  have hx1 := N1.1.1
  have hx2 := N1.1.2
  have hy1 := N1.2.1.1
  have hy2 := N1.2.1.2
  have hu1 := N2.1.1
  have hu2 := N2.1.2
  have hv1 := N2.2.1.1
  have hv2 := N2.2.1.2
  cases o
  all_goals (dsimp only [Op.str]; refine wpAny_call ?_; k_dflt cell_enter)
  all_goals k_steps
  all_goals (first
    | (refine' hret _ _ _ _ _ _ ?e1 ?e2 ?eF ?eN ?eR; (case eR => assumption); (case eF => k_asm); (case eN => k_asm); (case e1 => assumption); (case e2 => assumption))
    | (refine' (fun r X Y tl q h' tk' e1 e2 F N R => hret r X Y (tl ++ [q]) h' tk' ((congrArg Prod.fst due_sub) ▸ e1) ((congrArg Prod.snd due_sub) ▸ e2) F (news_up N) (R3.up R)) _ _ _ _ _ _ _ ?e1 ?e2 ?eF ?eN ?eR; (case eR => assumption); (case eF => k_asm); (case eN => k_asm); (case e1 => assumption); (case e2 => assumption)))

set_option maxRecDepth 100000 in
set_option maxHeartbeats 8000000 in
theorem c_due (w : World) (mean : ExcName → Option Value) (mg mb : Str → Option Value) : ∀ (dp un : Nat) (gd : Option (List Code)) (cn : Str) (cs : Scope) (a : Addr) (ccd : Value) (cl : List (Str × Addr)) (outer : List Env) (A₀ : Around) (base h₀ : Heap) (L : Addr) (m : Str → Option Value) (s : Shared) (Q E : Value → Shared → Prop) (news : List (Addr × Obj)) (pa pb : Addr) (x y u v : Int) (tx ty tu tv : Tok) (o : Op) (to : Tok),
    Below A₀ base outer h₀ → Fr h₀ L s.heap m → (hd.heap_39 w.params).In h₀ → Top hd.view_39 (looseW hd.view_39 [Str.ofString "MOST", Str.ofString "number_of"]) mean mg mb h₀ → cs.kind = .function → dp + 60 < recursionLimit → un + 480 < cLine →
    News h₀ L s.heap news → (pa, ({ cls := .type "tuple", data := .seq #[.int x tx, .int y ty] } : Obj)) ∈ news → (pb, ({ cls := .type "tuple", data := .seq #[.int u tu, .int v tv] } : Obj)) ∈ news → NumF x y → NumF u v →
    (∀ r X Y tl h' tk', X = (dueQ o x y u v).1 → Y = (dueQ o x y u v).2 → Fr h₀ L h' m → News h₀ L h' (tl ++ news) → R3 (tl ++ news) r X Y → Q r { s with heap := h', toks := tk' }) →
    wpAny (model PySem.Challenge.rw_xm0656_01.row.prog w) (ktrTop dp un gd cn cs L a ccd cl outer) (call (.ref 201) [.str (Op.str o) to, .ref pa, .ref pb]) Q E s := by
  k_with_none
  k_with "subscriptTail Name Constant ref int" => (k_here; (with_reducible show wpAny _ _ (subscriptTail _ _ (Value.ref _) (Value.int _ _)) _ _ _); k_dflt (refine tupAt (by k_asm) (by (with_reducible (repeat (first | assumption | exact List.mem_cons_self | refine List.mem_cons_of_mem _ ?_)))) (by decide) (by decide) (by rfl) (by rfl) ?_))
  k_with "subscriptTail Name Constant ref int" => (k_here; (with_reducible show wpAny _ _ (subscriptTail _ _ (Value.ref _) (Value.int _ _)) _ _ _); (with_unfolding_all refine' item_litK ?k1 ?k2 ?k3 ?k4 ?_ ?k6; (case k1 => is_list); (case k2 => decide); (case k3 => decide); (case k4 => rfl); (case k6 => with_unfolding_all rfl); k_whole))
  k_with "binaryOp Mod int int" => (k_here; (with_reducible refine mod_nm ?kb ?_); (case kb => first | omega | exact pos_of_mul (by with_reducible assumption) (by omega) (by omega) | exact pos_of_abs (by with_reducible assumption) (nez_of_mul (by with_reducible assumption) (by omega) (by omega)) | exact pos_of_abs (by with_reducible assumption) (by omega) | exact pos_of_mul (by with_reducible assumption) (by omega) (pos_of_abs (by with_reducible assumption) (by omega))); intro _ _ _ _)
  k_with "binaryOp FloorDiv int int" => (k_here; first
      | ((with_reducible refine div_nn ?kb ?kc ?ka ?_); (case ka => first | omega | exact nonneg_of_mul (by with_reducible assumption) (by omega) (by omega)); (case kb => first | omega | exact pos_of_mul (by with_reducible assumption) (by omega) (by omega) | exact pos_of_abs (by with_reducible assumption) (nez_of_mul (by with_reducible assumption) (by omega) (by omega)) | exact pos_of_abs (by with_reducible assumption) (by omega) | exact pos_of_mul (by with_reducible assumption) (by omega) (pos_of_abs (by with_reducible assumption) (by omega))); (case kc => omega); intro _ _ _ _)
      | ((with_reducible refine div_nm ?kb ?kc ?_); (case kb => first | omega | exact pos_of_mul (by with_reducible assumption) (by omega) (by omega) | exact pos_of_abs (by with_reducible assumption) (nez_of_mul (by with_reducible assumption) (by omega) (by omega)) | exact pos_of_abs (by with_reducible assumption) (by omega) | exact pos_of_mul (by with_reducible assumption) (by omega) (pos_of_abs (by with_reducible assumption) (by omega))); (case kc => omega); intro _ _))
  k_with "binaryOp Mult int int" => (k_here; first
      | ((with_reducible refine mul_nm (X := 1099511627776) (Y := 1099511627776) (Z := 1208925819614629174706176) ?ka ?kA ?kb ?kB (by decide) (by decide) (by decide) ?_); (case ka => omega); (case kA => omega); (case kb => omega); (case kB => omega); intro _ _ _ _)
      | ((with_reducible refine mul_nm (X := 1208925819614629174706176) (Y := 1099511627776) (Z := 1329227995784915872903807060280344576) ?ka ?kA ?kb ?kB (by decide) (by decide) (by decide) ?_); (case ka => omega); (case kA => omega); (case kb => omega); (case kB => omega); intro _ _ _ _)
      | ((with_reducible refine mul_nm (X := 1099511627776) (Y := 1208925819614629174706176) (Z := 1329227995784915872903807060280344576) ?ka ?kA ?kb ?kB (by decide) (by decide) (by decide) ?_); (case ka => omega); (case kA => omega); (case kb => omega); (case kB => omega); intro _ _ _ _)
      | ((with_reducible refine mul_nm (X := 1329227995784915872903807060280344576) (Y := 1099511627776) (Z := 1461501637330902918203684832716283019655932542976) ?ka ?kA ?kb ?kB (by decide) (by decide) (by decide) ?_); (case ka => omega); (case kA => omega); (case kb => omega); (case kB => omega); intro _ _ _ _)
      | ((with_reducible refine mul_lit ?ka ?kb ?kB ?_); (case ka => decide +kernel); (case kb => omega); (case kB => omega); intro _ _))
  k_with "call builtin:abs" => (k_here; first
      | ((with_reducible refine abs_nm (X := 1099511627776) ?ka ?kA ?_); (case ka => omega); (case kA => omega); intro _ _ _ _ _ _)
      | ((with_reducible refine abs_nm (X := 1208925819614629174706176) ?ka ?kA ?_); (case ka => omega); (case kA => omega); intro _ _ _ _ _ _)
      | ((with_reducible refine abs_nm (X := 1329227995784915872903807060280344576) ?ka ?kA ?_); (case ka => omega); (case kA => omega); intro _ _ _ _ _ _))
  k_with "my enter" => (refine' code_def ?k1 ?k2 ?k3 ?k4 ?k5 ?kA ?kF ?kK ?k6 ?k7 ?k8 ?k9 ?kB ?_ ?c2 ?c3 ?c4 ?c5; (case kA => exact rfl); (case kF => exact rfl); (case kK => first | exact rfl | assumption); (case k1 => k_asm); (case k2 => k_asm); (case k3 => k_asm); (case k4 => k_asm); (case k5 => k_asm); (case k6 => k_is); (case k7 => k_is); (case k8 => ktr_room); (case k9 => first | exact binds_K (by k_in) rfl (by k_is) rfl rfl rfl | exact BindsTo.of_eq rfl); (case c5 => decide); (case kB => exact locs rfl); (case c2 => exact rfl); (case c3 => exact rfl); (case c4 => exact rfl); k_whole; intro g' L' h' FG' F' N' B' X' T'; (try dsimp only); (try k_lift B'); (try k_fold))
  k_with "ite" => (k_here; k_openite; first
      | (refine ite_pos (by first | omega | (simp only [decide_eq_true_eq, beq_iff_eq, bne_iff_ne, ne_eq, Bool.not_eq_true', decide_eq_false_iff_not]; omega)) ?_; walk_say "PRUNED mine")
      | (refine ite_neg (by first | omega | (simp only [decide_eq_true_eq, beq_iff_eq, bne_iff_ne, ne_eq, Bool.not_eq_true', decide_eq_false_iff_not]; omega)) ?_; walk_say "PRUNED mine"))
  k_with "call ref" => (k_here; (refine wpAny_call ?_); k_dflt cell_enter)
  k_with "compareOp In ref ref" => (k_here; k_dflt (refine in_pairs (by k_asm) (by (with_reducible (repeat (first | assumption | exact List.mem_cons_self | refine List.mem_cons_of_mem _ ?_)))) (by (with_reducible (repeat (first | assumption | exact List.mem_cons_self | refine List.mem_cons_of_mem _ ?_)))) (by (with_reducible (repeat (first | assumption | exact List.mem_cons_self | refine List.mem_cons_of_mem _ ?_)))) (by (with_reducible (repeat (first | assumption | exact List.mem_cons_self | refine List.mem_cons_of_mem _ ?_)))) (by ktr_units) ?_ ?_ <;> intros))
  k_with "eval Call" => (k_here; (with_reducible show wpAny _ _ (eval (Expr.Call (Expr.Name (PySem.Str.ofString "_law_sign") _) _ _ _) _) _ _ _); k_dflt (refine Call_ ?_))
  k_with "call ref" => (k_here; k_dflt (refine' c_lowest _ _ _ _ _ _ _ _ _ _ _ _ _ _ _ _ _ _ _ _ _ _ _ _ _ _ ?kB ?kF ?kX ?kT ?kK ?kD ?kU ?e0 ?e1 ?e2 ?e3 ?e4 ?_; (case kB => k_asm); (case kF => k_asm); (case kX => k_asm); (case kT => k_asm); (case kK => first | exact rfl | assumption); (case kD => ktr_room); (case kU => ktr_units); (case e0 => k_asm); (case e1 => omega); (case e2 => omega); (case e3 => first | omega | exact pos_of_mul (by with_reducible assumption) (by omega) (by omega) | exact pos_of_abs (by with_reducible assumption) (nez_of_mul (by with_reducible assumption) (by omega) (by omega)) | exact pos_of_abs (by with_reducible assumption) (by omega) | exact pos_of_mul (by with_reducible assumption) (by omega) (pos_of_abs (by with_reducible assumption) (by omega))); (case e4 => omega); intro X9 Y9 D9 t9 u9 h9 tk9 eX9 eY9 F9 N9 l9; (try k_lt l9); (try dsimp only); (try k_fold)))
  k_with "call ref" => (k_here; k_dflt (refine' c_lsign _ _ _ _ _ _ _ _ _ _ _ _ _ _ _ _ _ _ _ _ _ _ _ _ _ _ _ ?kB ?kF ?kX ?kT ?kK ?kD ?kU ?e0 ?e1 ?_; (case kB => k_asm); (case kF => k_asm); (case kX => k_asm); (case kT => k_asm); (case kK => first | exact rfl | assumption); (case kD => ktr_room); (case kU => ktr_units); (case e0 => k_asm); (case e1 => (with_reducible (repeat (first | assumption | exact List.mem_cons_self | refine List.mem_cons_of_mem _ ?_)))); intro g9 t9 h9 tk9 eg9 p9 m9 F9 N9; (try dsimp only); (try k_fold)))
  k_with "call ref" => (k_here; k_dflt (refine' c_lsum _ _ _ _ _ _ _ _ _ _ _ _ _ _ _ _ _ _ _ _ _ _ _ _ _ _ _ _ _ _ _ _ ?kB ?kF ?kX ?kT ?kK ?kD ?kU ?e0 ?e1 ?e2 ?e3 ?e4 ?e5 ?e6 ?_; (case kB => k_asm); (case kF => k_asm); (case kX => k_asm); (case kT => k_asm); (case kK => first | exact rfl | assumption); (case kD => ktr_room); (case kU => ktr_units); (case e0 => k_asm); (case e1 => (with_reducible (repeat (first | assumption | exact List.mem_cons_self | refine List.mem_cons_of_mem _ ?_)))); (case e2 => (with_reducible (repeat (first | assumption | exact List.mem_cons_self | refine List.mem_cons_of_mem _ ?_)))); (case e3 => assumption); (case e4 => first | assumption | exact numF_sub (by assumption)); (case e5 => assumption); (case e6 => first | assumption | exact told_sub (by assumption)); intro r9 X9 Y9 tl9 h9 tk9 eX9 eY9 F9 N9 R9; (try dsimp only); (try k_fold)))
  k_with "call ref" => (k_here; k_dflt (refine' c_lshare _ _ _ _ _ _ _ _ _ _ _ _ _ _ _ _ _ _ _ _ _ _ _ _ _ _ _ _ _ _ _ _ ?kB ?kF ?kX ?kT ?kK ?kD ?kU ?e0 ?e1 ?e2 ?e3 ?e4 ?e5 ?e6 ?_; (case kB => k_asm); (case kF => k_asm); (case kX => k_asm); (case kT => k_asm); (case kK => first | exact rfl | assumption); (case kD => ktr_room); (case kU => ktr_units); (case e0 => k_asm); (case e1 => (with_reducible (repeat (first | assumption | exact List.mem_cons_self | refine List.mem_cons_of_mem _ ?_)))); (case e2 => (with_reducible (repeat (first | assumption | exact List.mem_cons_self | refine List.mem_cons_of_mem _ ?_)))); (case e3 => assumption); (case e4 => first | assumption | exact numF_sub (by assumption)); (case e5 => assumption); (case e6 => first | assumption | exact told_sub (by assumption)); intro r9 X9 Y9 tl9 h9 tk9 eX9 eY9 F9 N9 R9; (try dsimp only); (try k_fold)))
  k_with "call ref" => (k_here; k_dflt (refine' c_lrest _ _ _ _ _ _ _ _ _ _ _ _ _ _ _ _ _ _ _ _ _ _ _ _ _ _ _ _ _ _ _ _ ?kB ?kF ?kX ?kT ?kK ?kD ?kU ?e0 ?e1 ?e2 ?e3 ?e4 ?e5 ?e6 ?_; (case kB => k_asm); (case kF => k_asm); (case kX => k_asm); (case kT => k_asm); (case kK => first | exact rfl | assumption); (case kD => ktr_room); (case kU => ktr_units); (case e0 => k_asm); (case e1 => (with_reducible (repeat (first | assumption | exact List.mem_cons_self | refine List.mem_cons_of_mem _ ?_)))); (case e2 => (with_reducible (repeat (first | assumption | exact List.mem_cons_self | refine List.mem_cons_of_mem _ ?_)))); (case e3 => assumption); (case e4 => first | assumption | exact numF_sub (by assumption)); (case e5 => assumption); (case e6 => first | assumption | exact told_sub (by assumption)); intro r9 X9 Y9 tl9 h9 tk9 eX9 eY9 F9 N9 R9; (try dsimp only); (try k_fold)))
  k_fill
  intro dp un gd cn cs a ccd cl outer A₀ base h₀ L m s Q E news pa pb x y u v tx ty tu tv o to B F X T hk hdp hun N hA hB N1 N2 hret
  have hx1 := N1.1.1
  have hx2 := N1.1.2
  have hy1 := N1.2.1.1
  have hy2 := N1.2.1.2
  have hu1 := N2.1.1
  have hu2 := N2.1.2
  have hv1 := N2.2.1.1
  have hv2 := N2.2.1.2
  cases o
  all_goals (dsimp only [Op.str]; refine wpAny_call ?_; k_dflt cell_enter)
  all_goals k_steps
  all_goals (first
    | exact absurd rfl (by with_reducible assumption)
    | (refine' (fun D X Y t1 t2 q q' h' tk' E F N => hret (.ref D) X Y [(D, { cls := .type "tuple", data := .seq #[.int X t1, .int Y t2] }), q, q'] h' tk' (And.left E) (And.right E) F N (R3.of (List.Mem.head _))) _ _ _ _ _ _ _ _ _ ?e ?eF ?eN; (case eF => k_asm); (case eN => k_asm); (case e => first | exact due_nan _ (by with_reducible assumption) | exact duE (by with_reducible assumption) (by with_reducible assumption) (by with_reducible assumption) (by with_reducible assumption) (by with_reducible assumption) (by with_reducible assumption) (by with_reducible assumption) (by with_reducible assumption) | exact duA (by with_reducible assumption) (by with_reducible assumption) (by omega) (by with_reducible assumption) (by with_reducible assumption) (by with_reducible assumption)))
    | (refine' (fun r X Y tl q q' h' tk' e1 e2 F N R => hret r X Y (tl ++ [q, q']) h' tk' e1 e2 F (news_up2 N) (R3.up2 R)) _ _ _ _ _ _ _ _ ?e1 ?e2 ?eF ?eN ?eR; (case eR => assumption); (case eF => k_asm); (case eN => k_asm); (case e1 => first | (rw [due_add (by assumption) (by assumption)]; assumption) | (rw [due_sub0 (by assumption) (by assumption)]; assumption) | (rw [due_div (by assumption) (by assumption)]; assumption) | (rw [due_mod (by assumption) (by assumption)]; assumption)); (case e2 => first | (rw [due_add (by assumption) (by assumption)]; assumption) | (rw [due_sub0 (by assumption) (by assumption)]; assumption) | (rw [due_div (by assumption) (by assumption)]; assumption) | (rw [due_mod (by assumption) (by assumption)]; assumption)))
    | (refine' (fun r X Y tl q q' q2 h' tk' e1 e2 F N R => hret r X Y (tl ++ [q, q', q2]) h' tk' e1 e2 F (news_up3 N) (R3.up3 R)) _ _ _ _ _ _ _ _ _ ?e1 ?e2 ?eF ?eN ?eR; (case eR => assumption); (case eF => k_asm); (case eN => k_asm); (case e1 => first | (rw [due_add (by assumption) (by assumption)]; assumption) | (rw [due_sub0 (by assumption) (by assumption)]; assumption) | (rw [due_div (by assumption) (by assumption)]; assumption) | (rw [due_mod (by assumption) (by assumption)]; assumption)); (case e2 => first | (rw [due_add (by assumption) (by assumption)]; assumption) | (rw [due_sub0 (by assumption) (by assumption)]; assumption) | (rw [due_div (by assumption) (by assumption)]; assumption) | (rw [due_mod (by assumption) (by assumption)]; assumption))))

set_option maxRecDepth 100000 in
set_option maxHeartbeats 8000000 in
theorem c_one (w : World) (mean : ExcName → Option Value) (mg mb : Str → Option Value) : ∀ (dp un : Nat) (gd : Option (List Code)) (cn : Str) (cs : Scope) (a : Addr) (ccd : Value) (cl : List (Str × Addr)) (outer : List Env) (A₀ : Around) (base h₀ : Heap) (L : Addr) (m : Str → Option Value) (s : Shared) (Q E : Value → Shared → Prop) (rest : List (Addr × Obj)) (src things : Addr) (nn n2 : Nat) (vs : List Value) (h b : Int) (t u : Tok),
    Below A₀ base outer h₀ → Fr h₀ L s.heap m → (hd.heap_39 w.params).In h₀ → Top hd.view_39 (looseW hd.view_39 [Str.ofString "MOST", Str.ofString "number_of"]) mean mg mb h₀ → cs.kind = .function → dp + 12 < recursionLimit → un + 96 < cLine →
    News h₀ L s.heap ((src, { cls := .type "list", data := .seq #[.int h t, .int b u] nn }) :: (things, { cls := .type "list", data := .seq vs.toArray n2 }) :: rest) → (∀ p ∈ rest, p.1 ≠ src) → @Ne Nat things src → 0 ≤ h → 0 ≤ b → b ≤ 2147483648 → 0 < vs.length → vs.length ≤ 100 →
    (∀ (i : Nat) v hh bb t1 t2 h' tk', vs[i]? = some v → 0 ≤ hh → 0 ≤ bb → bb ≤ 2147483648 → Fr h₀ L h' m → News h₀ L h' ((src, { cls := .type "list", data := .seq #[.int hh t1, .int bb t2] nn }) :: (things, { cls := .type "list", data := .seq vs.toArray n2 }) :: rest) → Q v { s with heap := h', toks := tk' }) →
    wpAny (model PySem.Challenge.rw_xm0656_01.row.prog w) (ktrTop dp un gd cn cs L a ccd cl outer) (call (.ref 154) [.ref src, .ref things]) Q E s := by
  k_with_none
  k_with "subscriptTail Name Constant ref int" => (k_here; (with_reducible show wpAny _ _ (subscriptTail _ _ (Value.ref _) (Value.int _ _)) _ _ _); k_dflt (refine tupAt (by k_asm) (by (with_reducible (repeat (first | assumption | exact List.mem_cons_self | refine List.mem_cons_of_mem _ ?_)))) (by decide) (by decide) (by rfl) (by rfl) ?_))
  k_with "subscriptTail Name Constant ref int" => (k_here; (with_reducible show wpAny _ _ (subscriptTail _ _ (Value.ref _) (Value.int _ _)) _ _ _); (with_unfolding_all refine' item_litK ?k1 ?k2 ?k3 ?k4 ?_ ?k6; (case k1 => is_list); (case k2 => decide); (case k3 => decide); (case k4 => rfl); (case k6 => with_unfolding_all rfl); k_whole))
  k_with "binaryOp Mod int int" => (k_here; (with_reducible refine mod_nm ?kb ?_); (case kb => first | omega | exact pos_of_mul (by with_reducible assumption) (by omega) (by omega) | exact pos_of_abs (by with_reducible assumption) (nez_of_mul (by with_reducible assumption) (by omega) (by omega)) | exact pos_of_abs (by with_reducible assumption) (by omega) | exact pos_of_mul (by with_reducible assumption) (by omega) (pos_of_abs (by with_reducible assumption) (by omega))); intro _ _ _ _)
  k_with "binaryOp FloorDiv int int" => (k_here; first
      | ((with_reducible refine div_nn ?kb ?kc ?ka ?_); (case ka => first | omega | exact nonneg_of_mul (by with_reducible assumption) (by omega) (by omega)); (case kb => first | omega | exact pos_of_mul (by with_reducible assumption) (by omega) (by omega) | exact pos_of_abs (by with_reducible assumption) (nez_of_mul (by with_reducible assumption) (by omega) (by omega)) | exact pos_of_abs (by with_reducible assumption) (by omega) | exact pos_of_mul (by with_reducible assumption) (by omega) (pos_of_abs (by with_reducible assumption) (by omega))); (case kc => omega); intro _ _ _ _)
      | ((with_reducible refine div_nm ?kb ?kc ?_); (case kb => first | omega | exact pos_of_mul (by with_reducible assumption) (by omega) (by omega) | exact pos_of_abs (by with_reducible assumption) (nez_of_mul (by with_reducible assumption) (by omega) (by omega)) | exact pos_of_abs (by with_reducible assumption) (by omega) | exact pos_of_mul (by with_reducible assumption) (by omega) (pos_of_abs (by with_reducible assumption) (by omega))); (case kc => omega); intro _ _))
  k_with "binaryOp Mult int int" => (k_here; first
      | ((with_reducible refine mul_nm (X := 1099511627776) (Y := 1099511627776) (Z := 1208925819614629174706176) ?ka ?kA ?kb ?kB (by decide) (by decide) (by decide) ?_); (case ka => omega); (case kA => omega); (case kb => omega); (case kB => omega); intro _ _ _ _)
      | ((with_reducible refine mul_nm (X := 1208925819614629174706176) (Y := 1099511627776) (Z := 1329227995784915872903807060280344576) ?ka ?kA ?kb ?kB (by decide) (by decide) (by decide) ?_); (case ka => omega); (case kA => omega); (case kb => omega); (case kB => omega); intro _ _ _ _)
      | ((with_reducible refine mul_nm (X := 1099511627776) (Y := 1208925819614629174706176) (Z := 1329227995784915872903807060280344576) ?ka ?kA ?kb ?kB (by decide) (by decide) (by decide) ?_); (case ka => omega); (case kA => omega); (case kb => omega); (case kB => omega); intro _ _ _ _)
      | ((with_reducible refine mul_nm (X := 1329227995784915872903807060280344576) (Y := 1099511627776) (Z := 1461501637330902918203684832716283019655932542976) ?ka ?kA ?kb ?kB (by decide) (by decide) (by decide) ?_); (case ka => omega); (case kA => omega); (case kb => omega); (case kB => omega); intro _ _ _ _)
      | ((with_reducible refine mul_lit ?ka ?kb ?kB ?_); (case ka => decide +kernel); (case kb => omega); (case kB => omega); intro _ _))
  k_with "call builtin:abs" => (k_here; first
      | ((with_reducible refine abs_nm (X := 1099511627776) ?ka ?kA ?_); (case ka => omega); (case kA => omega); intro _ _ _ _ _ _)
      | ((with_reducible refine abs_nm (X := 1208925819614629174706176) ?ka ?kA ?_); (case ka => omega); (case kA => omega); intro _ _ _ _ _ _)
      | ((with_reducible refine abs_nm (X := 1329227995784915872903807060280344576) ?ka ?kA ?_); (case ka => omega); (case kA => omega); intro _ _ _ _ _ _))
  k_with "my enter" => (refine' code_def ?k1 ?k2 ?k3 ?k4 ?k5 ?kA ?kF ?kK ?k6 ?k7 ?k8 ?k9 ?kB ?_ ?c2 ?c3 ?c4 ?c5; (case kA => exact rfl); (case kF => exact rfl); (case kK => first | exact rfl | assumption); (case k1 => k_asm); (case k2 => k_asm); (case k3 => k_asm); (case k4 => k_asm); (case k5 => k_asm); (case k6 => k_is); (case k7 => k_is); (case k8 => ktr_room); (case k9 => first | exact binds_K (by k_in) rfl (by k_is) rfl rfl rfl | exact BindsTo.of_eq rfl); (case c5 => decide); (case kB => exact locs rfl); (case c2 => exact rfl); (case c3 => exact rfl); (case c4 => exact rfl); k_whole; intro g' L' h' FG' F' N' B' X' T'; (try dsimp only); (try k_lift B'); (try k_fold))
  k_with "ite" => (k_here; k_openite; first
      | (refine ite_pos (by first | omega | (simp only [decide_eq_true_eq, beq_iff_eq, bne_iff_ne, ne_eq, Bool.not_eq_true', decide_eq_false_iff_not]; omega)) ?_; walk_say "PRUNED mine")
      | (refine ite_neg (by first | omega | (simp only [decide_eq_true_eq, beq_iff_eq, bne_iff_ne, ne_eq, Bool.not_eq_true', decide_eq_false_iff_not]; omega)) ?_; walk_say "PRUNED mine"))
  k_with "call ref" => (k_here; (refine wpAny_call ?_); k_dflt cell_enter)
  k_with "call builtin:len" => (k_here; k_dflt (refine len_led (by k_asm) (by (with_reducible (repeat (first | assumption | exact List.mem_cons_self | refine List.mem_cons_of_mem _ ?_)))) (by omega) ?_); intro _ _ _ _)
  k_with "subscriptTail" => (k_here; (with_reducible show wpAny _ _ (subscriptTail _ _ (Value.ref _) (Value.int _ _)) _ _ _); k_dflt (refine item_led (by k_asm) (by (with_reducible (repeat (first | assumption | exact List.mem_cons_self | refine List.mem_cons_of_mem _ ?_)))) (by omega) (by omega) (by omega) ?_); intro _ _)
  k_with "call ref" => (k_here; k_dflt (refine' c_take _ _ _ _ _ _ _ _ _ _ _ _ _ _ _ _ _ _ _ _ _ _ _ _ _ _ _ _ _ _ ?kB ?kF ?kX ?kT ?kK ?kD ?kU ?e0 ?e1 ?e2 ?e3 ?e4 ?e5 ?e6 ?_; (case kB => k_asm); (case kF => k_asm); (case kX => k_asm); (case kT => k_asm); (case kK => first | exact rfl | assumption); (case kD => ktr_room); (case kU => ktr_units); (case e0 => k_asm); (case e1 => first | assumption | k_all); (case e2 => omega); (case e3 => omega); (case e4 => omega); (case e5 => omega); (case e6 => omega); intro d9 t9 hh9 bb9 u9 v9 h9 tk9 p9 q9 r9 a9 b9 F9 N9; (try dsimp only); (try k_fold)))
  k_fill
  intro dp un gd cn cs a ccd cl outer A₀ base h₀ L m s Q E rest src things nn n2 vs h b t u B F X T hk hdp hun N hrest hne hh hb hb2 hv hv2 hret
  refine wpAny_call ?_
  k_dflt cell_enter
  k_steps
  all_goals (refine' hret _ _ _ _ _ _ _ _ ?e1 ?e2 ?e3 ?e4 ?eF ?eN; (case eF => k_asm); (case eN => k_asm); (case e1 => assumption); (case e2 => omega); (case e3 => omega); (case e4 => omega))

set_option maxRecDepth 100000 in
set_option maxHeartbeats 8000000 in
theorem c_takeU (w : World) (mean : ExcName → Option Value) (mg mb : Str → Option Value) : ∀ (dp un : Nat) (gd : Option (List Code)) (cn : Str) (cs : Scope) (a : Addr) (ccd : Value) (cl : List (Str × Addr)) (outer : List Env) (A₀ : Around) (base h₀ : Heap) (L : Addr) (m : Str → Option Value) (s : Shared) (Q E : Value → Shared → Prop) (news : List (Addr × Obj)) (f : Obj → List (Addr × Obj)) (src : Addr) (nn : Nat) (h b : Int) (t u : Tok) (top : Int) (v : Tok),
    Below A₀ base outer h₀ → Fr h₀ L s.heap m → (hd.heap_39 w.params).In h₀ → Top hd.view_39 (looseW hd.view_39 [Str.ofString "MOST", Str.ofString "number_of"]) mean mg mb h₀ → cs.kind = .function → dp + 6 < recursionLimit → un + 48 < cLine →
    News h₀ L s.heap news → UpdF src ({ cls := .type "list", data := .seq #[.int h t, .int b u] nn } : Obj) news f → 0 ≤ h → 0 ≤ b → b ≤ 2147483648 → 0 < top → top ≤ 1099511627776 →
    (∀ d tt hh bb t1 t2 h' tk', 0 ≤ d → d < top → 0 ≤ hh → 0 ≤ bb → bb ≤ 2147483648 → Fr h₀ L h' m → News h₀ L h' (f ({ cls := .type "list", data := .seq #[.int hh t1, .int bb t2] nn } : Obj)) → Q (.int d tt) { s with heap := h', toks := tk' }) →
    wpAny (model PySem.Challenge.rw_xm0656_01.row.prog w) (ktrTop dp un gd cn cs L a ccd cl outer) (call (.ref 147) [.ref src, .int top v]) Q E s := by
  k_with_none
  intro dp un gd cn cs a ccd cl outer A₀ base h₀ L m s Q E news f src nn h b t u top v B F X T hk hdp hun N U hh hb hb2 htop htop2 hret
  obtain ⟨pre, post, rfl, hf, ha, hb'⟩ := U.split
  refine c_take w mean mg mb _ _ _ _ _ _ _ _ _ _ _ _ _ _ _ _ _  (pre ++ post) src nn h b top t u v B F X T hk hdp hun (news_out N) (off_app ha hb') hh hb hb2 htop htop2 ?_
  intro d tt hh bb t1 t2 h' tk' p1 p2 p3 p4 p5 F' N'
  exact hret d tt hh bb t1 t2 h' tk' p1 p2 p3 p4 p5 F' (by rw [hf]; exact news_in N')

set_option maxRecDepth 100000 in
set_option maxHeartbeats 8000000 in
theorem c_oneU (w : World) (mean : ExcName → Option Value) (mg mb : Str → Option Value) : ∀ (dp un : Nat) (gd : Option (List Code)) (cn : Str) (cs : Scope) (a : Addr) (ccd : Value) (cl : List (Str × Addr)) (outer : List Env) (A₀ : Around) (base h₀ : Heap) (L : Addr) (m : Str → Option Value) (s : Shared) (Q E : Value → Shared → Prop) (news : List (Addr × Obj)) (f : Obj → List (Addr × Obj)) (src : Addr) (nn : Nat) (h b : Int) (t u : Tok) (things : Addr) (n2 : Nat) (vs : List Value),
    Below A₀ base outer h₀ → Fr h₀ L s.heap m → (hd.heap_39 w.params).In h₀ → Top hd.view_39 (looseW hd.view_39 [Str.ofString "MOST", Str.ofString "number_of"]) mean mg mb h₀ → cs.kind = .function → dp + 12 < recursionLimit → un + 96 < cLine →
    News h₀ L s.heap news → UpdF src ({ cls := .type "list", data := .seq #[.int h t, .int b u] nn } : Obj) news f → 0 ≤ h → 0 ≤ b → b ≤ 2147483648 → (things, ({ cls := .type "list", data := .seq vs.toArray n2 } : Obj)) ∈ news → @Ne Nat things src → 0 < vs.length → vs.length ≤ 100 →
    (∀ v hh bb t1 t2 h' tk', v ∈ vs → 0 ≤ hh → 0 ≤ bb → bb ≤ 2147483648 → Fr h₀ L h' m → News h₀ L h' (f ({ cls := .type "list", data := .seq #[.int hh t1, .int bb t2] nn } : Obj)) → Q v { s with heap := h', toks := tk' }) →
    wpAny (model PySem.Challenge.rw_xm0656_01.row.prog w) (ktrTop dp un gd cn cs L a ccd cl outer) (call (.ref 154) [.ref src, .ref things]) Q E s := by
  k_with_none
  intro dp un gd cn cs a ccd cl outer A₀ base h₀ L m s Q E news f src nn h b t u things n2 vs B F X T hk hdp hun N U hh hb hb2 hm hne hv hv2 hret
  obtain ⟨pre, post, rfl, hf, ha, hb'⟩ := U.split
  refine c_one w mean mg mb _ _ _ _ _ _ _ _ _ _ _ _ _ _ _ _ _  (pre ++ post) src things nn n2 vs h b t u B F X T hk hdp hun (news_out2 N hm) (off_app ha hb') hne hh hb hb2 hv hv2 ?_
  intro i v hh bb t1 t2 h' tk' e p3 p4 p5 F' N'
  exact hret v hh bb t1 t2 h' tk' (mem_of_at e) p3 p4 p5 F' (by rw [hf]; exact news_in2 N')

set_option maxRecDepth 100000 in
set_option maxHeartbeats 8000000 in
theorem c_one2 (w : World) (mean : ExcName → Option Value) (mg mb : Str → Option Value) : ∀ (dp un : Nat) (gd : Option (List Code)) (cn : Str) (cs : Scope) (a : Addr) (ccd : Value) (cl : List (Str × Addr)) (outer : List Env) (A₀ : Around) (base h₀ : Heap) (L : Addr) (m : Str → Option Value) (s : Shared) (Q E : Value → Shared → Prop) (news : List (Addr × Obj)) (f : Obj → List (Addr × Obj)) (src : Addr) (nn : Nat) (h b : Int) (t u : Tok) (things : Addr) (n2 : Nat) (x y : Int) (tx ty : Tok),
    Below A₀ base outer h₀ → Fr h₀ L s.heap m → (hd.heap_39 w.params).In h₀ → Top hd.view_39 (looseW hd.view_39 [Str.ofString "MOST", Str.ofString "number_of"]) mean mg mb h₀ → cs.kind = .function → dp + 12 < recursionLimit → un + 96 < cLine →
    News h₀ L s.heap news → UpdF src ({ cls := .type "list", data := .seq #[.int h t, .int b u] nn } : Obj) news f → 0 ≤ h → 0 ≤ b → b ≤ 2147483648 → (things, ({ cls := .type "list", data := .seq #[.int x tx, .int y ty] n2 } : Obj)) ∈ news → @Ne Nat things src → -549755813888 ≤ x → x ≤ 549755813888 → -549755813888 ≤ y → y ≤ 549755813888 →
    (∀ z tz hh bb t1 t2 h' tk', -549755813888 ≤ z → z ≤ 549755813888 → 0 ≤ hh → 0 ≤ bb → bb ≤ 2147483648 → Fr h₀ L h' m → News h₀ L h' (f ({ cls := .type "list", data := .seq #[.int hh t1, .int bb t2] nn } : Obj)) → Q (.int z tz) { s with heap := h', toks := tk' }) →
    wpAny (model PySem.Challenge.rw_xm0656_01.row.prog w) (ktrTop dp un gd cn cs L a ccd cl outer) (call (.ref 154) [.ref src, .ref things]) Q E s := by
  k_with_none
  intro dp un gd cn cs a ccd cl outer A₀ base h₀ L m s Q E news f src nn h b t u things n2 x y tx ty B F X T hk hdp hun N U hh hb hb2 hm hne hx hx' hy hy' hret
  refine c_oneU w mean mg mb _ _ _ _ _ _ _ _ _ _ _ _ _ _ _ _ _  news f src nn h b t u things n2 [.int x tx, .int y ty] B F X T hk hdp hun N U hh hb hb2 hm hne (by simp only [List.length_cons, List.length_nil]; omega) (by simp only [List.length_cons, List.length_nil]; omega) ?_
  intro v hh bb t1 t2 h' tk' e p3 p4 p5 F' N'
  simp only [List.mem_cons, List.not_mem_nil, or_false] at e
  rcases e with rfl | rfl
  · exact hret x tx hh bb t1 t2 h' tk' hx hx' p3 p4 p5 F' N'
  · exact hret y ty hh bb t1 t2 h' tk' hy hy' p3 p4 p5 F' N'

set_option maxRecDepth 100000 in
set_option maxHeartbeats 8000000 in
theorem c_one3 (w : World) (mean : ExcName → Option Value) (mg mb : Str → Option Value) : ∀ (dp un : Nat) (gd : Option (List Code)) (cn : Str) (cs : Scope) (a : Addr) (ccd : Value) (cl : List (Str × Addr)) (outer : List Env) (A₀ : Around) (base h₀ : Heap) (L : Addr) (m : Str → Option Value) (s : Shared) (Q E : Value → Shared → Prop) (news : List (Addr × Obj)) (f : Obj → List (Addr × Obj)) (src : Addr) (nn : Nat) (h b : Int) (t u : Tok) (things : Addr) (n2 : Nat) (x y z : Int) (tx ty tz : Tok),
    Below A₀ base outer h₀ → Fr h₀ L s.heap m → (hd.heap_39 w.params).In h₀ → Top hd.view_39 (looseW hd.view_39 [Str.ofString "MOST", Str.ofString "number_of"]) mean mg mb h₀ → cs.kind = .function → dp + 12 < recursionLimit → un + 96 < cLine →
    News h₀ L s.heap news → UpdF src ({ cls := .type "list", data := .seq #[.int h t, .int b u] nn } : Obj) news f → 0 ≤ h → 0 ≤ b → b ≤ 2147483648 → (things, ({ cls := .type "list", data := .seq #[.int x tx, .int y ty, .int z tz] n2 } : Obj)) ∈ news → @Ne Nat things src → 0 ≤ x → x ≤ 1073741824 → 0 ≤ y → y ≤ 1073741824 → 0 ≤ z → z ≤ 1073741824 →
    (∀ k tk hh bb t1 t2 h' tk', 0 ≤ k → k ≤ 1073741824 → 0 ≤ hh → 0 ≤ bb → bb ≤ 2147483648 → Fr h₀ L h' m → News h₀ L h' (f ({ cls := .type "list", data := .seq #[.int hh t1, .int bb t2] nn } : Obj)) → Q (.int k tk) { s with heap := h', toks := tk' }) →
    wpAny (model PySem.Challenge.rw_xm0656_01.row.prog w) (ktrTop dp un gd cn cs L a ccd cl outer) (call (.ref 154) [.ref src, .ref things]) Q E s := by
  k_with_none
  intro dp un gd cn cs a ccd cl outer A₀ base h₀ L m s Q E news f src nn h b t u things n2 x y z tx ty tz B F X T hk hdp hun N U hh hb hb2 hm hne hx hx' hy hy' hz hz' hret
  refine c_oneU w mean mg mb _ _ _ _ _ _ _ _ _ _ _ _ _ _ _ _ _  news f src nn h b t u things n2 [.int x tx, .int y ty, .int z tz] B F X T hk hdp hun N U hh hb hb2 hm hne (by simp only [List.length_cons, List.length_nil]; omega) (by simp only [List.length_cons, List.length_nil]; omega) ?_
  intro v hh bb t1 t2 h' tk' e p3 p4 p5 F' N'
  simp only [List.mem_cons, List.not_mem_nil, or_false] at e
  rcases e with rfl | rfl | rfl
  · exact hret x tx hh bb t1 t2 h' tk' hx hx' p3 p4 p5 F' N'
  · exact hret y ty hh bb t1 t2 h' tk' hy hy' p3 p4 p5 F' N'
  · exact hret z tz hh bb t1 t2 h' tk' hz hz' p3 p4 p5 F' N'

set_option maxRecDepth 100000 in
set_option maxHeartbeats 8000000 in
theorem c_one5 (w : World) (mean : ExcName → Option Value) (mg mb : Str → Option Value) : ∀ (dp un : Nat) (gd : Option (List Code)) (cn : Str) (cs : Scope) (a : Addr) (ccd : Value) (cl : List (Str × Addr)) (outer : List Env) (A₀ : Around) (base h₀ : Heap) (L : Addr) (m : Str → Option Value) (s : Shared) (Q E : Value → Shared → Prop) (news : List (Addr × Obj)) (f : Obj → List (Addr × Obj)) (src : Addr) (nn : Nat) (h b : Int) (t u : Tok) (things : Addr) (n2 : Nat) (t0 t1' t2' t3 t4 : Tok),
    Below A₀ base outer h₀ → Fr h₀ L s.heap m → (hd.heap_39 w.params).In h₀ → Top hd.view_39 (looseW hd.view_39 [Str.ofString "MOST", Str.ofString "number_of"]) mean mg mb h₀ → cs.kind = .function → dp + 12 < recursionLimit → un + 96 < cLine →
    News h₀ L s.heap news → UpdF src ({ cls := .type "list", data := .seq #[.int h t, .int b u] nn } : Obj) news f → 0 ≤ h → 0 ≤ b → b ≤ 2147483648 → (things, ({ cls := .type "list", data := .seq #[.str (Op.str .add) t0, .str (Op.str .sub) t1', .str (Op.str .mul) t2', .str (Op.str .div) t3, .str (Op.str .mod) t4] n2 } : Obj)) ∈ news → @Ne Nat things src →
    (∀ (o : Op) tz hh bb t1 t2 h' tk', 0 ≤ hh → 0 ≤ bb → bb ≤ 2147483648 → Fr h₀ L h' m → News h₀ L h' (f ({ cls := .type "list", data := .seq #[.int hh t1, .int bb t2] nn } : Obj)) → Q (.str (Op.str o) tz) { s with heap := h', toks := tk' }) →
    wpAny (model PySem.Challenge.rw_xm0656_01.row.prog w) (ktrTop dp un gd cn cs L a ccd cl outer) (call (.ref 154) [.ref src, .ref things]) Q E s := by
  k_with_none
  intro dp un gd cn cs a ccd cl outer A₀ base h₀ L m s Q E news f src nn h b t u things n2 t0 t1' t2' t3 t4 B F X T hk hdp hun N U hh hb hb2 hm hne  hret
  refine c_oneU w mean mg mb _ _ _ _ _ _ _ _ _ _ _ _ _ _ _ _ _  news f src nn h b t u things n2 [.str (Op.str .add) t0, .str (Op.str .sub) t1', .str (Op.str .mul) t2', .str (Op.str .div) t3, .str (Op.str .mod) t4] B F X T hk hdp hun N U hh hb hb2 hm hne (by simp only [List.length_cons, List.length_nil]; omega) (by simp only [List.length_cons, List.length_nil]; omega) ?_
  intro v hh bb t1 t2 h' tk' e p3 p4 p5 F' N'
  simp only [List.mem_cons, List.not_mem_nil, or_false] at e
  rcases e with rfl | rfl | rfl | rfl | rfl
  · exact hret .add t0 hh bb t1 t2 h' tk' p3 p4 p5 F' N'
  · exact hret .sub t1' hh bb t1 t2 h' tk' p3 p4 p5 F' N'
  · exact hret .mul t2' hh bb t1 t2 h' tk' p3 p4 p5 F' N'
  · exact hret .div t3 hh bb t1 t2 h' tk' p3 p4 p5 F' N'
  · exact hret .mod t4 hh bb t1 t2 h' tk' p3 p4 p5 F' N'

set_option maxRecDepth 100000 in
set_option maxHeartbeats 8000000 in
theorem c_number (w : World) (mean : ExcName → Option Value) (mg mb : Str → Option Value) : ∀ (dp un : Nat) (gd : Option (List Code)) (cn : Str) (cs : Scope) (a : Addr) (ccd : Value) (cl : List (Str × Addr)) (outer : List Env) (A₀ : Around) (base h₀ : Heap) (L : Addr) (m : Str → Option Value) (s : Shared) (Q E : Value → Shared → Prop) (rest : List (Addr × Obj)) (src : Addr) (nn : Nat) (h b : Int) (t u : Tok),
    Below A₀ base outer h₀ → Fr h₀ L s.heap m → (hd.heap_39 w.params).In h₀ → Top hd.view_39 (looseW hd.view_39 [Str.ofString "MOST", Str.ofString "number_of"]) mean mg mb h₀ → cs.kind = .function → dp + 30 < recursionLimit → un + 240 < cLine →
    News h₀ L s.heap ((src, { cls := .type "list", data := .seq #[.int h t, .int b u] nn }) :: rest) → (∀ p ∈ rest, p.1 ≠ src) → 0 ≤ h → 0 ≤ b → b ≤ 2147483648 →
    (∀ D X Y tX tY hh bb t1 t2 h' tk', NumF X Y → 0 ≤ hh → 0 ≤ bb → bb ≤ 2147483648 → Fr h₀ L h' m → News h₀ L h' ((D, { cls := .type "tuple", data := .seq #[.int X tX, .int Y tY] }) :: (src, { cls := .type "list", data := .seq #[.int hh t1, .int bb t2] nn }) :: rest) → (∀ p ∈ (src, { cls := .type "list", data := .seq #[.int hh t1, .int bb t2] nn }) :: rest, p.1 < D) → Q (.ref D) { s with heap := h', toks := tk' }) →
    wpAny (model PySem.Challenge.rw_xm0656_01.row.prog w) (ktrTop dp un gd cn cs L a ccd cl outer) (call (.ref 168) [.ref src]) Q E s := by
  k_with_none
  k_with "subscriptTail Name Constant ref int" => (k_here; (with_reducible show wpAny _ _ (subscriptTail _ _ (Value.ref _) (Value.int _ _)) _ _ _); k_dflt (refine tupAt (by k_asm) (by (with_reducible (repeat (first | assumption | exact List.mem_cons_self | refine List.mem_cons_of_mem _ ?_)))) (by decide) (by decide) (by rfl) (by rfl) ?_))
  k_with "subscriptTail Name Constant ref int" => (k_here; (with_reducible show wpAny _ _ (subscriptTail _ _ (Value.ref _) (Value.int _ _)) _ _ _); (with_unfolding_all refine' item_litK ?k1 ?k2 ?k3 ?k4 ?_ ?k6; (case k1 => is_list); (case k2 => decide); (case k3 => decide); (case k4 => rfl); (case k6 => with_unfolding_all rfl); k_whole))
  k_with "binaryOp Mod int int" => (k_here; (with_reducible refine mod_nm ?kb ?_); (case kb => first | omega | exact pos_of_mul (by with_reducible assumption) (by omega) (by omega) | exact pos_of_abs (by with_reducible assumption) (nez_of_mul (by with_reducible assumption) (by omega) (by omega)) | exact pos_of_abs (by with_reducible assumption) (by omega) | exact pos_of_mul (by with_reducible assumption) (by omega) (pos_of_abs (by with_reducible assumption) (by omega))); intro _ _ _ _)
  k_with "binaryOp FloorDiv int int" => (k_here; first
      | ((with_reducible refine div_nn ?kb ?kc ?ka ?_); (case ka => first | omega | exact nonneg_of_mul (by with_reducible assumption) (by omega) (by omega)); (case kb => first | omega | exact pos_of_mul (by with_reducible assumption) (by omega) (by omega) | exact pos_of_abs (by with_reducible assumption) (nez_of_mul (by with_reducible assumption) (by omega) (by omega)) | exact pos_of_abs (by with_reducible assumption) (by omega) | exact pos_of_mul (by with_reducible assumption) (by omega) (pos_of_abs (by with_reducible assumption) (by omega))); (case kc => omega); intro _ _ _ _)
      | ((with_reducible refine div_nm ?kb ?kc ?_); (case kb => first | omega | exact pos_of_mul (by with_reducible assumption) (by omega) (by omega) | exact pos_of_abs (by with_reducible assumption) (nez_of_mul (by with_reducible assumption) (by omega) (by omega)) | exact pos_of_abs (by with_reducible assumption) (by omega) | exact pos_of_mul (by with_reducible assumption) (by omega) (pos_of_abs (by with_reducible assumption) (by omega))); (case kc => omega); intro _ _))
  k_with "binaryOp Mult int int" => (k_here; first
      | ((with_reducible refine mul_nm (X := 1099511627776) (Y := 1099511627776) (Z := 1208925819614629174706176) ?ka ?kA ?kb ?kB (by decide) (by decide) (by decide) ?_); (case ka => omega); (case kA => omega); (case kb => omega); (case kB => omega); intro _ _ _ _)
      | ((with_reducible refine mul_nm (X := 1208925819614629174706176) (Y := 1099511627776) (Z := 1329227995784915872903807060280344576) ?ka ?kA ?kb ?kB (by decide) (by decide) (by decide) ?_); (case ka => omega); (case kA => omega); (case kb => omega); (case kB => omega); intro _ _ _ _)
      | ((with_reducible refine mul_nm (X := 1099511627776) (Y := 1208925819614629174706176) (Z := 1329227995784915872903807060280344576) ?ka ?kA ?kb ?kB (by decide) (by decide) (by decide) ?_); (case ka => omega); (case kA => omega); (case kb => omega); (case kB => omega); intro _ _ _ _)
      | ((with_reducible refine mul_nm (X := 1329227995784915872903807060280344576) (Y := 1099511627776) (Z := 1461501637330902918203684832716283019655932542976) ?ka ?kA ?kb ?kB (by decide) (by decide) (by decide) ?_); (case ka => omega); (case kA => omega); (case kb => omega); (case kB => omega); intro _ _ _ _)
      | ((with_reducible refine mul_lit ?ka ?kb ?kB ?_); (case ka => decide +kernel); (case kb => omega); (case kB => omega); intro _ _))
  k_with "call builtin:abs" => (k_here; first
      | ((with_reducible refine abs_nm (X := 1099511627776) ?ka ?kA ?_); (case ka => omega); (case kA => omega); intro _ _ _ _ _ _)
      | ((with_reducible refine abs_nm (X := 1208925819614629174706176) ?ka ?kA ?_); (case ka => omega); (case kA => omega); intro _ _ _ _ _ _)
      | ((with_reducible refine abs_nm (X := 1329227995784915872903807060280344576) ?ka ?kA ?_); (case ka => omega); (case kA => omega); intro _ _ _ _ _ _))
  k_with "my enter" => (refine' code_def ?k1 ?k2 ?k3 ?k4 ?k5 ?kA ?kF ?kK ?k6 ?k7 ?k8 ?k9 ?kB ?_ ?c2 ?c3 ?c4 ?c5; (case kA => exact rfl); (case kF => exact rfl); (case kK => first | exact rfl | assumption); (case k1 => k_asm); (case k2 => k_asm); (case k3 => k_asm); (case k4 => k_asm); (case k5 => k_asm); (case k6 => k_is); (case k7 => k_is); (case k8 => ktr_room); (case k9 => first | exact binds_K (by k_in) rfl (by k_is) rfl rfl rfl | exact BindsTo.of_eq rfl); (case c5 => decide); (case kB => exact locs rfl); (case c2 => exact rfl); (case c3 => exact rfl); (case c4 => exact rfl); k_whole; intro g' L' h' FG' F' N' B' X' T'; (try dsimp only); (try k_lift B'); (try k_fold))
  k_with "ite" => (k_here; k_openite; first
      | (refine ite_pos (by first | omega | (simp only [decide_eq_true_eq, beq_iff_eq, bne_iff_ne, ne_eq, Bool.not_eq_true', decide_eq_false_iff_not]; omega)) ?_; walk_say "PRUNED mine")
      | (refine ite_neg (by first | omega | (simp only [decide_eq_true_eq, beq_iff_eq, bne_iff_ne, ne_eq, Bool.not_eq_true', decide_eq_false_iff_not]; omega)) ?_; walk_say "PRUNED mine"))
  k_with "call ref" => (k_here; (refine wpAny_call ?_); k_dflt cell_enter)
  k_with "subscriptTail" => (k_here; (with_reducible show wpAny _ _ (subscriptTail _ _ (Value.ref _) (Value.int _ _)) _ _ _); k_dflt (refine pick3 (by k_asm) (by (with_reducible (repeat (first | assumption | exact List.mem_cons_self | refine List.mem_cons_of_mem _ ?_)))) (by omega) (by omega) ?_ ?_ ?_ <;> intro _))
  k_with "binaryOp Pow int int" => (k_here; (with_reducible refine pow_lit (c := 1099511627776) ?ka ?kb ?kc ?kd ?_); (case ka => decide); (case kb => decide); (case kc => decide); (case kd => decide +kernel))
  k_with "binaryOp Pow int int" => (k_here; (with_reducible refine pow_lit (c := 549755813888) ?ka ?kb ?kc ?kd ?_); (case ka => decide); (case kb => decide); (case kc => decide); (case kd => decide +kernel))
  k_with "binaryOp Pow int int" => (k_here; (with_reducible refine pow_lit (c := 1073741824) ?ka ?kb ?kc ?kd ?_); (case ka => decide); (case kb => decide); (case kc => decide); (case kd => decide +kernel))
  k_with "binaryOp Pow int int" => (k_here; (with_reducible refine pow_lit (c := 1000000000000000000) ?ka ?kb ?kc ?kd ?_); (case ka => decide); (case kb => decide); (case kc => decide); (case kd => decide +kernel))
  k_with "call ref" => (k_here; k_dflt (refine' c_lowest _ _ _ _ _ _ _ _ _ _ _ _ _ _ _ _ _ _ _ _ _ _ _ _ _ _ ?kB ?kF ?kX ?kT ?kK ?kD ?kU ?e0 ?e1 ?e2 ?e3 ?e4 ?_; (case kB => k_asm); (case kF => k_asm); (case kX => k_asm); (case kT => k_asm); (case kK => first | exact rfl | assumption); (case kD => ktr_room); (case kU => ktr_units); (case e0 => k_asm); (case e1 => omega); (case e2 => omega); (case e3 => first | omega | exact pos_of_mul (by with_reducible assumption) (by omega) (by omega) | exact pos_of_abs (by with_reducible assumption) (nez_of_mul (by with_reducible assumption) (by omega) (by omega)) | exact pos_of_abs (by with_reducible assumption) (by omega) | exact pos_of_mul (by with_reducible assumption) (by omega) (pos_of_abs (by with_reducible assumption) (by omega))); (case e4 => omega); intro X9 Y9 D9 t9 u9 h9 tk9 eX9 eY9 F9 N9 l9; (try k_lt l9); (try dsimp only); (try k_fold)))
  k_with "call ref" => (k_here; k_dflt (refine' c_takeU _ _ _ _ _ _ _ _ _ _ _ _ _ _ _ _ _ _ _ _ _ _ _ _ _ _ _ _ _ _ _ ?kB ?kF ?kX ?kT ?kK ?kD ?kU ?e0 ?e1 ?e2 ?e3 ?e4 ?e5 ?e6 ?_; (case kB => k_asm); (case kF => k_asm); (case kX => k_asm); (case kT => k_asm); (case kK => first | exact rfl | assumption); (case kD => ktr_room); (case kU => ktr_units); (case e0 => k_asm); (case e1 => first | assumption | k_updF); (case e2 => omega); (case e3 => omega); (case e4 => omega); (case e5 => omega); (case e6 => omega); intro d9 t9 hh9 bb9 u9 v9 h9 tk9 p9 q9 r9 a9 b9 F9 N9; (try dsimp only); (try k_fold)))
  k_with "call ref" => (k_here; k_dflt (refine' c_one2 _ _ _ _ _ _ _ _ _ _ _ _ _ _ _ _ _ _ _ _ _ _ _ _ _ _ _ _ _ _ _ _ _ _ _ ?kB ?kF ?kX ?kT ?kK ?kD ?kU ?e0 ?e1 ?e2 ?e3 ?e4 ?e5 ?e6 ?e7 ?e8 ?e9 ?e10 ?_; (case kB => k_asm); (case kF => k_asm); (case kX => k_asm); (case kT => k_asm); (case kK => first | exact rfl | assumption); (case kD => ktr_room); (case kU => ktr_units); (case e0 => k_asm); (case e1 => first | assumption | k_updF); (case e2 => omega); (case e3 => omega); (case e4 => omega); (case e5 => (with_reducible (repeat (first | assumption | exact List.mem_cons_self | refine List.mem_cons_of_mem _ ?_)))); (case e6 => k_ne); (case e7 => omega); (case e8 => omega); (case e9 => omega); (case e10 => omega); intro z9 t9 hh9 bb9 u9 v9 h9 tk9 p9 q9 r9 a9 b9 F9 N9; (try dsimp only); (try k_fold)))
  k_with "call ref" => (k_here; k_dflt (refine' c_one3 _ _ _ _ _ _ _ _ _ _ _ _ _ _ _ _ _ _ _ _ _ _ _ _ _ _ _ _ _ _ _ _ _ _ _ _ _ ?kB ?kF ?kX ?kT ?kK ?kD ?kU ?e0 ?e1 ?e2 ?e3 ?e4 ?e5 ?e6 ?e7 ?e8 ?e9 ?e10 ?e11 ?e12 ?_; (case kB => k_asm); (case kF => k_asm); (case kX => k_asm); (case kT => k_asm); (case kK => first | exact rfl | assumption); (case kD => ktr_room); (case kU => ktr_units); (case e0 => k_asm); (case e1 => first | assumption | k_updF); (case e2 => omega); (case e3 => omega); (case e4 => omega); (case e5 => (with_reducible (repeat (first | assumption | exact List.mem_cons_self | refine List.mem_cons_of_mem _ ?_)))); (case e6 => k_ne); (case e7 => omega); (case e8 => omega); (case e9 => omega); (case e10 => omega); (case e11 => omega); (case e12 => omega); intro z9 t9 hh9 bb9 u9 v9 h9 tk9 p9 q9 r9 a9 b9 F9 N9; (try dsimp only); (try k_fold)))
  k_fill
  intro dp un gd cn cs a ccd cl outer A₀ base h₀ L m s Q E rest src nn h b t u B F X T hk hdp hun N hrest hh hb hb2 hret
  refine wpAny_call ?_
  k_dflt cell_enter
  k_steps
  all_goals (first
    | (refine' (fun D X Y tX tY hh bb t1 t2 h' tk'  nf e1 e2 e3 F (N : News h₀ L h' (((D, { cls := .type "tuple", data := .seq #[.int X tX, .int Y tY] }) : Addr × Obj) :: (src, { cls := .type "list", data := .seq #[.int hh t1, .int bb t2] nn }) :: rest)) lt => hret D X Y tX tY hh bb t1 t2 h' tk' nf e1 e2 e3 F N lt) _ _ _ _ _ _ _ _ _ _ _ ?e0 ?e1 ?e2 ?e3 ?eF ?eN ?eL; (case eF => k_asm); (case eN => k_asm); (case e0 => first | exact numF_00 | exact numF_10 | exact numF_m0 | exact numF_01 | exact numF_low (by with_reducible assumption) (by with_reducible assumption) (by omega) (by omega) (by omega) (by omega)); (case e1 => omega); (case e2 => omega); (case e3 => omega); (case eL => exact ktn_ltOf (by first | assumption | exact (And.right (by assumption)) | exact (And.right (And.right (by assumption))) | exact (And.right (And.right (And.right (by assumption)))))))
    | (refine' (fun D X Y tX tY hh bb t1 t2 h' tk' q0 q1 nf e1 e2 e3 F (N : News h₀ L h' (((D, { cls := .type "tuple", data := .seq #[.int X tX, .int Y tY] }) : Addr × Obj) :: q0 :: q1 :: (src, { cls := .type "list", data := .seq #[.int hh t1, .int bb t2] nn }) :: rest)) lt => hret D X Y tX tY hh bb t1 t2 h' tk' nf e1 e2 e3 F (pk2 N) lt) _ _ _ _ _ _ _ _ _ _ _ _ _ ?e0 ?e1 ?e2 ?e3 ?eF ?eN ?eL; (case eF => k_asm); (case eN => k_asm); (case e0 => first | exact numF_00 | exact numF_10 | exact numF_m0 | exact numF_01 | exact numF_low (by with_reducible assumption) (by with_reducible assumption) (by omega) (by omega) (by omega) (by omega)); (case e1 => omega); (case e2 => omega); (case e3 => omega); (case eL => exact ktn_ltOf (by first | assumption | exact (And.right (by assumption)) | exact (And.right (And.right (by assumption))) | exact (And.right (And.right (And.right (by assumption)))))))
    | (refine' (fun D X Y tX tY hh bb t1 t2 h' tk' q0 q1 q2 nf e1 e2 e3 F (N : News h₀ L h' (q0 :: ((D, { cls := .type "tuple", data := .seq #[.int X tX, .int Y tY] }) : Addr × Obj) :: q1 :: q2 :: (src, { cls := .type "list", data := .seq #[.int hh t1, .int bb t2] nn }) :: rest)) lt => hret D X Y tX tY hh bb t1 t2 h' tk' nf e1 e2 e3 F (pk31 N) lt) _ _ _ _ _ _ _ _ _ _ _ _ _ _ ?e0 ?e1 ?e2 ?e3 ?eF ?eN ?eL; (case eF => k_asm); (case eN => k_asm); (case e0 => first | exact numF_00 | exact numF_10 | exact numF_m0 | exact numF_01 | exact numF_low (by with_reducible assumption) (by with_reducible assumption) (by omega) (by omega) (by omega) (by omega)); (case e1 => omega); (case e2 => omega); (case e3 => omega); (case eL => exact ktn_ltOf (by first | assumption | exact (And.right (by assumption)) | exact (And.right (And.right (by assumption))) | exact (And.right (And.right (And.right (by assumption)))))))
    | (refine' (fun D X Y tX tY hh bb t1 t2 h' tk' q0 q1 q2 nf e1 e2 e3 F (N : News h₀ L h' (q0 :: q1 :: ((D, { cls := .type "tuple", data := .seq #[.int X tX, .int Y tY] }) : Addr × Obj) :: q2 :: (src, { cls := .type "list", data := .seq #[.int hh t1, .int bb t2] nn }) :: rest)) lt => hret D X Y tX tY hh bb t1 t2 h' tk' nf e1 e2 e3 F (pk32 N) lt) _ _ _ _ _ _ _ _ _ _ _ _ _ _ ?e0 ?e1 ?e2 ?e3 ?eF ?eN ?eL; (case eF => k_asm); (case eN => k_asm); (case e0 => first | exact numF_00 | exact numF_10 | exact numF_m0 | exact numF_01 | exact numF_low (by with_reducible assumption) (by with_reducible assumption) (by omega) (by omega) (by omega) (by omega)); (case e1 => omega); (case e2 => omega); (case e3 => omega); (case eL => exact ktn_ltOf (by first | assumption | exact (And.right (by assumption)) | exact (And.right (And.right (by assumption))) | exact (And.right (And.right (And.right (by assumption)))))))
    | (refine' (fun D X Y tX tY hh bb t1 t2 h' tk' q0 q1 q2 nf e1 e2 e3 F (N : News h₀ L h' (q0 :: q1 :: q2 :: ((D, { cls := .type "tuple", data := .seq #[.int X tX, .int Y tY] }) : Addr × Obj) :: (src, { cls := .type "list", data := .seq #[.int hh t1, .int bb t2] nn }) :: rest)) lt => hret D X Y tX tY hh bb t1 t2 h' tk' nf e1 e2 e3 F (pk33 N) lt) _ _ _ _ _ _ _ _ _ _ _ _ _ _ ?e0 ?e1 ?e2 ?e3 ?eF ?eN ?eL; (case eF => k_asm); (case eN => k_asm); (case e0 => first | exact numF_00 | exact numF_10 | exact numF_m0 | exact numF_01 | exact numF_low (by with_reducible assumption) (by with_reducible assumption) (by omega) (by omega) (by omega) (by omega)); (case e1 => omega); (case e2 => omega); (case e3 => omega); (case eL => exact ktn_ltOf (by first | assumption | exact (And.right (by assumption)) | exact (And.right (And.right (by assumption))) | exact (And.right (And.right (And.right (by assumption))))))))

set_option maxRecDepth 100000 in
set_option maxHeartbeats 8000000 in
theorem c_pool (w : World) (mean : ExcName → Option Value) (mg mb : Str → Option Value) : ∀ (dp un : Nat) (gd : Option (List Code)) (cn : Str) (cs : Scope) (a : Addr) (ccd : Value) (cl : List (Str × Addr)) (outer : List Env) (A₀ : Around) (base h₀ : Heap) (L : Addr) (m : Str → Option Value) (s : Shared) (Q E : Value → Shared → Prop) (news : List (Addr × Obj)) (sc : Addr) (vs : List Value) (ns : List Int) (t : Tok),
    Below A₀ base outer h₀ → Fr h₀ L s.heap m → (hd.heap_39 w.params).In h₀ → Top hd.view_39 (looseW hd.view_39 [Str.ofString "MOST", Str.ofString "number_of"]) mean mg mb h₀ → cs.kind = .function → dp + 12 < recursionLimit → un + 96 < cLine →
    News h₀ L s.heap news → base.IsList sc vs.toArray → IntsAre vs ns → ns.length < 2 ^ 62 →
    (∀ l h b t1 t2 nn h' tk', 0 ≤ h → 0 ≤ b → b ≤ 2147483648 → Fr h₀ L h' m → News h₀ L h' ((l, { cls := .type "list", data := .seq #[.int h t1, .int b t2] nn }) :: news) → (∀ p ∈ news, p.1 < l) → Q (.ref l) { s with heap := h', toks := tk' }) →
    wpAny (model PySem.Challenge.rw_xm0656_01.row.prog w) (ktrTop dp un gd cn cs L a ccd cl outer) (call (.ref 140) [.ref sc, .int 0 t]) Q E s := by
  k_with_none
  k_with "subscriptTail Name Constant ref int" => (k_here; (with_reducible show wpAny _ _ (subscriptTail _ _ (Value.ref _) (Value.int _ _)) _ _ _); k_dflt (refine tupAt (by k_asm) (by (with_reducible (repeat (first | assumption | exact List.mem_cons_self | refine List.mem_cons_of_mem _ ?_)))) (by decide) (by decide) (by rfl) (by rfl) ?_))
  k_with "subscriptTail Name Constant ref int" => (k_here; (with_reducible show wpAny _ _ (subscriptTail _ _ (Value.ref _) (Value.int _ _)) _ _ _); (with_unfolding_all refine' item_litK ?k1 ?k2 ?k3 ?k4 ?_ ?k6; (case k1 => is_list); (case k2 => decide); (case k3 => decide); (case k4 => rfl); (case k6 => with_unfolding_all rfl); k_whole))
  k_with "binaryOp Mod int int" => (k_here; (with_reducible refine mod_nm ?kb ?_); (case kb => first | omega | exact pos_of_mul (by with_reducible assumption) (by omega) (by omega) | exact pos_of_abs (by with_reducible assumption) (nez_of_mul (by with_reducible assumption) (by omega) (by omega)) | exact pos_of_abs (by with_reducible assumption) (by omega) | exact pos_of_mul (by with_reducible assumption) (by omega) (pos_of_abs (by with_reducible assumption) (by omega))); intro _ _ _ _)
  k_with "binaryOp FloorDiv int int" => (k_here; first
      | ((with_reducible refine div_nn ?kb ?kc ?ka ?_); (case ka => first | omega | exact nonneg_of_mul (by with_reducible assumption) (by omega) (by omega)); (case kb => first | omega | exact pos_of_mul (by with_reducible assumption) (by omega) (by omega) | exact pos_of_abs (by with_reducible assumption) (nez_of_mul (by with_reducible assumption) (by omega) (by omega)) | exact pos_of_abs (by with_reducible assumption) (by omega) | exact pos_of_mul (by with_reducible assumption) (by omega) (pos_of_abs (by with_reducible assumption) (by omega))); (case kc => omega); intro _ _ _ _)
      | ((with_reducible refine div_nm ?kb ?kc ?_); (case kb => first | omega | exact pos_of_mul (by with_reducible assumption) (by omega) (by omega) | exact pos_of_abs (by with_reducible assumption) (nez_of_mul (by with_reducible assumption) (by omega) (by omega)) | exact pos_of_abs (by with_reducible assumption) (by omega) | exact pos_of_mul (by with_reducible assumption) (by omega) (pos_of_abs (by with_reducible assumption) (by omega))); (case kc => omega); intro _ _))
  k_with "binaryOp Mult int int" => (k_here; first
      | ((with_reducible refine mul_nm (X := 1099511627776) (Y := 1099511627776) (Z := 1208925819614629174706176) ?ka ?kA ?kb ?kB (by decide) (by decide) (by decide) ?_); (case ka => omega); (case kA => omega); (case kb => omega); (case kB => omega); intro _ _ _ _)
      | ((with_reducible refine mul_nm (X := 1208925819614629174706176) (Y := 1099511627776) (Z := 1329227995784915872903807060280344576) ?ka ?kA ?kb ?kB (by decide) (by decide) (by decide) ?_); (case ka => omega); (case kA => omega); (case kb => omega); (case kB => omega); intro _ _ _ _)
      | ((with_reducible refine mul_nm (X := 1099511627776) (Y := 1208925819614629174706176) (Z := 1329227995784915872903807060280344576) ?ka ?kA ?kb ?kB (by decide) (by decide) (by decide) ?_); (case ka => omega); (case kA => omega); (case kb => omega); (case kB => omega); intro _ _ _ _)
      | ((with_reducible refine mul_nm (X := 1329227995784915872903807060280344576) (Y := 1099511627776) (Z := 1461501637330902918203684832716283019655932542976) ?ka ?kA ?kb ?kB (by decide) (by decide) (by decide) ?_); (case ka => omega); (case kA => omega); (case kb => omega); (case kB => omega); intro _ _ _ _)
      | ((with_reducible refine mul_lit ?ka ?kb ?kB ?_); (case ka => decide +kernel); (case kb => omega); (case kB => omega); intro _ _))
  k_with "call builtin:abs" => (k_here; first
      | ((with_reducible refine abs_nm (X := 1099511627776) ?ka ?kA ?_); (case ka => omega); (case kA => omega); intro _ _ _ _ _ _)
      | ((with_reducible refine abs_nm (X := 1208925819614629174706176) ?ka ?kA ?_); (case ka => omega); (case kA => omega); intro _ _ _ _ _ _)
      | ((with_reducible refine abs_nm (X := 1329227995784915872903807060280344576) ?ka ?kA ?_); (case ka => omega); (case kA => omega); intro _ _ _ _ _ _))
  k_with "my enter" => (refine' code_def ?k1 ?k2 ?k3 ?k4 ?k5 ?kA ?kF ?kK ?k6 ?k7 ?k8 ?k9 ?kB ?_ ?c2 ?c3 ?c4 ?c5; (case kA => exact rfl); (case kF => exact rfl); (case kK => first | exact rfl | assumption); (case k1 => k_asm); (case k2 => k_asm); (case k3 => k_asm); (case k4 => k_asm); (case k5 => k_asm); (case k6 => k_is); (case k7 => k_is); (case k8 => ktr_room); (case k9 => first | exact binds_K (by k_in) rfl (by k_is) rfl rfl rfl | exact BindsTo.of_eq rfl); (case c5 => decide); (case kB => exact locs rfl); (case c2 => exact rfl); (case c3 => exact rfl); (case c4 => exact rfl); k_whole; intro g' L' h' FG' F' N' B' X' T'; (try dsimp only); (try k_lift B'); (try k_fold))
  k_with "ite" => (k_here; k_openite; first
      | (refine ite_pos (by first | omega | (simp only [decide_eq_true_eq, beq_iff_eq, bne_iff_ne, ne_eq, Bool.not_eq_true', decide_eq_false_iff_not]; omega)) ?_; walk_say "PRUNED mine")
      | (refine ite_neg (by first | omega | (simp only [decide_eq_true_eq, beq_iff_eq, bne_iff_ne, ne_eq, Bool.not_eq_true', decide_eq_false_iff_not]; omega)) ?_; walk_say "PRUNED mine"))
  k_with "call ref" => (k_here; (refine wpAny_call ?_); k_dflt cell_enter)
  k_with "binaryOp Pow int int" => (k_here; (with_reducible refine pow_lit (c := 1099511627776) ?ka ?kb ?kc ?kd ?_); (case ka => decide); (case kb => decide); (case kc => decide); (case kd => decide +kernel))
  k_with "binaryOp Pow int int" => (k_here; (with_reducible refine pow_lit (c := 549755813888) ?ka ?kb ?kc ?kd ?_); (case ka => decide); (case kb => decide); (case kc => decide); (case kd => decide +kernel))
  k_with "binaryOp Pow int int" => (k_here; (with_reducible refine pow_lit (c := 1073741824) ?ka ?kb ?kc ?kd ?_); (case ka => decide); (case kb => decide); (case kc => decide); (case kd => decide +kernel))
  k_with "binaryOp Pow int int" => (k_here; (with_reducible refine pow_lit (c := 1000000000000000000) ?ka ?kb ?kc ?kd ?_); (case ka => decide); (case kb => decide); (case kc => decide); (case kd => decide +kernel))
  k_fill
  intro dp un gd cn cs a ccd cl outer A₀ base h₀ L m s Q E news sc vs ns t B F X T hk hdp hun N hl hi hfit hret
  refine wpAny_call ?_
  k_dflt cell_enter
  k_steps
  all_goals (refine' hret _ _ _ _ _ _ _ _ ?e1 ?e2 ?e3 ?eF ?eN ?eL; (case eF => k_asm); (case eN => k_asm); (case eL => first | assumption | exact ktn_ltOf (by first | assumption | exact (And.right (by assumption)) | exact (And.right (And.right (by assumption))) | exact (And.right (And.right (And.right (by assumption)))))); (case e1 => first | exact Int.mul_nonneg (by split <;> omega) (by split <;> omega) | exact nonneg_of_mul (by with_reducible assumption) (by split <;> omega) (by split <;> omega)); (case e2 => omega); (case e3 => omega))

set_option maxRecDepth 100000 in
set_option maxHeartbeats 8000000 in
theorem c_numberU (w : World) (mean : ExcName → Option Value) (mg mb : Str → Option Value) : ∀ (dp un : Nat) (gd : Option (List Code)) (cn : Str) (cs : Scope) (a : Addr) (ccd : Value) (cl : List (Str × Addr)) (outer : List Env) (A₀ : Around) (base h₀ : Heap) (L : Addr) (m : Str → Option Value) (s : Shared) (Q E : Value → Shared → Prop) (news : List (Addr × Obj)) (f : Obj → List (Addr × Obj)) (src : Addr) (nn : Nat) (h b : Int) (t u : Tok),
    Below A₀ base outer h₀ → Fr h₀ L s.heap m → (hd.heap_39 w.params).In h₀ → Top hd.view_39 (looseW hd.view_39 [Str.ofString "MOST", Str.ofString "number_of"]) mean mg mb h₀ → cs.kind = .function → dp + 30 < recursionLimit → un + 240 < cLine →
    News h₀ L s.heap news → UpdF src ({ cls := .type "list", data := .seq #[.int h t, .int b u] nn } : Obj) news f → 0 ≤ h → 0 ≤ b → b ≤ 2147483648 →
    (∀ D X Y tX tY hh bb t1 t2 h' tk', NumF X Y → 0 ≤ hh → 0 ≤ bb → bb ≤ 2147483648 → Fr h₀ L h' m → News h₀ L h' ((D, { cls := .type "tuple", data := .seq #[.int X tX, .int Y tY] }) :: f ({ cls := .type "list", data := .seq #[.int hh t1, .int bb t2] nn } : Obj)) → (∀ p ∈ f ({ cls := .type "list", data := .seq #[.int hh t1, .int bb t2] nn } : Obj), p.1 < D) → Q (.ref D) { s with heap := h', toks := tk' }) →
    wpAny (model PySem.Challenge.rw_xm0656_01.row.prog w) (ktrTop dp un gd cn cs L a ccd cl outer) (call (.ref 168) [.ref src]) Q E s := by
  k_with_none
  intro dp un gd cn cs a ccd cl outer A₀ base h₀ L m s Q E news f src nn h b t u B F X T hk hdp hun N U hh hb hb2 hret
  obtain ⟨pre, post, rfl, hf, ha, hb'⟩ := U.split
  refine c_number w mean mg mb _ _ _ _ _ _ _ _ _ _ _ _ _ _ _ _ _  (pre ++ post) src nn h b t u B F X T hk hdp hun (news_out N) (off_app ha hb') hh hb hb2 ?_
  intro D X' Y' tX tY hh' bb' t1 t2 h' tk' nf p3 p4 p5 F' N' lt
  have hperm : ∀ p ∈ f ({ cls := .type "list", data := .seq #[.int hh' t1, .int bb' t2] nn } : Obj), p ∈ (src, ({ cls := .type "list", data := .seq #[.int hh' t1, .int bb' t2] nn } : Obj)) :: (pre ++ post) := by
    rw [hf]
    intro p hp
    rcases List.mem_append.mp hp with hp | hp
    · exact List.mem_cons_of_mem _ (List.mem_append.mpr (Or.inl hp))
    · rcases List.mem_cons.mp hp with rfl | hp
      · exact List.mem_cons_self
      · exact List.mem_cons_of_mem _ (List.mem_append.mpr (Or.inr hp))
  refine hret D X' Y' tX tY hh' bb' t1 t2 h' tk' nf p3 p4 p5 F' (fun p hp => N' p ?_) (fun p hp => lt p (hperm p hp))
  rcases List.mem_cons.mp hp with rfl | hp
  · exact List.mem_cons_self
  · exact List.mem_cons_of_mem _ (hperm p hp)

set_option maxRecDepth 100000 in
set_option maxHeartbeats 8000000 in
theorem c_ref (w : World) (mean : ExcName → Option Value) (mg mb : Str → Option Value) : ∀ (dp un : Nat) (gd : Option (List Code)) (cn : Str) (cs : Scope) (a : Addr) (ccd : Value) (A₀ : Around) (h₀ : Heap) (L : Addr) (m : Str → Option Value) (s : Shared) (Q E : Value → Shared → Prop) (news : List (Addr × Obj)) (v : Value) (bb : Bool),
    Below A₀ h₀ [] h₀ → Fr h₀ L s.heap m → (hd.heap_39 w.params).In h₀ → Top hd.view_39 (looseW hd.view_39 [Str.ofString "MOST", Str.ofString "number_of"]) mean mg mb h₀ → cs.kind = .function → dp + 30 < recursionLimit → un + 240 < cLine →
    News h₀ L s.heap news → RefOk news v bb →
    (∀ h' tk', Fr h₀ L h' m → News h₀ L h' news → Q (.bool bb) { s with heap := h', toks := tk' }) →
    wpAny (model PySem.Challenge.rw_xm0656_01.row.prog w) (ktrTop dp un gd cn cs L a ccd [] []) (call (.ref 208) [v]) Q E s := by
  k_with_none
  k_with "subscriptTail Name Constant ref int" => (k_here; (with_reducible show wpAny _ _ (subscriptTail _ _ (Value.ref _) (Value.int _ _)) _ _ _); k_dflt (refine tupAt (by k_asm) (by (with_reducible (repeat (first | assumption | exact List.mem_cons_self | refine List.mem_cons_of_mem _ ?_)))) (by decide) (by decide) (by rfl) (by rfl) ?_))
  k_with "subscriptTail Name Constant ref int" => (k_here; (with_reducible show wpAny _ _ (subscriptTail _ _ (Value.ref _) (Value.int _ _)) _ _ _); (with_unfolding_all refine' item_litK ?k1 ?k2 ?k3 ?k4 ?_ ?k6; (case k1 => is_list); (case k2 => decide); (case k3 => decide); (case k4 => rfl); (case k6 => with_unfolding_all rfl); k_whole))
  k_with "binaryOp Mod int int" => (k_here; (with_reducible refine mod_nm ?kb ?_); (case kb => first | omega | exact pos_of_mul (by with_reducible assumption) (by omega) (by omega) | exact pos_of_abs (by with_reducible assumption) (nez_of_mul (by with_reducible assumption) (by omega) (by omega)) | exact pos_of_abs (by with_reducible assumption) (by omega) | exact pos_of_mul (by with_reducible assumption) (by omega) (pos_of_abs (by with_reducible assumption) (by omega))); intro _ _ _ _)
  k_with "binaryOp FloorDiv int int" => (k_here; first
      | ((with_reducible refine div_nn ?kb ?kc ?ka ?_); (case ka => first | omega | exact nonneg_of_mul (by with_reducible assumption) (by omega) (by omega)); (case kb => first | omega | exact pos_of_mul (by with_reducible assumption) (by omega) (by omega) | exact pos_of_abs (by with_reducible assumption) (nez_of_mul (by with_reducible assumption) (by omega) (by omega)) | exact pos_of_abs (by with_reducible assumption) (by omega) | exact pos_of_mul (by with_reducible assumption) (by omega) (pos_of_abs (by with_reducible assumption) (by omega))); (case kc => omega); intro _ _ _ _)
      | ((with_reducible refine div_nm ?kb ?kc ?_); (case kb => first | omega | exact pos_of_mul (by with_reducible assumption) (by omega) (by omega) | exact pos_of_abs (by with_reducible assumption) (nez_of_mul (by with_reducible assumption) (by omega) (by omega)) | exact pos_of_abs (by with_reducible assumption) (by omega) | exact pos_of_mul (by with_reducible assumption) (by omega) (pos_of_abs (by with_reducible assumption) (by omega))); (case kc => omega); intro _ _))
  k_with "binaryOp Mult int int" => (k_here; first
      | ((with_reducible refine mul_nm (X := 1099511627776) (Y := 1099511627776) (Z := 1208925819614629174706176) ?ka ?kA ?kb ?kB (by decide) (by decide) (by decide) ?_); (case ka => omega); (case kA => omega); (case kb => omega); (case kB => omega); intro _ _ _ _)
      | ((with_reducible refine mul_nm (X := 1208925819614629174706176) (Y := 1099511627776) (Z := 1329227995784915872903807060280344576) ?ka ?kA ?kb ?kB (by decide) (by decide) (by decide) ?_); (case ka => omega); (case kA => omega); (case kb => omega); (case kB => omega); intro _ _ _ _)
      | ((with_reducible refine mul_nm (X := 1099511627776) (Y := 1208925819614629174706176) (Z := 1329227995784915872903807060280344576) ?ka ?kA ?kb ?kB (by decide) (by decide) (by decide) ?_); (case ka => omega); (case kA => omega); (case kb => omega); (case kB => omega); intro _ _ _ _)
      | ((with_reducible refine mul_nm (X := 1329227995784915872903807060280344576) (Y := 1099511627776) (Z := 1461501637330902918203684832716283019655932542976) ?ka ?kA ?kb ?kB (by decide) (by decide) (by decide) ?_); (case ka => omega); (case kA => omega); (case kb => omega); (case kB => omega); intro _ _ _ _)
      | ((with_reducible refine mul_lit ?ka ?kb ?kB ?_); (case ka => decide +kernel); (case kb => omega); (case kB => omega); intro _ _))
  k_with "call builtin:abs" => (k_here; first
      | ((with_reducible refine abs_nm (X := 1099511627776) ?ka ?kA ?_); (case ka => omega); (case kA => omega); intro _ _ _ _ _ _)
      | ((with_reducible refine abs_nm (X := 1208925819614629174706176) ?ka ?kA ?_); (case ka => omega); (case kA => omega); intro _ _ _ _ _ _)
      | ((with_reducible refine abs_nm (X := 1329227995784915872903807060280344576) ?ka ?kA ?_); (case ka => omega); (case kA => omega); intro _ _ _ _ _ _))
  k_with "my enter" => (refine' code_def ?k1 ?k2 ?k3 ?k4 ?k5 ?kA ?kF ?kK ?k6 ?k7 ?k8 ?k9 ?kB ?_ ?c2 ?c3 ?c4 ?c5; (case kA => exact rfl); (case kF => exact rfl); (case kK => first | exact rfl | assumption); (case k1 => k_asm); (case k2 => k_asm); (case k3 => k_asm); (case k4 => k_asm); (case k5 => k_asm); (case k6 => k_is); (case k7 => k_is); (case k8 => ktr_room); (case k9 => first | exact binds_K (by k_in) rfl (by k_is) rfl rfl rfl | exact BindsTo.of_eq rfl); (case c5 => decide); (case kB => exact locs rfl); (case c2 => exact rfl); (case c3 => exact rfl); (case c4 => exact rfl); k_whole; intro g' L' h' FG' F' N' B' X' T'; (try dsimp only); (try k_lift B'); (try k_fold))
  k_with "ite" => (k_here; k_openite; first
      | (refine ite_pos (by first | omega | (simp only [decide_eq_true_eq, beq_iff_eq, bne_iff_ne, ne_eq, Bool.not_eq_true', decide_eq_false_iff_not]; omega)) ?_; walk_say "PRUNED mine")
      | (refine ite_neg (by first | omega | (simp only [decide_eq_true_eq, beq_iff_eq, bne_iff_ne, ne_eq, Bool.not_eq_true', decide_eq_false_iff_not]; omega)) ?_; walk_say "PRUNED mine"))
  k_with "call ref" => (k_here; (refine wpAny_call ?_); k_dflt cell_enter)
  k_with "exec Raise some none" => (k_here; k_dflt (refine exc_raise 44 (by first | rfl | assumption) ?_))
  k_with "call ref" => (k_here; k_dflt (refine' exc_call_K (C := 44) (fI := 28) ?kF ?kN ?kX ?kc ?kl ?ki ?kf ?_; (case kF => k_asm); (case kN => k_asm); (case kX => k_asm); (case kc => exact path_own _); (case kl => exact one_fits _); (case ki => k_is); (case kf => k_is); intro e9 q9 h9 F9 N9 lt9; (try k_fold); cell_enter))
  k_with "getMethod type:Exception" => (k_here; refine' method_type ?F ?X ?m (by decide +kernel) ?e ?h ?_; (case F => k_asm); (case X => k_asm); (case m => kernel_rfl); (case e => k_dflt k_is); (case h => k_handed))
  k_with "call builtin:Exception.__init__" => (k_here; k_dflt (refine' exc_init_K (C := 44) ?kF ?kN ?ko ?kX ?kc ?kl ?_; (case kF => k_asm); (case kN => k_asm); (case ko => assumption); (case kX => k_asm); (case kc => exact path_own _); (case kl => exact one_fits _); intro h9 q9 F9 N9 P9; (try k_fold)))
  k_with "setAttr ref" => (k_here; k_dflt (refine' exc_set_K (C := 44) ?kF ?kN ?ko ?kX ?kc ?ks ?kt ?_; (case kF => k_asm); (case kN => k_asm); (case ko => assumption); (case kX => k_asm); (case kc => exact path_own _); (case ks => k_is); (case kt => k_is); intro h9 tk9 d9 F9 N9; (try k_fold)))
  k_with "ExcBack" => (k_dflt (refine' excBack_of (C := 44) ?kX ?kF ?kN List.mem_cons_self (path_own _) ?_; (case kF => k_asm); (case kN => k_asm); (case kX => k_asm)))
  k_with "leaving ref" => (k_here; k_dflt (refine' leave_ownS ?kK ?kF ?kN ?ko ?_; (case kK => assumption); (case kF => k_asm); (case kN => k_asm); (case ko => assumption); k_whole; intro h' R' U'; (try dsimp only at R' U' ⊢)))
  k_with "noteFrame ref" => (k_here; k_dflt (refine' caught_SO0 (C := 44) ?kR ?kF ?kK ?kU ?kX ?kT ?kD ?k0 ?ke ?kc ?_; (case kR => assumption); (case kF => assumption); (case kK => assumption); (case kU => assumption); (case kX => assumption); (case kT => assumption); (case kD => assumption); (case k0 => first | assumption | exact KtsTurn.refl); (case ke => k_is); (case kc => exact (path_own _).kts); k_whole; intro h' g' n2' T' F' N2' G2' N' K' X' P' D'; clear G2' N2'; (try k_lift K'); (try k_sweep)))
  k_fill
  intro dp un gd cn cs a ccd A₀ h₀ L m s Q E news v bb B F X T hk hdp hun N hr hret
  cases hr
  case' nil hm => have N2 := news_dup N hm; clear N
  case' two hm => have N2 := news_dup N hm; clear N
  case' tup hm => have N2 := news_dup N hm; clear N
  all_goals (refine wpAny_call ?_)
  all_goals (k_dflt (refine' code_defS0 ?k1 ?k2 ?k3 ?k4 ?k5 ?kA ?k6 ?k7 ?k8 ?k9 ?kB ?_ ?cK ?c2 ?c3 ?c4 ?c5; (case kA => exact rfl); (case k2 => k_asm); (case k1 => k_asm); (case k3 => k_asm); (case k4 => k_asm); (case k5 => k_asm); (case k6 => k_is); (case k7 => k_is); (case k8 => ktr_room); (case k9 => first | exact binds_K (by k_in) rfl (by k_is) rfl rfl rfl | exact BindsTo.of_eq rfl); (case kB => exact locs rfl); (case cK => assumption); (case c2 => exact rfl); (case c3 => exact rfl); (case c4 => exact rfl); (case c5 => decide); k_whole; intro g' L' h' FG' F' N' B' X' T' D'; (try dsimp only); (try k_lift B'); (try k_fold)))
  all_goals k_steps
  all_goals (refine' hret _ _ ?eF ?eN; (case eF => k_asm); (case eN => first | k_asm | exact news_sub (by k_asm) (fun _ hp => List.mem_cons_of_mem _ hp)))

set_option maxRecDepth 100000 in
set_option maxHeartbeats 8000000 in
theorem law_holds : PySem.Challenge.rw_xm0656_01.Holds := hd (by
  k_with_none
  k_with "subscriptTail Name Constant ref int" => (k_here; (with_reducible show wpAny _ _ (subscriptTail _ _ (Value.ref _) (Value.int _ _)) _ _ _); k_dflt (refine tupAt (by k_asm) (by (with_reducible (repeat (first | assumption | exact List.mem_cons_self | refine List.mem_cons_of_mem _ ?_)))) (by decide) (by decide) (by rfl) (by rfl) ?_))
  k_with "subscriptTail Name Constant ref int" => (k_here; (with_reducible show wpAny _ _ (subscriptTail _ _ (Value.ref _) (Value.int _ _)) _ _ _); (with_unfolding_all refine' item_litK ?k1 ?k2 ?k3 ?k4 ?_ ?k6; (case k1 => is_list); (case k2 => decide); (case k3 => decide); (case k4 => rfl); (case k6 => with_unfolding_all rfl); k_whole))
  k_with "binaryOp Mod int int" => (k_here; (with_reducible refine mod_nm ?kb ?_); (case kb => first | omega | exact pos_of_mul (by with_reducible assumption) (by omega) (by omega) | exact pos_of_abs (by with_reducible assumption) (nez_of_mul (by with_reducible assumption) (by omega) (by omega)) | exact pos_of_abs (by with_reducible assumption) (by omega) | exact pos_of_mul (by with_reducible assumption) (by omega) (pos_of_abs (by with_reducible assumption) (by omega))); intro _ _ _ _)
  k_with "binaryOp FloorDiv int int" => (k_here; first
      | ((with_reducible refine div_nn ?kb ?kc ?ka ?_); (case ka => first | omega | exact nonneg_of_mul (by with_reducible assumption) (by omega) (by omega)); (case kb => first | omega | exact pos_of_mul (by with_reducible assumption) (by omega) (by omega) | exact pos_of_abs (by with_reducible assumption) (nez_of_mul (by with_reducible assumption) (by omega) (by omega)) | exact pos_of_abs (by with_reducible assumption) (by omega) | exact pos_of_mul (by with_reducible assumption) (by omega) (pos_of_abs (by with_reducible assumption) (by omega))); (case kc => omega); intro _ _ _ _)
      | ((with_reducible refine div_nm ?kb ?kc ?_); (case kb => first | omega | exact pos_of_mul (by with_reducible assumption) (by omega) (by omega) | exact pos_of_abs (by with_reducible assumption) (nez_of_mul (by with_reducible assumption) (by omega) (by omega)) | exact pos_of_abs (by with_reducible assumption) (by omega) | exact pos_of_mul (by with_reducible assumption) (by omega) (pos_of_abs (by with_reducible assumption) (by omega))); (case kc => omega); intro _ _))
  k_with "binaryOp Mult int int" => (k_here; first
      | ((with_reducible refine mul_nm (X := 1099511627776) (Y := 1099511627776) (Z := 1208925819614629174706176) ?ka ?kA ?kb ?kB (by decide) (by decide) (by decide) ?_); (case ka => omega); (case kA => omega); (case kb => omega); (case kB => omega); intro _ _ _ _)
      | ((with_reducible refine mul_nm (X := 1208925819614629174706176) (Y := 1099511627776) (Z := 1329227995784915872903807060280344576) ?ka ?kA ?kb ?kB (by decide) (by decide) (by decide) ?_); (case ka => omega); (case kA => omega); (case kb => omega); (case kB => omega); intro _ _ _ _)
      | ((with_reducible refine mul_nm (X := 1099511627776) (Y := 1208925819614629174706176) (Z := 1329227995784915872903807060280344576) ?ka ?kA ?kb ?kB (by decide) (by decide) (by decide) ?_); (case ka => omega); (case kA => omega); (case kb => omega); (case kB => omega); intro _ _ _ _)
      | ((with_reducible refine mul_nm (X := 1329227995784915872903807060280344576) (Y := 1099511627776) (Z := 1461501637330902918203684832716283019655932542976) ?ka ?kA ?kb ?kB (by decide) (by decide) (by decide) ?_); (case ka => omega); (case kA => omega); (case kb => omega); (case kB => omega); intro _ _ _ _)
      | ((with_reducible refine mul_lit ?ka ?kb ?kB ?_); (case ka => decide +kernel); (case kb => omega); (case kB => omega); intro _ _))
  k_with "call builtin:abs" => (k_here; first
      | ((with_reducible refine abs_nm (X := 1099511627776) ?ka ?kA ?_); (case ka => omega); (case kA => omega); intro _ _ _ _ _ _)
      | ((with_reducible refine abs_nm (X := 1208925819614629174706176) ?ka ?kA ?_); (case ka => omega); (case kA => omega); intro _ _ _ _ _ _)
      | ((with_reducible refine abs_nm (X := 1329227995784915872903807060280344576) ?ka ?kA ?_); (case ka => omega); (case kA => omega); intro _ _ _ _ _ _))
  k_with "my enter" => (refine' code_def ?k1 ?k2 ?k3 ?k4 ?k5 ?kA ?kF ?kK ?k6 ?k7 ?k8 ?k9 ?kB ?_ ?c2 ?c3 ?c4 ?c5; (case kA => exact rfl); (case kF => exact rfl); (case kK => first | exact rfl | assumption); (case k1 => k_asm); (case k2 => k_asm); (case k3 => k_asm); (case k4 => k_asm); (case k5 => k_asm); (case k6 => k_is); (case k7 => k_is); (case k8 => ktr_room); (case k9 => first | exact binds_K (by k_in) rfl (by k_is) rfl rfl rfl | exact BindsTo.of_eq rfl); (case c5 => decide); (case kB => exact locs rfl); (case c2 => exact rfl); (case c3 => exact rfl); (case c4 => exact rfl); k_whole; intro g' L' h' FG' F' N' B' X' T'; (try dsimp only); (try k_lift B'); (try k_fold))
  k_with "ite" => (k_here; k_openite; first
      | (refine ite_pos (by first | omega | (simp only [decide_eq_true_eq, beq_iff_eq, bne_iff_ne, ne_eq, Bool.not_eq_true', decide_eq_false_iff_not]; omega)) ?_; walk_say "PRUNED mine")
      | (refine ite_neg (by first | omega | (simp only [decide_eq_true_eq, beq_iff_eq, bne_iff_ne, ne_eq, Bool.not_eq_true', decide_eq_false_iff_not]; omega)) ?_; walk_say "PRUNED mine"))
  k_with "call ref" => (k_here; (refine wpAny_call ?_); k_dflt cell_enter)
  k_with "exec If" => (k_here; (fail_if_success (rename CutMark => cM)); (with_reducible show wpAny _ _ (exec (Stmt.If (Expr.Compare (Expr.Call (Expr.Name (PySem.Str.ofString "reckoned") _) _ _ _) _ _ _) _ _ _) _) _ _ _); k_dflt (refine' cut_if ?cF ?cN ?_ ?_; (case cF => k_asm); (case cN => k_asm); (intro cM'); rotate_left; (intro h' tk' F' N'; (try k_sweep)); rotate_left))
  k_with "CutEnd" => (k_dflt (first
      | exact cut_end (by k_asm) (by k_asm) (fun _ hp => List.mem_append.mpr (Or.inr (List.mem_append.mpr (Or.inr hp))))
      | exact cut_end (by k_asm) (by k_asm) (fun _ hp => nomatch hp)))
  k_with "compareOp NotEq" => (k_here; k_dflt (first
      | refine ne_R3 (by k_asm) (by k_asm) (by k_asm) (by assumption) (by assumption) (fun _ hp => List.mem_append.mpr (Or.inr hp)) (fun _ hp => hp) (Eq.trans (by assumption) (Eq.symm (by assumption))) (Eq.trans (by assumption) (Eq.symm (by assumption))) (by ktr_units) ?_
      | refine ne_R3 (by k_asm) (by k_asm) (by k_asm) (by assumption) (R3.of List.mem_cons_self) (fun _ hp => List.mem_cons_of_mem _ hp) (fun _ hp => hp) (Eq.trans (by assumption) (by decide +kernel)) (Eq.trans (by assumption) (by decide +kernel)) (by ktr_units) ?_))
  k_with "call ref" => (k_here; k_dflt (refine' c_reck _ _ _ _ _ _ _ _ _ _ _ _ _ _ _ _ _ _ _ _ _ _ _ _ _ _ _ _ _ _ _ _ Op.mod _ ?kB ?kF ?kX ?kT ?kK ?kD ?kU ?e0 ?e1 ?e2 ?e3 ?e4 ?_; (case kB => k_asm); (case kF => k_asm); (case kX => k_asm); (case kT => k_asm); (case kK => first | exact rfl | assumption); (case kD => ktr_room); (case kU => ktr_units); (case e0 => k_asm); (case e1 => (first | ((with_reducible (repeat (first | assumption | exact List.mem_cons_self | refine List.mem_cons_of_mem _ ?_))); done) | (refine List.mem_append.mpr (Or.inr ?_); (with_reducible (repeat (first | assumption | exact List.mem_cons_self | refine List.mem_cons_of_mem _ ?_))); done))); (case e2 => (first | ((with_reducible (repeat (first | assumption | exact List.mem_cons_self | refine List.mem_cons_of_mem _ ?_))); done) | (refine List.mem_append.mpr (Or.inr ?_); (with_reducible (repeat (first | assumption | exact List.mem_cons_self | refine List.mem_cons_of_mem _ ?_))); done))); (case e3 => first | assumption | (unfold NumF; omega)); (case e4 => first | assumption | (unfold NumF; omega)); intro r9 X9 Y9 tl9 h9 tk9 eX9 eY9 F9 N9 R9; (try dsimp only); (try k_fold)))
  k_with "call ref" => (k_here; k_dflt (refine' c_reck _ _ _ _ _ _ _ _ _ _ _ _ _ _ _ _ _ _ _ _ _ _ _ _ _ _ _ _ _ _ _ _ _ _  ?kB ?kF ?kX ?kT ?kK ?kD ?kU ?e0 ?e1 ?e2 ?e3 ?e4 ?_; (case kB => k_asm); (case kF => k_asm); (case kX => k_asm); (case kT => k_asm); (case kK => first | exact rfl | assumption); (case kD => ktr_room); (case kU => ktr_units); (case e0 => k_asm); (case e1 => (first | ((with_reducible (repeat (first | assumption | exact List.mem_cons_self | refine List.mem_cons_of_mem _ ?_))); done) | (refine List.mem_append.mpr (Or.inr ?_); (with_reducible (repeat (first | assumption | exact List.mem_cons_self | refine List.mem_cons_of_mem _ ?_))); done))); (case e2 => (first | ((with_reducible (repeat (first | assumption | exact List.mem_cons_self | refine List.mem_cons_of_mem _ ?_))); done) | (refine List.mem_append.mpr (Or.inr ?_); (with_reducible (repeat (first | assumption | exact List.mem_cons_self | refine List.mem_cons_of_mem _ ?_))); done))); (case e3 => first | assumption | (unfold NumF; omega)); (case e4 => first | assumption | (unfold NumF; omega)); intro r9 X9 Y9 tl9 h9 tk9 eX9 eY9 F9 N9 R9; (try dsimp only); (try k_fold)))
  k_with "call ref" => (k_here; k_dflt (refine' c_due _ _ _ _ _ _ _ _ _ _ _ _ _ _ _ _ _ _ _ _ _ _ _ _ _ _ _ _ _ _ _ _ _ _  ?kB ?kF ?kX ?kT ?kK ?kD ?kU ?e0 ?e1 ?e2 ?e3 ?e4 ?_; (case kB => k_asm); (case kF => k_asm); (case kX => k_asm); (case kT => k_asm); (case kK => first | exact rfl | assumption); (case kD => ktr_room); (case kU => ktr_units); (case e0 => k_asm); (case e1 => (first | ((with_reducible (repeat (first | assumption | exact List.mem_cons_self | refine List.mem_cons_of_mem _ ?_))); done) | (refine List.mem_append.mpr (Or.inr ?_); (with_reducible (repeat (first | assumption | exact List.mem_cons_self | refine List.mem_cons_of_mem _ ?_))); done))); (case e2 => (first | ((with_reducible (repeat (first | assumption | exact List.mem_cons_self | refine List.mem_cons_of_mem _ ?_))); done) | (refine List.mem_append.mpr (Or.inr ?_); (with_reducible (repeat (first | assumption | exact List.mem_cons_self | refine List.mem_cons_of_mem _ ?_))); done))); (case e3 => first | assumption | (unfold NumF; omega)); (case e4 => first | assumption | (unfold NumF; omega)); intro r9 X9 Y9 tl9 h9 tk9 eX9 eY9 F9 N9 R9; (try dsimp only); (try k_fold)))
  k_with "call ref" => (k_here; k_dflt (refine' c_pool _ _ _ _ _ _ _ _ _ _ _ _ _ _ _ _ _ _ _ _ _ _ _ _ _ _  ?kB ?kF ?kX ?kT ?kK ?kD ?kU ?e0 ?e1 ?e2 ?e3 ?_; (case kB => k_asm); (case kF => k_asm); (case kX => k_asm); (case kT => k_asm); (case kK => first | exact rfl | assumption); (case kD => ktr_room); (case kU => ktr_units); (case e0 => k_asm); (case e1 => k_asm); (case e2 => l_ints); (case e3 => l_fit); intro l9 hh9 bb9 t9 u9 n9 h9 tk9 p9 q9 r9 F9 N9 l9'; (try k_lt l9'); (try dsimp only); (try k_fold)))
  k_with "call ref" => (k_here; k_dflt (refine' c_numberU _ _ _ _ _ _ _ _ _ _ _ _ _ _ _ _ _ _ _ _ _ _ _ _ _ _ _ _ _  ?kB ?kF ?kX ?kT ?kK ?kD ?kU ?e0 ?e1 ?e2 ?e3 ?e4 ?_; (case kB => k_asm); (case kF => k_asm); (case kX => k_asm); (case kT => k_asm); (case kK => first | exact rfl | assumption); (case kD => ktr_room); (case kU => ktr_units); (case e0 => k_asm); (case e1 => first | assumption | k_updF); (case e2 => omega); (case e3 => omega); (case e4 => omega); intro D9 X9 Y9 tX9 tY9 hh9 bb9 t9 u9 h9 tk9 nf9 p9 q9 r9 F9 N9 l9; (try k_lt l9); (try dsimp only); (try k_fold)))
  k_with "call ref" => (k_here; k_dflt (refine' c_oneU _ _ _ _ _ _ _ _ _ _ _ _ _ _ _ _ _ _ _ _ _ _ _ _ _ _ _ _ _ _ _ _  ?kB ?kF ?kX ?kT ?kK ?kD ?kU ?e0 ?e1 ?e2 ?e3 ?e4 ?e5 ?e6 ?e7 ?e8 ?_; (case kB => k_asm); (case kF => k_asm); (case kX => k_asm); (case kT => k_asm); (case kK => first | exact rfl | assumption); (case kD => ktr_room); (case kU => ktr_units); (case e0 => k_asm); (case e1 => first | assumption | k_updF); (case e2 => omega); (case e3 => omega); (case e4 => omega); (case e5 => (with_reducible (repeat (first | assumption | exact List.mem_cons_self | refine List.mem_cons_of_mem _ ?_)))); (case e6 => k_ne); (case e7 => (simp only [List.length_cons, List.length_nil]; omega)); (case e8 => (simp only [List.length_cons, List.length_nil]; omega)); intro v9 hh9 bb9 t9 u9 h9 tk9 e9 p9 q9 r9 F9 N9; simp only [List.mem_cons, List.not_mem_nil, or_false] at e9; rcases e9 with e9 | e9 | e9 | e9 | e9 | e9 <;> subst e9 <;> (try dsimp only); (try k_fold)))
  k_with "call ref" => (k_here; k_dflt (refine' c_one5 _ _ _ _ _ _ _ _ _ _ _ _ _ _ _ _ _ _ _ _ _ _ _ _ _ _ _ _ _ _ _ _ _ _ _ _ ?kB ?kF ?kX ?kT ?kK ?kD ?kU ?e0 ?e1 ?e2 ?e3 ?e4 ?e5 ?e6 ?_; (case kB => k_asm); (case kF => k_asm); (case kX => k_asm); (case kT => k_asm); (case kK => first | exact rfl | assumption); (case kD => ktr_room); (case kU => ktr_units); (case e0 => k_asm); (case e1 => first | assumption | k_updF); (case e2 => omega); (case e3 => omega); (case e4 => omega); (case e5 => exact List.mem_cons_self); (case e6 => k_ne); intro o9 t9 hh9 bb9 u9 v9 h9 tk9 r9 a9 b9 F9 N9; (try dsimp only); (try k_fold)))
  k_with "call ref" => (k_here; k_dflt (refine' c_ref _ _ _ _ _ _ _ _ _ _ _ _ _ _ _ _ _ _ _ _ false ?kB ?kF ?kX ?kT ?kK ?kD ?kU ?e0 ?e1 ?_; (case kB => k_asm); (case kF => k_asm); (case kX => k_asm); (case kT => k_asm); (case kK => first | exact rfl | assumption); (case kD => ktr_room); (case kU => ktr_units); (case e0 => k_asm); (case e1 => first | exact RefOk.nil (by repeat (first | exact List.mem_cons_self | refine List.mem_cons_of_mem _ ?_)) | exact RefOk.two (by repeat (first | exact List.mem_cons_self | refine List.mem_cons_of_mem _ ?_))); intro h9 tk9 F9 N9; (try dsimp only); (try k_fold)))
  k_with "call ref" => (k_here; k_dflt (refine' c_ref _ _ _ _ _ _ _ _ _ _ _ _ _ _ _ _ _ _ _ _ true ?kB ?kF ?kX ?kT ?kK ?kD ?kU ?e0 ?e1 ?_; (case kB => k_asm); (case kF => k_asm); (case kX => k_asm); (case kT => k_asm); (case kK => first | exact rfl | assumption); (case kD => ktr_room); (case kU => ktr_units); (case e0 => k_asm); (case e1 => first | exact RefOk.str | exact RefOk.bool | exact RefOk.tup (by repeat (first | exact List.mem_cons_self | refine List.mem_cons_of_mem _ ?_))); intro h9 tk9 F9 N9; (try dsimp only); (try k_fold)))
  k_go0
  (all_goals try k_fold)
  k_steps
)
end Mine
theorem PySem.Challenge.cw_xm0656_01_holds : PySem.Challenge.rw_xm0656_01.Holds := by
  exact Mine.law_holds
