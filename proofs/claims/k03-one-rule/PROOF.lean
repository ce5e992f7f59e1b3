import PyProof.Rows.All
import Wide.All
import OpenK.AllK
import Wide.FinOn
import KE.KStateDown
import HandS.ForMost
import HandS.Exc
import HandS.Codes
import HandS.Wide
import HandS.IsInst
import HandS.Defaults
import HandS.RaiseMore
import HandS.Style
import HandS.FStrTup
import HandS.Head0
import HandS.Head1
import HandS.Head2
import HandS.HeadHook1
import HandS.HeadHook2
import PySem.Challenge.RW_leapfit_k03_whole_one_rule_for_each_coun
set_option Elab.async false
set_option linter.all false
set_option maxRecDepth 100000
set_option maxHeartbeats 4000000
-- LfMath
namespace LF
/-- the greatest common divisor as the loops reckon it -/
def gI (p q : Int) : Int := (Int.gcd p q : Int)
def rp (p q : Int) : Int := p / gI p q
def rq (p q : Int) : Int := q / gI p q
def rc (p q c : Int) : Int := c / gI p q
/-- the count of a rule -/
def cn (p q c t : Int) : Int := (p * t + c) / q

theorem gI_pos {p q : Int} (hq : 1 ≤ q) : 1 ≤ gI p q := by
  have h : 0 < Int.gcd p q := Int.gcd_pos_of_ne_zero_right p (by omega)
  unfold gI
  omega
theorem gI_dvd_p (p q : Int) : gI p q ∣ p := Int.gcd_dvd_left p q
theorem gI_dvd_q (p q : Int) : gI p q ∣ q := Int.gcd_dvd_right p q
theorem rp_mul (p q : Int) : gI p q * rp p q = p := Int.mul_ediv_cancel' (gI_dvd_p p q)
theorem rq_mul (p q : Int) : gI p q * rq p q = q := Int.mul_ediv_cancel' (gI_dvd_q p q)
theorem rp_nonneg {p q : Int} (hp : 0 ≤ p) : 0 ≤ rp p q := Int.ediv_nonneg hp (by unfold gI; omega)
theorem rq_pos {p q : Int} (hq : 1 ≤ q) : 1 ≤ rq p q := by
  have h1 := rq_mul p q
  have h2 := gI_pos (p := p) hq
  by_cases h : 1 ≤ rq p q
  · exact h
  · exfalso
    have h3 : gI p q * rq p q ≤ 0 := Int.mul_nonpos_of_nonneg_of_nonpos (by omega) (by omega)
    omega
theorem ediv_le_natAbs {c g : Int} (hg : 1 ≤ g) : (c / g).natAbs ≤ c.natAbs := by
  have hg0 : 0 < g := by omega
  by_cases hc : 0 ≤ c
  · have h1 : 0 ≤ c / g := Int.ediv_nonneg hc (by omega)
    have h2 : c / g ≤ c := Int.ediv_le_self g hc
    omega
  · have h1 : c / g < 0 := Int.ediv_neg_of_neg_of_pos (by omega) hg0
    have h2 : c ≤ c / g := by
      refine (Int.le_ediv_iff_mul_le hg0).mpr ?_
      have : c * g ≤ c * 1 := Int.mul_le_mul_of_nonpos_left (by omega) hg
      omega
    omega
theorem rp_le (p q : Int) (hq : 1 ≤ q) : (rp p q).natAbs ≤ p.natAbs := ediv_le_natAbs (gI_pos hq)
theorem rq_le (p q : Int) (hq : 1 ≤ q) : (rq p q).natAbs ≤ q.natAbs := ediv_le_natAbs (gI_pos hq)
theorem rc_le (p q c : Int) (hq : 1 ≤ q) : (rc p q c).natAbs ≤ c.natAbs := ediv_le_natAbs (gI_pos hq)
/-- lowest terms -/
theorem red_gcd {p q : Int} (hq : 1 ≤ q) : gI (rp p q) (rq p q) = 1 := by
  have h1 := gI_pos (p := p) hq
  have e : gI p q * gI (rp p q) (rq p q) = gI p q := by
    have h2 : Int.gcd (gI p q * rp p q) (gI p q * rq p q) = (gI p q).natAbs * Int.gcd (rp p q) (rq p q) := Int.gcd_mul_left (gI p q) (rp p q) (rq p q)
    rw [rp_mul, rq_mul] at h2
    have h3 : ((Int.gcd p q : Nat) : Int) = (((gI p q).natAbs * Int.gcd (rp p q) (rq p q) : Nat) : Int) := congrArg Nat.cast h2
    rw [Int.natCast_mul, Int.natAbs_of_nonneg (by omega)] at h3
    exact h3.symm
  have e2 : gI p q * gI (rp p q) (rq p q) = gI p q * 1 := by rw [e, Int.mul_one]
  exact Int.eq_of_mul_eq_mul_left (by omega) e2
theorem rp_of_one {p q : Int} (h : gI p q = 1) : rp p q = p := by unfold rp; rw [h, Int.ediv_one]
theorem rq_of_one {p q : Int} (h : gI p q = 1) : rq p q = q := by unfold rq; rw [h, Int.ediv_one]
theorem rc_of_one {p q c : Int} (h : gI p q = 1) : rc p q c = c := by unfold rc; rw [h, Int.ediv_one]
/-- the multiples of a triple -/
theorem gI_mul {k : Int} (hk : 1 ≤ k) (p q : Int) : gI (k * p) (k * q) = k * gI p q := by
  unfold gI
  rw [Int.gcd_mul_left, Int.natCast_mul, Int.natAbs_of_nonneg (by omega)]
theorem rp_mulk {k : Int} (hk : 1 ≤ k) (p q : Int) : rp (k * p) (k * q) = rp p q := by
  unfold rp
  rw [gI_mul hk, Int.mul_ediv_mul_of_pos _ _ (by omega)]
theorem rq_mulk {k : Int} (hk : 1 ≤ k) (p q : Int) : rq (k * p) (k * q) = rq p q := by
  unfold rq
  rw [gI_mul hk, Int.mul_ediv_mul_of_pos _ _ (by omega)]
theorem rc_mulk {k d : Int} (hk : 1 ≤ k) (h0 : 0 ≤ d) (h1 : d < k) (p q c : Int) : rc (k * p) (k * q) (k * c + d) = rc p q c := by
  unfold rc
  rw [gI_mul hk, ← Int.ediv_ediv_of_nonneg (by omega), Int.add_comm, Int.add_mul_ediv_left _ _ (by omega), Int.ediv_eq_zero_of_lt h0 h1, Int.zero_add]
/-- the counts of the lowest triple -/
theorem cn_red {p q : Int} (hq : 1 ≤ q) (c t : Int) : cn (rp p q) (rq p q) (rc p q c) t = (p * t + c) / q := by
  have hg := gI_pos (p := p) hq
  have e1 : p * t + c = c + gI p q * (rp p q * t) := by
    rw [← Int.mul_assoc, rp_mul, Int.add_comm]
  have e2 : (p * t + c) / q = (p * t + c) / (gI p q * rq p q) := by rw [rq_mul]
  rw [e2, ← Int.ediv_ediv_of_nonneg (by omega), e1, Int.add_mul_ediv_left _ _ (by omega)]
  unfold cn rc
  rw [Int.add_comm]
theorem cn_next (p q c t : Int) (hq : 1 ≤ q) : cn p q c (t + q) = cn p q c t + p := by
  unfold cn
  have e : p * (t + q) + c = p * t + c + p * q := by
    rw [Int.mul_add]; omega
  rw [e, Int.add_mul_ediv_right _ _ (by omega)]
theorem cn_natAbs {p q c t : Int} (hq : 1 ≤ q) : (cn p q c t).natAbs ≤ p.natAbs * t.natAbs + c.natAbs := by
  refine Nat.le_trans (ediv_le_natAbs hq) ?_
  refine Nat.le_trans (Int.natAbs_add_le _ _) ?_
  rw [Int.natAbs_mul]
  exact Nat.le_refl _
/-- a residue is met within a cycle of at most nine -/
theorem meets9 : ∀ q : Fin 10, ∀ a : Fin 10, ∀ r : Fin 10, Nat.gcd a.val q.val = 1 → r.val < q.val → ∃ t : Fin 10, t.val < q.val ∧ (a.val * t.val + r.val) % q.val = q.val - 1 := by decide +kernel
theorem sep {p q c d : Int} (hp : 0 ≤ p) (hq : 1 ≤ q) (hq9 : q ≤ 9) (hg : gI p q = 1) (hcd : c < d) : ∃ t : Int, 0 ≤ t ∧ t < q ∧ cn p q c t < cn p q d t := by
  obtain ⟨P, rfl⟩ : ∃ P : Nat, p = P := ⟨p.toNat, by omega⟩
  obtain ⟨Q, rfl⟩ : ∃ Q : Nat, q = Q := ⟨q.toNat, by omega⟩
  have hg1 : Nat.gcd P Q = 1 := by
    unfold gI at hg
    rw [Int.gcd_natCast_natCast] at hg
    omega
  have hQ : 0 < Q := by omega
  have hg2 : Nat.gcd (P % Q) Q = 1 := by
    rw [← Nat.gcd_rec Q P, Nat.gcd_comm]
    exact hg1
  have hr0 : 0 ≤ c % (Q : Int) := Int.emod_nonneg _ (by omega)
  have hr1 : c % (Q : Int) < Q := Int.emod_lt_of_pos _ (by omega)
  obtain ⟨R, hR⟩ : ∃ R : Nat, c % (Q : Int) = R := ⟨(c % (Q : Int)).toNat, by omega⟩
  have hRQ : R < Q := by omega
  have hPQ : P % Q < Q := Nat.mod_lt _ hQ
  obtain ⟨t, ht, e⟩ := meets9 ⟨Q, by omega⟩ ⟨P % Q, by omega⟩ ⟨R, by omega⟩ hg2 hRQ
  have e' : ((P % Q) * t.val + R) % Q = Q - 1 := e
  have ht' : t.val < Q := ht
  refine ⟨(t.val : Int), by omega, by omega, ?_⟩
  -- the number below the line
  have em : (P * t.val + R) % Q = Q - 1 := by
    have e1 : P * t.val % Q = (P % Q) * t.val % Q := by rw [Nat.mul_mod P t.val Q, Nat.mul_mod (P % Q) t.val Q, Nat.mod_mod]
    rw [← e', Nat.add_mod, e1, ← Nat.add_mod]
  have ez : ((P : Int) * (t.val : Int) + c) % (Q : Int) = (Q : Int) - 1 := by
    have h1 : ((P : Int) * (t.val : Int) + c) % (Q : Int) = ((P : Int) * (t.val : Int) + c % (Q : Int)) % (Q : Int) := by
      rw [Int.add_emod_emod]
    rw [h1, hR]
    have h2 : ((P : Int) * (t.val : Int) + (R : Int)) = ((P * t.val + R : Nat) : Int) := by
      rw [Int.natCast_add, Int.natCast_mul]
    rw [h2, ← Int.natCast_emod, em]
    omega
  unfold cn
  have hd := Int.mul_ediv_add_emod ((P : Int) * (t.val : Int) + c) (Q : Int)
  rw [ez] at hd
  refine (Int.lt_iff_add_one_le).mpr ((Int.le_ediv_iff_mul_le (by omega)).mpr ?_)
  rw [Int.add_mul, Int.mul_comm, Int.one_mul]
  omega
/-- two small rules with the same counts over both cycles are one -/
theorem alike {p1 q1 c1 p2 q2 c2 : Int} (hp1 : 0 ≤ p1) (hq1 : 1 ≤ q1) (h1 : q1 ≤ 9) (g1 : gI p1 q1 = 1) (hp2 : 0 ≤ p2) (hq2 : 1 ≤ q2) (g2 : gI p2 q2 = 1)
    (h : ∀ t : Int, 0 ≤ t → t < q1 * q2 + 1 → cn p1 q1 c1 t = cn p2 q2 c2 t) : p1 = p2 ∧ q1 = q2 ∧ c1 = c2 := by
  have hqq : 0 < q1 * q2 := Int.mul_pos (by omega) (by omega)
  have a0 := h 0 (by omega) (by omega)
  have a1 := h (q1 * q2) (by omega) (by omega)
  have e1 : cn p1 q1 c1 (q1 * q2) = cn p1 q1 c1 0 + p1 * q2 := by
    unfold cn
    have e : p1 * (q1 * q2) + c1 = p1 * 0 + c1 + (p1 * q2) * q1 := by
      have : p1 * (q1 * q2) = p1 * q2 * q1 := by rw [Int.mul_comm q1 q2, Int.mul_assoc]
      rw [this]; omega
    rw [e, Int.add_mul_ediv_right _ _ (by omega)]
  have e2 : cn p2 q2 c2 (q1 * q2) = cn p2 q2 c2 0 + p2 * q1 := by
    unfold cn
    have e : p2 * (q1 * q2) + c2 = p2 * 0 + c2 + (p2 * q1) * q2 := by
      rw [← Int.mul_assoc]; omega
    rw [e, Int.add_mul_ediv_right _ _ (by omega)]
  have x : p1 * q2 = p2 * q1 := by omega
  obtain ⟨P1, rfl⟩ : ∃ P : Nat, p1 = P := ⟨p1.toNat, by omega⟩
  obtain ⟨Q1, rfl⟩ : ∃ Q : Nat, q1 = Q := ⟨q1.toNat, by omega⟩
  obtain ⟨P2, rfl⟩ : ∃ P : Nat, p2 = P := ⟨p2.toNat, by omega⟩
  obtain ⟨Q2, rfl⟩ : ∃ Q : Nat, q2 = Q := ⟨q2.toNat, by omega⟩
  have G1 : Nat.gcd P1 Q1 = 1 := by
    have g := g1
    unfold gI at g
    rw [Int.gcd_natCast_natCast] at g
    omega
  have G2 : Nat.gcd P2 Q2 = 1 := by
    have g := g2
    unfold gI at g
    rw [Int.gcd_natCast_natCast] at g
    omega
  have X : P1 * Q2 = P2 * Q1 := by
    have : ((P1 * Q2 : Nat) : Int) = ((P2 * Q1 : Nat) : Int) := by rw [Int.natCast_mul, Int.natCast_mul]; exact x
    omega
  have d1 : Q1 ∣ Q2 := Nat.Coprime.dvd_of_dvd_mul_left (show Nat.Coprime Q1 P1 from by rw [Nat.coprime_comm]; exact G1) (X ▸ Nat.dvd_mul_left Q1 P2)
  have d2 : Q2 ∣ Q1 := Nat.Coprime.dvd_of_dvd_mul_left (show Nat.Coprime Q2 P2 from by rw [Nat.coprime_comm]; exact G2) (X ▸ Nat.dvd_mul_left Q2 P1)
  have eQ : Q1 = Q2 := Nat.dvd_antisymm d1 d2
  subst eQ
  have eP : P1 = P2 := Nat.eq_of_mul_eq_mul_right (by omega) X
  subst eP
  refine ⟨rfl, rfl, ?_⟩
  have hle : (Q1 : Int) * 1 ≤ (Q1 : Int) * Q1 := Int.mul_le_mul_of_nonneg_left (by omega) (by omega)
  rcases Int.lt_trichotomy c1 c2 with l | e | l
  · obtain ⟨t, t0, t1, hl⟩ := sep hp1 hq1 h1 g1 l
    have := h t t0 (by omega)
    omega
  · exact e
  · obtain ⟨t, t0, t1, hl⟩ := sep hp1 hq1 h1 g1 l
    have := h t t0 (by omega)
    omega
/-! ### the loop of the greatest common divisor -/
theorem gI_zero {a : Int} (h : 0 ≤ a) : gI a 0 = a := by
  unfold gI
  rw [Int.gcd_zero_right, Int.natAbs_of_nonneg h]
theorem gI_step {a b : Int} (ha : 0 ≤ a) (hb : 0 < b) : gI b (a.fmod b) = gI a b := by
  rw [Int.fmod_eq_emod_of_nonneg _ (by omega)]
  obtain ⟨A, rfl⟩ : ∃ P : Nat, a = P := ⟨a.toNat, by omega⟩
  obtain ⟨B, rfl⟩ : ∃ P : Nat, b = P := ⟨b.toNat, by omega⟩
  unfold gI
  rw [← Int.natCast_emod, Int.gcd_natCast_natCast, Int.gcd_natCast_natCast, Nat.gcd_comm, ← Nat.gcd_rec, Nat.gcd_comm]
theorem fmod_low {a b : Int} (hb : 0 < b) : 0 ≤ a.fmod b ∧ a.fmod b < b := by
  rw [Int.fmod_eq_emod_of_nonneg _ (by omega)]
  exact ⟨Int.emod_nonneg _ (by omega), Int.emod_lt_of_pos _ hb⟩
end LF
-- LfBase
namespace LF
open PySem PySem.Spec PyProof.Rows L2
/-! ### the text by places -/
def top (i : Nat) : Stmt := PySem.Challenge.pw_leapfit_k03_whole_one_rule_for_each_coun.main.body.getD i (.Pass ⟨0, 0, 0, 0⟩)
abbrev sIsInt : Stmt := top 5
abbrev sGcd : Stmt := top 6
abbrev sIsRed : Stmt := top 7
abbrev sIsRule : Stmt := top 8
abbrev sNeedRule : Stmt := top 10
abbrev sNeedNum : Stmt := top 11
abbrev sIsRule2 : Stmt := top 13
abbrev sReduced : Stmt := top 15
abbrev sRedRule : Stmt := top 16
abbrev sCountAt : Stmt := top 17
abbrev sCount : Stmt := top 18
abbrev sPen : Stmt := top 20
abbrev sDraw : Stmt := top 21
abbrev sPick : Stmt := top 22
abbrev sGreat : Stmt := top 23
abbrev sSigned : Stmt := top 24
abbrev sLGcd : Stmt := top 25
abbrev sLowest : Stmt := top 26
abbrev sRule : Stmt := top 27
abbrev sTimes : Stmt := top 28
abbrev sAlike : Stmt := top 29
abbrev sLaw : Stmt := top 30
abbrev FnP (K : PySem.W.Frag) (x : Str) (st : Stmt) (f : Addr) (fd : FuncData) : Prop := FunD K x x (defArgs st) (defBody st) (defScope st) [] [] f fd
/-- the built-in names that the module leaves alone -/
structure Bi (mg : Str → Option Value) : Prop where
  isi : mg "isinstance" = none
  int : mg "int" = none
  bool : mg "bool" = none
  tup : mg "tuple" = none
  len : mg "len" = none
  all : mg "all" = none
  list : mg "list" = none
  abs : mg "abs" = none
  range : mg "range" = none
  repr : mg "repr" = none
section
variable {P : Program} {w : World} {K : PySem.W.Frag} {mg : Str → Option Value} {base : Heap}
/-- a def without defaults, under the name nm, by its body -/
theorem calOf {nm x : Str} {st : Stmt} {f : Addr} {fd : FuncData} {N ps : List Str} {k : Nat} {sp : Sp} (F : FnP K x st f fd) (g : mg nm = some (.ref f)) (S : FnScope N ps (defScope st))
    (hb : ∀ (kV doc pm : Value) (an : Option Addr) (cdv ct : Value) (us : List Value), us.length = ps.length → bindArgs (PySem.W.fnOf x x (defArgs st) (defBody st) (defScope st) .none kV doc pm an cdv ct) ⟨us, []⟩ = pure (ps.zip us))
    (len : ∀ vs H Q E, sp vs H Q E → vs.length = ps.length)
    (body : ∀ (cdv : Value) (A : Around) (outer : List Env) (s : Shared) (H : Hp) (vs : List V) (Q : VK) (E : XK), Room k (A.deeper (envOfC x (defScope st) s.heap.objs.size f cdv)) → sp vs H Q E →
      ∃ t, PSs (cxOf CX0 P w K mg base N x (defScope st) f cdv A outer s H E).nox (defBody st) t ∧ t { nx := fun _ H' => Q .non H', rt := Q } (start N vs) H) : C8.Cal P w K mg base (k + 1) nm sp [] := by
  refine ⟨f, fd, ps, [], F.ok S len (fun cdv A outer s H vs Q E hr h => ?_), g, F.kp, F.bindsN hb, .nil⟩
  obtain ⟨t, h1, h2⟩ := body cdv A outer s H vs Q E hr h
  exact ⟨t, h1.nox, h2⟩
end
/-! ### promises -/
abbrev tri (p q c : Int) : HO := .tup [.int p, .int q, .int c]
/-- the size of a triple's parts -/
def small (n : Int) : Prop := n.natAbs < 2 ^ 700
def spIsInt : Sp := fun vs H Q _ => ∃ i : Int, vs = [.int i] ∧ Q (.bl true) H
def spGcd : Sp := fun vs H Q _ => ∃ p q : Int, vs = [.int p, .int q] ∧ 0 ≤ p ∧ 0 ≤ q ∧ Q (.int (gI p q)) H
def spIsRed : Sp := fun vs H Q _ => ∃ p q : Int, vs = [.int p, .int q] ∧ 0 ≤ p ∧ 1 ≤ q ∧ gI p q = 1 ∧ Q (.bl true) H
/-- at t stands a rule -/
structure RuleAt (H : Hp) (t : Addr) (p q c : Int) : Prop where
  at_ : H t = some (tri p q c)
  p0 : 0 ≤ p
  q1 : 1 ≤ q
  g1 : gI p q = 1
def spIsRule : Sp := fun vs H Q _ => ∃ (t : Addr) (p q c : Int), vs = [.ref t] ∧ RuleAt H t p q c ∧ ∀ H', Same H H' → Q (.bl true) H'
def spNeedRule : Sp := fun vs H Q _ => ∃ (t : Addr) (p q c : Int), vs = [.ref t] ∧ RuleAt H t p q c ∧ ∀ H', Same H H' → Q .non H'
def spNeedNum : Sp := fun vs H Q _ => ∃ (n : Int) (l : V), vs = [.int n, l, .non] ∧ (l = .non ∨ ∃ m : Int, l = .int m ∧ m ≤ n) ∧ Q .non H
def spReduced : Sp := fun vs H Q _ => ∃ p q c : Int, vs = [.int p, .int q, .int c] ∧ 0 ≤ p ∧ 1 ≤ q ∧ small q ∧ ∀ H' t, Same H H' → H' t = some (tri (rp p q) (rq p q) (rc p q c)) → Q (.ref t) H'
def spCountAt : Sp := fun vs H Q _ => ∃ (t : Addr) (p q c x : Int), vs = [.ref t, .int x] ∧ H t = some (tri p q c) ∧ 1 ≤ q ∧ small p ∧ small q ∧ small x ∧ Q (.int (cn p q c x)) H
def spCount : Sp := fun vs H Q _ => ∃ (t : Addr) (p q c x : Int), vs = [.ref t, .int x] ∧ RuleAt H t p q c ∧ small p ∧ small q ∧ small x ∧ ∀ H', Same H H' → Q (.int (cn p q c x)) H'
end LF
-- LfA
namespace LF
open PySem PySem.Spec PyProof.Rows L2
section
variable {P : Program} {w : World} {K : PySem.W.Frag} {mg : Str → Option Value} {base : Heap} {f : Addr} {fd : FuncData}
theorem scIsInt : FnScope ["value"] ["value"] (defScope sIsInt) := ⟨rfl, rfl, rfl, by decide +kernel, rfl, by decide +kernel, by decide +kernel⟩
theorem ok_isInt (F : FnP K "is_integer" sIsInt f fd) (g : mg "is_integer" = some (.ref f)) (B : Bi mg) : C8.Cal P w K mg base 1 "is_integer" spIsInt [] := by
  refine calOf F g scIsInt (fun _ _ _ _ _ _ us hl => match us, hl with | [_], _ => rfl) (fun vs H Q E h => ?_) (fun cdv A outer s H vs Q E hr h => ?_)
  · obtain ⟨i, rfl, _⟩ := h
    rfl
  · obtain ⟨i, rfl, k⟩ := h
    refine ⟨_, pss_one (ps_ret (pe_and (pe_callB call_isi rfl B.isi (by decide +kernel) (pa_cons (pv 0) (pa_cons (pe_bltn (v := .ty "int") rfl B.int boot_int rfl) pa_nil)))
      (pe_one (pe_not (pe_callB call_isi rfl B.isi (by decide +kernel) (pa_cons (pv 0) (pa_cons (pe_bltn (v := .ty "bool") rfl B.bool (by decide +kernel) rfl) pa_nil))))))), ?_⟩
    refine ⟨_, rfl, .int i, .ty "int", _, _, true, rfl, .ty _, .base (.int i), kit_ty (by decide +kernel), true, rfl, iteT ?_⟩
    refine ⟨_, rfl, .int i, .ty "bool", _, _, false, rfl, .ty _, .base (.int i), kit_ty (by decide +kernel), false, rfl, ?_⟩
    exact k
end
end LF
-- LfB
namespace LF
open PySem PySem.Spec PyProof.Rows L2
/-- what the loop of the greatest common divisor keeps -/
def GW (p q : Int) (H : Hp) (m : Nat) (σ : L2.St) (H' : Hp) : Prop := ∃ a b : Int, σ = [some (.int a), some (.int b)] ∧ 0 ≤ a ∧ 0 ≤ b ∧ b.toNat = m ∧ gI a b = gI p q ∧ H' = H
section
variable {P : Program} {w : World} {K : PySem.W.Frag} {mg : Str → Option Value} {base : Heap} {f : Addr} {fd : FuncData}
theorem scGcd : FnScope ["one", "other"] ["one", "other"] (defScope sGcd) := ⟨rfl, rfl, rfl, by decide +kernel, rfl, by decide +kernel, by decide +kernel⟩
theorem scLGcd : FnScope ["_law_one", "_law_other"] ["_law_one", "_law_other"] (defScope sLGcd) := ⟨rfl, rfl, rfl, by decide +kernel, rfl, by decide +kernel, by decide +kernel⟩
theorem ok_gcd (F : FnP K "common_divisor" sGcd f fd) (g : mg "common_divisor" = some (.ref f)) : C8.Cal P w K mg base 1 "common_divisor" spGcd [] := by
  refine calOf F g scGcd (fun _ _ _ _ _ _ us hl => match us, hl with | [_, _], _ => rfl) (fun vs H Q E h => ?_) (fun cdv A outer s H vs Q E hr h => ?_)
  · obtain ⟨p, q, rfl, _⟩ := h
    rfl
  · obtain ⟨p, q, rfl, p0, q0, k⟩ := h
    refine ⟨_, pss_cons (ps_while PassesOwn.never (pt_cmpR op_gt (pv 1) pe_int (nomark _))
        (pss_one (ps_par (i := 0) (j := 1) (by rfl) scGcd.nd rfl rfl (by decide) rfl rfl (pa_cons (pv 1) (pa_cons (pe_op op_modN (pv 0) (pv 1)) pa_nil)) (by rfl))))
      (pss_one (ps_ret (pv 0))), ?_⟩
    refine ⟨GW p q H, ⟨q.toNat, p, q, rfl, p0, q0, rfl, rfl, rfl⟩, ?_⟩
    rintro m σ H' ⟨a, b, rfl, a0, b0, hm, hg, rfl⟩
    refine ⟨_, rfl, _, _, rfl, rfl, _, rfl, ?_⟩
    refine ite2 (fun hb => ?_) (fun hb => ?_)
    · have hb' : 0 < b := of_decide_eq_true hb
      obtain ⟨l1, l2⟩ := fmod_low (a := a) hb'
      refine ⟨fun σ' H1 => ∃ m', m' < m ∧ GW p q H' m' σ' H1, fun σ' H1 h => h, ?_⟩
      refine ⟨_, rfl, _, rfl, _, rfl, _, _, rfl, rfl, (by show b ≠ 0; omega), _, _, rfl, ?_⟩
      exact ⟨(a.fmod b).toNat, by omega, b, a.fmod b, rfl, b0, l1, rfl, by rw [gI_step a0 hb']; exact hg, rfl⟩
    · have hb' : ¬ 0 < b := fun z => hb (decide_eq_true z)
      have e : b = 0 := by omega
      subst e
      rw [gI_zero a0] at hg
      refine ⟨_, rfl, ?_⟩
      rw [hg]
      exact k
theorem ok_lgcd (F : FnP K "_law_gcd" sLGcd f fd) (g : mg "_law_gcd" = some (.ref f)) : C8.Cal P w K mg base 1 "_law_gcd" spGcd [] := by
  refine calOf F g scLGcd (fun _ _ _ _ _ _ us hl => match us, hl with | [_, _], _ => rfl) (fun vs H Q E h => ?_) (fun cdv A outer s H vs Q E hr h => ?_)
  · obtain ⟨p, q, rfl, _⟩ := h
    rfl
  · obtain ⟨p, q, rfl, p0, q0, k⟩ := h
    refine ⟨_, pss_cons (ps_while PassesOwn.never (pt_cmpR op_gt (pv 1) pe_int (nomark _))
        (pss_one (ps_par (i := 0) (j := 1) (by rfl) scLGcd.nd rfl rfl (by decide) rfl rfl (pa_cons (pv 1) (pa_cons (pe_op op_modN (pv 0) (pv 1)) pa_nil)) (by rfl))))
      (pss_one (ps_ret (pv 0))), ?_⟩
    refine ⟨GW p q H, ⟨q.toNat, p, q, rfl, p0, q0, rfl, rfl, rfl⟩, ?_⟩
    rintro m σ H' ⟨a, b, rfl, a0, b0, hm, hg, rfl⟩
    refine ⟨_, rfl, _, _, rfl, rfl, _, rfl, ?_⟩
    refine ite2 (fun hb => ?_) (fun hb => ?_)
    · have hb' : 0 < b := of_decide_eq_true hb
      obtain ⟨l1, l2⟩ := fmod_low (a := a) hb'
      refine ⟨fun σ' H1 => ∃ m', m' < m ∧ GW p q H' m' σ' H1, fun σ' H1 h => h, ?_⟩
      refine ⟨_, rfl, _, rfl, _, rfl, _, _, rfl, rfl, (by show b ≠ 0; omega), _, _, rfl, ?_⟩
      exact ⟨(a.fmod b).toNat, by omega, b, a.fmod b, rfl, b0, l1, rfl, by rw [gI_step a0 hb']; exact hg, rfl⟩
    · have hb' : ¬ 0 < b := fun z => hb (decide_eq_true z)
      have e : b = 0 := by omega
      subst e
      rw [gI_zero a0] at hg
      refine ⟨_, rfl, ?_⟩
      rw [hg]
      exact k
end
end LF
-- LfC
namespace LF
open PySem PySem.Spec PyProof.Rows L2
section
variable {P : Program} {w : World} {K : PySem.W.Frag} {mg : Str → Option Value} {base : Heap} {f : Addr} {fd : FuncData}
theorem scIsRed : FnScope ["p", "q"] ["p", "q"] (defScope sIsRed) := ⟨rfl, rfl, rfl, by decide +kernel, rfl, by decide +kernel, by decide +kernel⟩
theorem ok_isRed (F : FnP K "is_reduced" sIsRed f fd) (g : mg "is_reduced" = some (.ref f)) (G : C8.Cal P w K mg base 1 "common_divisor" spGcd []) : C8.Cal P w K mg base 2 "is_reduced" spIsRed [] := by
  refine calOf F g scIsRed (fun _ _ _ _ _ _ us hl => match us, hl with | [_, _], _ => rfl) (fun vs H Q E h => ?_) (fun cdv A outer s H vs Q E hr h => ?_)
  · obtain ⟨p, q, rfl, _⟩ := h
    rfl
  · obtain ⟨p, q, rfl, p0, q1, hg, k⟩ := h
    refine ⟨_, pss_one (ps_ret (pe_and (pe_cmpR op_ge (pv 0) pe_int (nomark _)) (pe_and (pe_cmpR op_ge (pv 1) pe_int (nomark _))
      (pe_one (pe_cmpR op_eq (C8.pe_c G hr (Nat.le_refl _) rfl (pa_cons (pv 0) (pa_cons (pv 1) pa_nil))) pe_int (nomark _)))))), ?_⟩
    refine ⟨_, rfl, _, _, rfl, rfl, true, congrArg V.bl (decide_eq_true p0), iteT ?_⟩
    refine ⟨_, rfl, _, _, rfl, rfl, true, congrArg V.bl (decide_eq_true q1), iteT ?_⟩
    refine ⟨_, rfl, _, rfl, p, q, rfl, p0, by omega, rfl, ?_⟩
    rw [hg]
    exact k
theorem scIsRule : FnScope ["value", "part"] ["value"] (defScope sIsRule) := ⟨rfl, rfl, rfl, by decide +kernel, rfl, by decide +kernel, by decide +kernel⟩
theorem ok_isRule (F : FnP K "is_rule" sIsRule f fd) (g : mg "is_rule_numbers" = some (.ref f)) (B : Bi mg) (GI : C8.Cal P w K mg base 1 "is_integer" spIsInt []) (GR : C8.Cal P w K mg base 2 "is_reduced" spIsRed []) :
    C8.Cal P w K mg base 3 "is_rule_numbers" spIsRule [] := by
  refine calOf F g scIsRule (fun _ _ _ _ _ _ us hl => match us, hl with | [_], _ => rfl) (fun vs H Q E h => ?_) (fun cdv A outer s H vs Q E hr h => ?_)
  · obtain ⟨t, p, q, c, rfl, _⟩ := h
    rfl
  · obtain ⟨t, p, q, c, rfl, R, k⟩ := h
    refine ⟨_, pss_one (ps_ret (pe_and (pe_callB call_isi rfl B.isi (by decide +kernel) (pa_cons (pv 0) (pa_cons (pe_bltn (v := .ty "tuple") rfl B.tup (by decide +kernel) rfl) pa_nil)))
      (pe_and (pe_cmpR op_eq (pe_callB call_len_seq rfl B.len boot_len (pa_cons (pv 0) pa_nil)) pe_int (nomark _))
      (pe_and (pe_callB (cr_all rfl) rfl B.all (by decide +kernel) (pa_cons
          (pe_lc (own := [("part", 1)]) (g := gName 1) (tt := tYes) rfl scIsRule.nd (pi_tup (pv 0)) (blkOk_by (N := ["value", "part"]) (sc := defScope sIsRule) (by decide +kernel)) (fun _ _ _ _ _ => pg_name (i := 1) scIsRule.nd rfl (Or.inl rfl)) (fun _ _ _ _ _ => pts_nil)
            (fun _ _ _ _ _ => C8.pe_c GI hr (by decide) rfl (pa_cons (pv 1) pa_nil))) pa_nil))
      (pe_one (C8.pe_c GR hr (Nat.le_refl _) rfl (pa_cons (pe_ix ix_tup (pv 0) pe_int (fun _ _ => rfl)) (pa_cons (pe_ix ix_tup (pv 0) pe_int (fun _ _ => rfl)) pa_nil)))))))), ?_⟩
    refine ⟨_, rfl, .ref t, .ty "tuple", _, _, true, rfl, .ty _, .base (.tup R.at_), kit_ty (by decide +kernel), true, rfl, iteT ?_⟩
    refine ⟨_, rfl, t, _, rfl, .inr (SqT.of R.at_), rfl, true, rfl, iteT ?_⟩
    refine ⟨_, rfl, t, rfl, ⟨_, SqT.of R.at_⟩, fun D hD => ?_⟩
    have nt : t ≠ D := ne_of_none R.at_ hD
    refine lc_tup (K := K) (a := t) (xs := [.int p, .int q, .int c]) (fun i H' => i ≤ 3 ∧ H' D = some (.lst (List.replicate i (.bl true))) ∧ ∀ b, b ≠ D → H' b = H b) ⟨by decide, upd_same, fun b hb => upd_ne hb⟩ (fun i H' _ h => SqT.of ((h.2.2 t nt).trans R.at_)) ?_ ?_
    · rintro i x H' hx ⟨hi, hL, hk⟩
      have hx3 : i < 3 := (List.getElem?_eq_some_iff.mp hx).1
      obtain ⟨n, rfl⟩ : ∃ n, x = V.int n := by
        match i, hx with
        | 0, hx => exact ⟨p, (Option.some.inj hx).symm⟩
        | 1, hx => exact ⟨q, (Option.some.inj hx).symm⟩
        | 2, hx => exact ⟨c, (Option.some.inj hx).symm⟩
        | n + 3, hx => cases hx
      refine ⟨rfl, ?_⟩
      refine ⟨_, rfl, n, rfl, _, hL, ?_, by omega, ?_, fun b hb => (upd_ne hb).trans (hk b hb)⟩
      · rw [List.length_replicate]
        exact small1000 (by omega)
      · rw [upd_same, List.replicate_succ']
    · rintro H' ⟨_, hL, hk⟩
      have hS : Same H H' := fun b o e => by rw [hk b (ne_of_none e hD)]; exact e
      refine ⟨D, [true, true, true], rfl, SqL.of hL, true, rfl, iteT ?_⟩
      have ht := hS _ _ R.at_
      refine ⟨_, rfl, t, _, 0, _, rfl, rfl, SqT.of ht, rfl, _, rfl, t, _, 1, _, rfl, rfl, SqT.of ht, rfl, p, q, rfl, R.p0, R.q1, R.g1, k _ hS⟩
theorem scIsRule2 : FnScope ["value"] ["value"] (defScope sIsRule2) := ⟨rfl, rfl, rfl, by decide +kernel, rfl, by decide +kernel, by decide +kernel⟩
theorem ok_isRule2 (F : FnP K "is_rule" sIsRule2 f fd) (g : mg "is_rule_rules" = some (.ref f)) (G : C8.Cal P w K mg base 3 "is_rule_numbers" spIsRule []) : C8.Cal P w K mg base 4 "is_rule_rules" spIsRule [] := by
  refine calOf F g scIsRule2 (fun _ _ _ _ _ _ us hl => match us, hl with | [_], _ => rfl) (fun vs H Q E h => ?_) (fun cdv A outer s H vs Q E hr h => ?_)
  · obtain ⟨t, p, q, c, rfl, _⟩ := h
    rfl
  · obtain ⟨t, p, q, c, rfl, R, k⟩ := h
    exact ⟨_, pss_one (ps_ret (C8.pe_c G hr (Nat.le_refl _) rfl (pa_cons (pv 0) pa_nil))), _, rfl, t, p, q, c, rfl, R, k⟩
theorem scNeedRule : FnScope ["value"] ["value"] (defScope sNeedRule) := ⟨rfl, rfl, rfl, by decide +kernel, rfl, by decide +kernel, by decide +kernel⟩
theorem ok_needRule (F : FnP K "need_rule" sNeedRule f fd) (g : mg "need_rule" = some (.ref f)) (G : C8.Cal P w K mg base 3 "is_rule_numbers" spIsRule []) : C8.Cal P w K mg base 4 "need_rule" spNeedRule [] := by
  refine calOf F g scNeedRule (fun _ _ _ _ _ _ us hl => match us, hl with | [_], _ => rfl) (fun vs H Q E h => ?_) (fun cdv A outer s H vs Q E hr h => ?_)
  · obtain ⟨t, p, q, c, rfl, _⟩ := h
    rfl
  · obtain ⟨t, p, q, c, rfl, R, k⟩ := h
    refine ⟨_, pss_one (ps_if (pt_not (pt_val (C8.pe_c G hr (Nat.le_refl _) rfl (pa_cons (pv 0) pa_nil)))) (pss_one ps_never) pss_nil), ?_⟩
    refine ⟨_, rfl, t, p, q, c, rfl, R, fun H' hS => ⟨true, rfl, iteF ?_⟩⟩
    exact k _ hS
end
end LF
-- LfD
namespace LF
open PySem PySem.Spec PyProof.Rows L2
abbrev FnNeed (K : PySem.W.Frag) (f : Addr) (fd : FuncData) : Prop := FunD K "need_number" "need_number" (defArgs sNeedNum) (defBody sNeedNum) (defScope sNeedNum) [.non, .non] [] f fd
/-- a def that may be called with one value and one keyword -/
structure CalN (P : Program) (w : World) (K : PySem.W.Frag) (mg : Str → Option Value) (base : Heap) (k : Nat) (x y : Str) (sp : Sp) : Prop where
  ex : ∃ (f : Addr) (fd : FuncData) (ps : List Str) (g : List Value → List Value → List Value), FnOk P w K mg base CX0 k f fd ps sp ∧ mg x = some (.ref f) ∧ PySem.W.keepIn K (.ref f) = true ∧ KBn K fd ps 1 [y] g (fun vs zs => vs ++ zs ++ [V.non])
section
variable {X : Cx} {k j : Nat} {x y : Str} {sp : Sp} {p pos : Pos} {e : Expr} {kws : List Keyword} {t tk : TA}
theorem pe_cn (c : CalN X.prog X.w X.K X.mg X.base k x y sp) (hr : Room j X.A) (hk : k ≤ j) (hg : Gl X x) (ha : PA X [e] t) (hkw : PK X kws tk)
    (hall : (backToKw pos (keywordEach kws X.env)).all (·.1.isSome) = true := by rfl) (hks : (backToKw pos (keywordEach kws X.env)).filterMap (·.1) = [y] := by rfl)
    (hdb : (x == ("__debug__" : Str)) = false := by decide) (he : starEach [e] X.env = (false, eval e X.env) :: starEach [] X.env := by rfl)
    (hpl : ((backTo pos (starEach [e] X.env)).any (·.1) || (backToKw pos (keywordEach kws X.env)).any (·.1.isNone)) = false := by rfl) :
    PE X (.Call (.Name x p) [e] kws pos) (tCallN 1 1 sp (fun vs zs => vs ++ zs ++ [V.non]) E0 t tk) := by
  obtain ⟨f, fd, ps, g, F, hm, kp, b⟩ := c.ex
  exact pe_callN F (hr.mono hk) hg hm kp b pass0 ha hkw hall hks hdb he hpl
end
section
variable {P : Program} {w : World} {K : PySem.W.Frag} {mg : Str → Option Value} {base : Heap} {f : Addr} {fd : FuncData}
theorem scNeedNum : FnScope ["value", "least", "most"] ["value", "least", "most"] (defScope sNeedNum) := ⟨rfl, rfl, rfl, by decide +kernel, rfl, by decide +kernel, by decide +kernel⟩
theorem ok_needNum0 (F : FnNeed K f fd) (GI : C8.Cal P w K mg base 1 "is_integer" spIsInt []) : FnOk P w K mg base CX0 2 f fd ["value", "least", "most"] spNeedNum := by
  refine F.ok scNeedNum (fun vs H Q E h => ?_) (fun cdv A outer s H vs Q E hr h => ?_)
  · obtain ⟨n, l, rfl, _⟩ := h
    rfl
  · obtain ⟨n, l, rfl, hl, k⟩ := h
    suffices h : ∃ t, PSs (cxOf CX0 P w K mg base ["value", "least", "most"] "need_number" (defScope sNeedNum) f cdv A outer s H E).nox (defBody sNeedNum) t ∧ t { nx := fun _ H' => Q .non H', rt := Q } (L2.start ["value", "least", "most"] [.int n, l, .non]) H by
      obtain ⟨t, h1, h2⟩ := h
      exact ⟨t, h1.nox, h2⟩
    refine ⟨_, pss_cons (ps_if (pt_not (pt_val (C8.pe_c GI hr (Nat.le_refl _) rfl (pa_cons (pv 0) pa_nil)))) (pss_one ps_never) pss_nil)
      (pss_one (ps_if (PW.pt (pw_or (PW.pt (pw_and (pt_cmpR op_notN (pv 1) pe_non (nomark _)) (pw_and1 (pt_cmpR op_lt (pv 0) (pv 1) (nomark _)))))
        (pw_or1 (PW.pt (pw_and (pt_cmpR op_notN (pv 2) pe_non (nomark _)) (pw_and1 (pt_cmpR op_gt (pv 0) (pv 2) (nomark _)))))))) (pss_one ps_never) pss_nil)), ?_⟩
    refine ⟨_, rfl, n, rfl, true, rfl, iteF ?_⟩
    refine ⟨_, rfl, rfl, _, rfl, ?_⟩
    rcases hl with rfl | ⟨m, rfl, hm⟩
    · rw [decide_eq_true rfl]
      refine iteF (iteF ⟨_, rfl, rfl, _, rfl, ?_⟩)
      rw [decide_eq_true rfl]
      exact iteF (iteF k)
    · rw [decide_eq_false (by intro z; cases z)]
      refine iteT ⟨_, rfl, _, rfl, _, _, rfl, rfl, _, rfl, ?_⟩
      rw [decide_eq_false (by omega)]
      refine iteF ⟨_, rfl, rfl, _, rfl, ?_⟩
      rw [decide_eq_true rfl]
      exact iteF (iteF k)
theorem ok_need1 (F : FnNeed K f fd) (g : mg "need_number" = some (.ref f)) (GI : C8.Cal P w K mg base 1 "is_integer" spIsInt []) : C8.Cal P w K mg base 2 "need_number" spNeedNum [.non, .non] := by
  obtain ⟨ds, r, b⟩ := F.binds1 (ps := ["value", "least", "most"]) 1 0 (by intro z; cases z) rfl (fun T kV doc pm an cdv ct us its h1 h2 => match us, its, h1, h2 with
    | [_], [_, _], _, _ => ⟨_, rfl, rfl⟩)
  exact ⟨f, fd, _, ds, ok_needNum0 F GI, g, F.kp, b, r⟩
theorem ok_need2 (F : FnNeed K f fd) (g : mg "need_number" = some (.ref f)) (GI : C8.Cal P w K mg base 1 "is_integer" spIsInt []) : CalN P w K mg base 2 "need_number" "least" spNeedNum := by
  have G := ok_needNum0 (P := P) (w := w) (mg := mg) (base := base) F GI
  obtain ⟨oc, od, dV, kV, doc, pm, an, cdv, ct, osl, rfl, lk, hcd, hD, hK⟩ := F.ex
  rcases hD with ⟨e, _⟩ | ⟨_, T, o, its, m, rfl, lT, oT, rT⟩
  · cases e
  · cases rT with
    | cons r1 rT =>
      cases rT with
      | cons r2 rT =>
        cases rT
        cases r1
        cases r2
        refine ⟨f, _, _, fun us ws => us ++ ws ++ [Value.none], G, g, F.kp, ⟨fun s us ws X l1 l2 => ?_, fun r1 r2 => (r1.append r2).append (.cons rfl .nil)⟩⟩
        match us, ws, l1, l2 with
        | [u], [v], _, _ => exact BindsTo.of_looks fun M => looks_items (k := _) X lT oT (.of_pure rfl)
end
end LF
-- LfE
namespace LF
open PySem PySem.Spec PyProof.Rows L2
theorem gI_le {p q : Int} (hq : 1 ≤ q) : (gI p q).natAbs ≤ q.natAbs := by
  have h1 := Int.le_of_dvd (by omega) (gI_dvd_q p q)
  have h2 := gI_pos (p := p) hq
  omega
theorem gI_div {p q : Int} (i : Int) (hq : 1 ≤ q) (hs : small q) : CDivW i (gI p q) :=
  wide_div (b := 700) (by have := gI_pos (p := p) hq; omega) (Nat.lt_of_le_of_lt (gI_le hq) hs) (by decide) (by decide)
section
variable {P : Program} {w : World} {K : PySem.W.Frag} {mg : Str → Option Value} {base : Heap} {f : Addr} {fd : FuncData}
theorem scReduced : FnScope ["p", "q", "c", "divisor"] ["p", "q", "c"] (defScope sReduced) := ⟨rfl, rfl, rfl, by decide +kernel, rfl, by decide +kernel, by decide +kernel⟩
theorem ok_reduced (F : FnP K "reduced" sReduced f fd) (g : mg "reduced" = some (.ref f)) (G : C8.Cal P w K mg base 1 "common_divisor" spGcd []) : C8.Cal P w K mg base 2 "reduced" spReduced [] := by
  refine calOf F g scReduced (fun _ _ _ _ _ _ us hl => match us, hl with | [_, _, _], _ => rfl) (fun vs H Q E h => ?_) (fun cdv A outer s H vs Q E hr h => ?_)
  · obtain ⟨p, q, c, rfl, _⟩ := h
    rfl
  · obtain ⟨p, q, c, rfl, p0, q1, hs, k⟩ := h
    refine ⟨_, pss_cons (ps_set (i := 3) scReduced.nd rfl (Or.inl rfl) (C8.pe_c G hr (Nat.le_refl _) rfl (pa_cons (pv 0) (pa_cons (pv 1) pa_nil))))
      (pss_one (ps_ret (pe_tup (pa_cons (pe_op op_fdivW (pv 0) (pv 3)) (pa_cons (pe_op op_fdivW (pv 1) (pv 3)) (pa_cons (pe_op op_fdivW (pv 2) (pv 3)) pa_nil)))))), ?_⟩
    refine ⟨_, rfl, _, rfl, p, q, rfl, p0, by omega, ?_⟩
    refine ⟨_, rfl, _, rfl, _, _, rfl, rfl, gI_div _ q1 hs, _, rfl, _, rfl, _, _, rfl, rfl, gI_div _ q1 hs, _, rfl, _, rfl, _, _, rfl, rfl, gI_div _ q1 hs, (by show 3 ≤ sizeLine; decide), fun t ht => ?_⟩
    exact k _ t (fun b o e => by rw [upd_ne (ne_of_none e ht)]; exact e) upd_same
theorem scLowest : FnScope ["_law_p", "_law_q", "_law_c", "_law_both"] ["_law_p", "_law_q", "_law_c"] (defScope sLowest) := ⟨rfl, rfl, rfl, by decide +kernel, rfl, by decide +kernel, by decide +kernel⟩
theorem ok_lowest (F : FnP K "_law_lowest" sLowest f fd) (g : mg "_law_lowest" = some (.ref f)) (G : C8.Cal P w K mg base 1 "_law_gcd" spGcd []) : C8.Cal P w K mg base 2 "_law_lowest" spReduced [] := by
  refine calOf F g scLowest (fun _ _ _ _ _ _ us hl => match us, hl with | [_, _, _], _ => rfl) (fun vs H Q E h => ?_) (fun cdv A outer s H vs Q E hr h => ?_)
  · obtain ⟨p, q, c, rfl, _⟩ := h
    rfl
  · obtain ⟨p, q, c, rfl, p0, q1, hs, k⟩ := h
    refine ⟨_, pss_cons (ps_set (i := 3) scLowest.nd rfl (Or.inl rfl) (C8.pe_c G hr (Nat.le_refl _) rfl (pa_cons (pv 0) (pa_cons (pv 1) pa_nil))))
      (pss_one (ps_ret (pe_tup (pa_cons (pe_op op_fdivW (pv 0) (pv 3)) (pa_cons (pe_op op_fdivW (pv 1) (pv 3)) (pa_cons (pe_op op_fdivW (pv 2) (pv 3)) pa_nil)))))), ?_⟩
    refine ⟨_, rfl, _, rfl, p, q, rfl, p0, by omega, ?_⟩
    refine ⟨_, rfl, _, rfl, _, _, rfl, rfl, gI_div _ q1 hs, _, rfl, _, rfl, _, _, rfl, rfl, gI_div _ q1 hs, _, rfl, _, rfl, _, _, rfl, rfl, gI_div _ q1 hs, (by show 3 ≤ sizeLine; decide), fun t ht => ?_⟩
    exact k _ t (fun b o e => by rw [upd_ne (ne_of_none e ht)]; exact e) upd_same
theorem scRedRule : FnScope ["p", "q", "c"] ["p", "q", "c"] (defScope sRedRule) := ⟨rfl, rfl, rfl, by decide +kernel, rfl, by decide +kernel, by decide +kernel⟩
theorem ok_redRule (F : FnP K "reduce_rule" sRedRule f fd) (g : mg "reduce_rule" = some (.ref f)) (N1 : C8.Cal P w K mg base 2 "need_number" spNeedNum [.non, .non]) (N2 : CalN P w K mg base 2 "need_number" "least" spNeedNum)
    (G : C8.Cal P w K mg base 2 "reduced" spReduced []) : C8.Cal P w K mg base 3 "reduce_rule" spReduced [] := by
  refine calOf F g scRedRule (fun _ _ _ _ _ _ us hl => match us, hl with | [_, _, _], _ => rfl) (fun vs H Q E h => ?_) (fun cdv A outer s H vs Q E hr h => ?_)
  · obtain ⟨p, q, c, rfl, _⟩ := h
    rfl
  · obtain ⟨p, q, c, rfl, p0, q1, hs, k⟩ := h
    refine ⟨_, pss_cons (ps_expr (pe_cn N2 hr (Nat.le_refl _) rfl (pa_cons (pv 0) pa_nil) (pk_cons pe_int pk_nil)))
      (pss_cons (ps_expr (pe_cn N2 hr (Nat.le_refl _) rfl (pa_cons (pv 1) pa_nil) (pk_cons pe_int pk_nil)))
      (pss_cons (ps_expr (C8.pe_c N1 hr (Nat.le_refl _) rfl (pa_cons (pv 2) pa_nil)))
      (pss_one (ps_ret (C8.pe_c G hr (Nat.le_refl _) rfl (pa_cons (pv 0) (pa_cons (pv 1) (pa_cons (pv 2) pa_nil)))))))), ?_⟩
    refine ⟨_, rfl, rfl, rfl, p, _, rfl, .inr ⟨0, rfl, p0⟩, ?_⟩
    refine ⟨_, rfl, rfl, rfl, q, _, rfl, .inr ⟨1, rfl, q1⟩, ?_⟩
    refine ⟨_, rfl, c, _, rfl, .inl rfl, ?_⟩
    exact ⟨_, rfl, _, rfl, _, rfl, p, q, c, rfl, p0, q1, hs, k⟩
theorem scCountAt : FnScope ["rule", "time", "p", "q", "c"] ["rule", "time"] (defScope sCountAt) := ⟨rfl, rfl, rfl, by decide +kernel, rfl, by decide +kernel, by decide +kernel⟩
theorem ok_countAt (F : FnP K "count_at" sCountAt f fd) (g : mg "count_at" = some (.ref f)) : C8.Cal P w K mg base 1 "count_at" spCountAt [] := by
  refine calOf F g scCountAt (fun _ _ _ _ _ _ us hl => match us, hl with | [_, _], _ => rfl) (fun vs H Q E h => ?_) (fun cdv A outer s H vs Q E hr h => ?_)
  · obtain ⟨t, p, q, c, x, rfl, _⟩ := h
    rfl
  · obtain ⟨t, p, q, c, x, rfl, ht, q1, sp, sq, sx, k⟩ := h
    refine ⟨_, pss_cons (ps_asg (pv 0) (pg_tup rfl (pgs_cons (pg_name (i := 2) scCountAt.nd rfl (.inl rfl)) (pgs_cons (pg_name (i := 3) scCountAt.nd rfl (.inl rfl)) (pgs_cons (pg_name (i := 4) scCountAt.nd rfl (.inl rfl)) pgs_nil)))))
      (pss_one (ps_ret (pe_op op_fdivW (pe_op op_add (pe_op op_mulW (pv 2) (pv 1)) (pv 4)) (pv 3)))), ?_⟩
    refine ⟨_, rfl, t, _, rfl, SqT.of ht, rfl, _, _, rfl, ?_⟩
    refine ⟨_, _, rfl, _, _, rfl, rfl, ?_⟩
    refine ⟨_, rfl, _, rfl, _, _, rfl, rfl, wide_mul sp sx (by decide) (by decide) (by decide), _, rfl, _, _, rfl, rfl, _, rfl, _, _, rfl, rfl, wide_div (by omega) sq (by decide) (by decide), ?_⟩
    exact k
theorem scCount : FnScope ["rule", "time"] ["rule", "time"] (defScope sCount) := ⟨rfl, rfl, rfl, by decide +kernel, rfl, by decide +kernel, by decide +kernel⟩
theorem RuleAt.same {H H' : Hp} {t : Addr} {p q c : Int} (R : RuleAt H t p q c) (s : Same H H') : RuleAt H' t p q c := ⟨s _ _ R.at_, R.p0, R.q1, R.g1⟩
theorem ok_count (F : FnP K "count" sCount f fd) (g : mg "count" = some (.ref f)) (N1 : C8.Cal P w K mg base 2 "need_number" spNeedNum [.non, .non]) (NR : C8.Cal P w K mg base 4 "need_rule" spNeedRule []) (G : C8.Cal P w K mg base 1 "count_at" spCountAt []) :
    C8.Cal P w K mg base 5 "count" spCount [] := by
  refine calOf F g scCount (fun _ _ _ _ _ _ us hl => match us, hl with | [_, _], _ => rfl) (fun vs H Q E h => ?_) (fun cdv A outer s H vs Q E hr h => ?_)
  · obtain ⟨t, p, q, c, x, rfl, _⟩ := h
    rfl
  · obtain ⟨t, p, q, c, x, rfl, R, sp, sq, sx, k⟩ := h
    refine ⟨_, pss_cons (ps_expr (C8.pe_c NR hr (Nat.le_refl _) rfl (pa_cons (pv 0) pa_nil)))
      (pss_cons (ps_expr (C8.pe_c N1 hr (by decide) rfl (pa_cons (pv 1) pa_nil)))
      (pss_one (ps_ret (C8.pe_c G hr (by decide) rfl (pa_cons (pv 0) (pa_cons (pv 1) pa_nil)))))), ?_⟩
    refine ⟨_, rfl, t, p, q, c, rfl, R, fun H1 s1 => ?_⟩
    refine ⟨_, rfl, x, _, rfl, .inl rfl, ?_⟩
    exact ⟨_, rfl, _, rfl, t, p, q, c, x, rfl, (R.same s1).at_, R.q1, sp, sq, sx, k _ s1⟩
end
end LF
-- LfPen
namespace LF
open PySem PySem.Spec PyProof.Rows L2
/-! ### the pen: the source of drawn numbers -/
theorem ne_ct : ¬ (("cells" : Str) = "turn") := by decide +kernel
theorem ne_cr : ¬ (("cells" : Str) = "rest") := by decide +kernel
theorem ne_tr : ¬ (("turn" : Str) = "rest") := by decide +kernel
def kC : Key := .inr "cells"
def kT : Key := .inr "turn"
def kR : Key := .inr "rest"
theorem kCT : ¬ kC = kT := fun z => ne_ct (Sum.inr.inj z)
theorem kCR : ¬ kC = kR := fun z => ne_cr (Sum.inr.inj z)
theorem kTR : ¬ kT = kR := fun z => ne_tr (Sum.inr.inj z)
theorem kTC : ¬ kT = kC := fun z => kCT z.symm
theorem kRC : ¬ kR = kC := fun z => kCR z.symm
theorem kRT : ¬ kR = kT := fun z => kTR z.symm
def penK (l : Addr) (t r : Int) : List (Key × V) := [(kC, .ref l), (kT, .int t), (kR, .int r)]
theorem val_c (l : Addr) (t r : Int) : valV (penK l t r) kC = some (.ref l) := valV_pos rfl
theorem val_t (l : Addr) (t r : Int) : valV (penK l t r) kT = some (.int t) := (valV_neg kCT).trans (valV_pos rfl)
theorem val_r (l : Addr) (t r : Int) : valV (penK l t r) kR = some (.int r) := (valV_neg kCR).trans ((valV_neg kTR).trans (valV_pos rfl))
theorem put_t (l : Addr) (t r n : Int) : putK (penK l t r) kT (.int n) = penK l n r := by
  unfold putK penK
  simp [kCT, kRT]
theorem put_r (l : Addr) (t r n : Int) : putK (penK l t r) kR (.int n) = penK l t n := by
  unfold putK penK
  simp [kCR, kTR]
theorem merge_pen (l : Addr) (t r : Int) : mergeK [] (penK l t r) = penK l t r := by
  unfold mergeK penK
  simp [putK, kCT, kTC, kCR, kRC, kTR, kRT]
/-- a pen at d, used at most T times; the cells are the list at l -/
structure Pen (H : Hp) (d : Addr) (T : Int) : Prop where
  ex : ∃ (l : Addr) (ns : List Int) (t r : Int), H d = some (.dK (penK l t r)) ∧ H l = some (.lst (ns.map V.int)) ∧ ns.length ≤ 63 ∧ 0 ≤ t ∧ t ≤ T ∧ 0 ≤ r
/-- all but the pen stands as before -/
def Keep (d : Addr) (H H' : Hp) : Prop := ∀ b o, b ≠ d → H b = some o → H' b = some o
theorem Keep.refl (d : Addr) (H : Hp) : Keep d H H := fun _ _ _ e => e
theorem Keep.trans {d : Addr} {H H1 H2 : Hp} (a : Keep d H H1) (b : Keep d H1 H2) : Keep d H H2 := fun c o n e => b c o n (a c o n e)
theorem Keep.of {d : Addr} {H H' : Hp} (s : Same H H') : Keep d H H' := fun b o _ e => s b o e
theorem Keep.then {d : Addr} {H H1 H2 : Hp} (a : Keep d H H1) (s : Same H1 H2) : Keep d H H2 := a.trans (.of s)
theorem Same.laid {H : Hp} {p : Addr} {o : HO} (h : H p = none) : Same H (upd H p o) := fun b u e => by rw [upd_ne (ne_of_none e h)]; exact e
theorem Pen.ne {H : Hp} {d b : Addr} {T : Int} {o : HO} (P : Pen H d T) (h : H b = some o) (n : ∀ kvs, o ≠ .dK kvs) : b ≠ d := by
  obtain ⟨l, ns, t, r, e, _⟩ := P.ex
  exact ne_of h e (n _)
theorem Keep.tup {d b : Addr} {T : Int} {H H' : Hp} {xs : List V} (k : Keep d H H') (P : Pen H d T) (h : H b = some (.tup xs)) : H' b = some (.tup xs) := k b _ (P.ne h fun _ z => by cases z) h
theorem Keep.lst {d b : Addr} {T : Int} {H H' : Hp} {xs : List V} (k : Keep d H H') (P : Pen H d T) (h : H b = some (.lst xs)) : H' b = some (.lst xs) := k b _ (P.ne h fun _ z => by cases z) h
theorem Pen.same {H H' : Hp} {d : Addr} {T : Int} (P : Pen H d T) (s : Same H H') : Pen H' d T := by
  obtain ⟨l, ns, t, r, e1, e2, e3⟩ := P.ex
  exact ⟨l, ns, t, r, s _ _ e1, s _ _ e2, e3⟩
theorem Pen.mono {H : Hp} {d : Addr} {T U : Int} (P : Pen H d T) (h : T ≤ U) : Pen H d U := by
  obtain ⟨l, ns, t, r, e1, e2, e3, e4, e5, e6⟩ := P.ex
  exact ⟨l, ns, t, r, e1, e2, e3, e4, by omega, e6⟩
theorem get_c {H : Hp} {d l : Addr} {t r : Int} (h : H d = some (.dK (penK l t r))) : DGet H d (.str "cells") (some (.ref l)) := by
  have e := DGet.k (k := kC) h
  rw [val_c] at e
  exact e
theorem get_t {H : Hp} {d l : Addr} {t r : Int} (h : H d = some (.dK (penK l t r))) : DGet H d (.str "turn") (some (.int t)) := by
  have e := DGet.k (k := kT) h
  rw [val_t] at e
  exact e
theorem get_r {H : Hp} {d l : Addr} {t r : Int} (h : H d = some (.dK (penK l t r))) : DGet H d (.str "rest") (some (.int r)) := by
  have e := DGet.k (k := kR) h
  rw [val_r] at e
  exact e
theorem dput_t {H : Hp} {d l : Addr} {t r n : Int} (h : H d = some (.dK (penK l t r))) : DPut H d (.str "turn") (.int n) (upd H d (.dK (penK l n r))) := by
  have e := DPut.k (k := kT) (v := .int n) h (by show 3 < sizeLine; decide)
  rw [put_t] at e
  exact e
theorem dput_r {H : Hp} {d l : Addr} {t r n : Int} (h : H d = some (.dK (penK l t r))) : DPut H d (.str "rest") (.int n) (upd H d (.dK (penK l t n))) := by
  have e := DPut.k (k := kR) (v := .int n) h (by show 3 < sizeLine; decide)
  rw [put_r] at e
  exact e
theorem Keep.put {d : Addr} {H : Hp} {o : HO} : Keep d H (upd H d o) := fun b u n e => by rw [upd_ne n]; exact e
/-! ### promises of the law's own defs that draw -/
def spPen (K : PySem.W.Frag) : Sp := fun vs H Q _ => ∃ (a : Addr) (ns : List Int), vs = [.ref a] ∧ SqL K H a (ns.map V.int) ∧ ns.length ≤ 63 ∧ ∀ H' d, Same H H' → Pen H' d 0 → Q (.ref d) H'
def spDraw : Sp := fun vs H Q _ => ∃ (d : Addr) (m T : Int), vs = [.ref d, .int m] ∧ Pen H d T ∧ T ≤ 1000000 ∧ 1 ≤ m ∧ m ≤ 1000000 ∧ ∀ H' r, Keep d H H' → Pen H' d (T + 1) → 0 ≤ r → r < m → Q (.int r) H'
def spPick : Sp := fun vs H Q _ => ∃ (d o : Addr) (os : List Int) (T : Int), vs = [.ref d, .ref o] ∧ Pen H d T ∧ T ≤ 1000000 ∧ H o = some (.lst (os.map V.int)) ∧ 1 ≤ os.length ∧ os.length ≤ 1000 ∧ ∀ H' r, Keep d H H' → Pen H' d (T + 1) → r ∈ os → Q (.int r) H'
def spGreat : Sp := fun vs H Q _ => ∃ (d : Addr) (g T : Int), vs = [.ref d, .int g] ∧ Pen H d T ∧ T ≤ 900000 ∧ 6 ≤ g ∧ g ≤ 198 ∧ ∀ H' r, Keep d H H' → Pen H' d (T + 40) → 0 ≤ r → r.natAbs < 10 ^ 198 → Q (.int r) H'
def spSigned : Sp := fun vs H Q _ => ∃ (d : Addr) (g T : Int), vs = [.ref d, .int g] ∧ Pen H d T ∧ T ≤ 800000 ∧ 6 ≤ g ∧ g ≤ 198 ∧ ∀ H' r, Keep d H H' → Pen H' d (T + 50) → r.natAbs < 10 ^ 198 → Q (.int r) H'
/-! ### items of lists of ints -/
theorem at_int {ns : List Int} {i : Int} (h0 : 0 ≤ i) (h1 : i < ns.length) : ∃ m, m ∈ ns ∧ atI (ns.map V.int) i = some (V.int m) := by
  obtain ⟨j, rfl⟩ : ∃ j : Nat, i = j := ⟨i.toNat, by omega⟩
  have hj : j < ns.length := by omega
  refine ⟨ns[j], List.getElem_mem hj, atI_nat ?_⟩
  rw [List.getElem?_map, List.getElem?_eq_getElem hj]
  rfl
theorem shaped_ints (ns : List Int) : SeqAt.shaped (.list (ns.map PyData.int)) = true := by
  have h1 : ∀ l : List Int, PyData.canLayAll0 (l.map PyData.int) = true := fun l => by
    induction l with
    | nil => rfl
    | cons a l ih => rw [List.map_cons, PyData.canLayAll0, PyData.canLay0, ih]; rfl
  have h2 : ∀ l : List Int, PyData.depthAll (l.map PyData.int) = 0 := fun l => by
    induction l with
    | nil => rfl
    | cons a l ih => rw [List.map_cons, PyData.depthAll, PyData.depth, ih]; rfl
  unfold SeqAt.shaped
  rw [PyData.canLay0, h1, PyData.depth, h2]
  rfl
theorem dp_ints {K : PySem.W.Frag} {H : Hp} : ∀ ns : List Int, DpAll K H (ns.map V.int) (ns.map PyData.int)
  | [] => .nil
  | n :: ns => .cons (.int n) (dp_ints ns)
theorem cut_ints (ns : List Int) (lo hi : Option Int) : ∃ ms : List Int, cutV (ns.map V.int) lo hi = ms.map V.int ∧ ms.length ≤ ns.length := by
  unfold cutV
  refine ⟨(ns.drop (HT.sIx (ns.map V.int).length 0 lo)).take (HT.sIx (ns.map V.int).length (ns.map V.int).length hi - HT.sIx (ns.map V.int).length 0 lo), ?_, ?_⟩
  · rw [List.map_take, List.map_drop]
  · rw [List.length_take, List.length_drop]
    omega
section
variable {P : Program} {w : World} {K : PySem.W.Frag} {mg : Str → Option Value} {base : Heap} {f : Addr} {fd : FuncData}
theorem scPen : FnScope ["_law_script"] ["_law_script"] (defScope sPen) := ⟨rfl, rfl, rfl, by decide +kernel, rfl, by decide +kernel, by decide +kernel⟩
theorem ok_pen (F : FnP K "_law_pen" sPen f fd) (g : mg "_law_pen" = some (.ref f)) (B : Bi mg) : C8.Cal P w K mg base 1 "_law_pen" (spPen K) [] := by
  refine calOf F g scPen (fun _ _ _ _ _ _ us hl => match us, hl with | [_], _ => rfl) (fun vs H Q E h => ?_) (fun cdv A outer s H vs Q E hr h => ?_)
  · obtain ⟨a, ns, rfl, _⟩ := h
    rfl
  · obtain ⟨a, ns, rfl, hS, hl, k⟩ := h
    refine ⟨_, pss_one (ps_ret (pe_disp (pps_cons pe_str (pe_callTy call_list_of rfl B.list (by decide +kernel) (pa_cons (pe_slice sl_list (pv 0) po_none (po_some pe_int)) pa_nil)) (pps_cons pe_str pe_int (pps_cons pe_str pe_int pps_nil))) (by rfl) (by rfl) (fun z => by cases z) (by decide))), ?_⟩
    refine fun p hp => ?_
    have s1 : Same H (upd H p (.dK [])) := Same.laid hp
    obtain ⟨ms, em, lm⟩ := cut_ints ns none (some 63)
    refine ⟨_, rfl, 63, rfl, a, _, rfl, s1.seq hS, fun l1 hl1 => ?_⟩
    rw [em]
    have s2 := s1.trans (Same.laid (o := .lst (ms.map V.int)) hl1)
    have np1 : p ≠ l1 := fun z => by rw [← z, upd_same] at hl1; cases hl1
    refine ⟨l1, ms.map V.int, rfl, .inl (SqL.of upd_same), fun l2 hl2 => ?_⟩
    have np2 : p ≠ l2 := fun z => by rw [← z, upd_ne np1, upd_same] at hl2; cases hl2
    have s3 := s2.trans (Same.laid (o := .lst (ms.map V.int)) hl2)
    refine ⟨?_, penK l2 0 0, rfl, (by show 3 ≤ 15; decide), ?_⟩
    · rw [upd_ne np2, upd_ne np1, upd_same]
    · rw [merge_pen]
      refine k _ p (fun b o e => ?_) ⟨l2, ms, 0, 0, upd_same, ?_, by omega, by omega, by omega, by omega⟩
      · rw [upd_ne (ne_of_none e hp)]
        exact s3 b o e
      · rw [upd_ne (Ne.symm np2), upd_same]
end
end LF
-- LfDraw
namespace LF
open PySem PySem.Spec PyProof.Rows L2
def primes : List Int := [2147483647, 2147483629, 2147483587, 2147483579, 2147483563]
theorem primes_in {m : Int} (h : m ∈ primes) : 0 < m ∧ m < 2147483648 := by
  unfold primes at h
  simp only [List.mem_cons, List.not_mem_nil, or_false] at h
  omega
section
variable {P : Program} {w : World} {K : PySem.W.Frag} {mg : Str → Option Value} {base : Heap} {f : Addr} {fd : FuncData}
/-- around the second test: the cell is any int -/
def DrMid (d : Addr) (m T : Int) (H : Hp) (σ : L2.St) (H' : Hp) : Prop := ∃ (l : Addr) (ns : List Int) (t r c : Int), σ = [some (.ref d), some (.int m), none, some (.int t), some (.int c), none, none, none] ∧
  H' d = some (.dK (penK l (t + 1) r)) ∧ H' l = some (.lst (ns.map V.int)) ∧ ns.length ≤ 63 ∧ 0 ≤ t ∧ t ≤ T ∧ 0 ≤ r ∧ Keep d H H'
theorem scDraw : FnScope ["_law_pen_here", "_law_many", "_law_digit", "_law_turn", "_law_cell", "_law_primes", "_law_prime", "_law_drawn"] ["_law_pen_here", "_law_many"] (defScope sDraw) := ⟨rfl, rfl, rfl, by decide +kernel, rfl, by decide +kernel, by decide +kernel⟩
theorem ok_draw (F : FnP K "_law_draw" sDraw f fd) (g : mg "_law_draw" = some (.ref f)) (B : Bi mg) : C8.Cal P w K mg base 1 "_law_draw" spDraw [] := by
  refine calOf F g scDraw (fun _ _ _ _ _ _ us hl => match us, hl with | [_, _], _ => rfl) (fun vs H Q E h => ?_) (fun cdv A outer s H vs Q E hr h => ?_)
  · obtain ⟨d, m, T, rfl, _⟩ := h
    rfl
  · obtain ⟨d, m, T, rfl, ⟨l, ns, t, r, hd, hL, hn, t0, tT, r0⟩, hT, m1, m2, k⟩ := h
    have hu := hu_of hr
    refine ⟨_, (pss_cons (ps_if (pt_cmpR op_gt (pe_dget hu (pv 0) pe_str (fun _ _ => rfl)) pe_int (nomark _))
        (pss_cons (ps_set (i := 2) scDraw.nd rfl (Or.inl rfl) (pe_op op_mod (pe_dget hu (pv 0) pe_str (fun _ _ => rfl)) (pv 1)))
      (pss_cons (ps_dput hu (pv 0) pe_str (pe_op op_fdiv (pe_dget hu (pv 0) pe_str (fun _ _ => rfl)) (pv 1)) rfl)
      (pss_one (ps_ret (pv 2))))) pss_nil)
      (pss_cons (ps_set (i := 3) scDraw.nd rfl (Or.inl rfl) (pe_dget hu (pv 0) pe_str (fun _ _ => rfl)))
      (pss_cons (ps_dput hu (pv 0) pe_str (pe_op op_add (pv 3) pe_int) rfl)
      (pss_cons (ps_set (i := 4) scDraw.nd rfl (Or.inl rfl) (pe_op op_add (pe_op op_mul pe_int (pv 3)) pe_int))
      (C8.pss_cut (ps_if (pt_cmpR (op_neD hr.units) (pe_dget hu (pv 0) pe_str (fun _ _ => rfl)) (pe_lst pa_nil) (nomark _))
        (pss_one (ps_set (i := 4) scDraw.nd rfl (Or.inl rfl) (pe_ix ix_list (pe_dget hu (pv 0) pe_str (fun _ _ => rfl)) (pe_op op_mod (pv 3) (pe_callB call_len_seq rfl B.len boot_len (pa_cons (pe_dget hu (pv 0) pe_str (fun _ _ => rfl)) pa_nil))) (fun _ _ => rfl)))) pss_nil)
      (C8.pss_cut (ps_if (PW.pt (pw_and (pt_cmpR op_lt (pv 3) (pe_callB call_len_seq rfl B.len boot_len (pa_cons (pe_dget hu (pv 0) pe_str (fun _ _ => rfl)) pa_nil)) (nomark _))
          (pw_and1 (pt_cmpR op_ge (pe_callB call_abs rfl B.abs (by decide +kernel) (pa_cons (pv 4) pa_nil)) (pe_op op_pow pe_int pe_int) (nomark _)))))
        (pss_cons (ps_dput hu (pv 0) pe_str (pe_op op_fdiv (pe_op op_sub (pe_callB call_abs rfl B.abs (by decide +kernel) (pa_cons (pv 4) pa_nil)) (pe_op op_pow pe_int pe_int)) (pv 1)) rfl)
      (pss_one (ps_ret (pe_op op_mod (pe_op op_sub (pe_callB call_abs rfl B.abs (by decide +kernel) (pa_cons (pv 4) pa_nil)) (pe_op op_pow pe_int pe_int)) (pv 1))))) pss_nil)
      (pss_cons (ps_set (i := 5) scDraw.nd rfl (Or.inl rfl) (pe_lst (pa_cons pe_int (pa_cons pe_int (pa_cons pe_int (pa_cons pe_int (pa_cons pe_int pa_nil)))))))
      (pss_cons (ps_set (i := 6) scDraw.nd rfl (Or.inl rfl) (pe_ix ix_list (pv 5) (pe_op op_mod (pv 3) pe_int) (fun _ _ => rfl)))
      (pss_cons (ps_set (i := 7) scDraw.nd rfl (Or.inl rfl) (pe_op op_mod (pe_op op_add (pe_op op_add (pe_op op_mul (pe_op op_mod (pv 4) (pv 6)) pe_int) (pe_op op_mul (pe_op op_mul pe_int (pv 3)) (pv 3))) pe_int) (pv 6)))
      (pss_cons (ps_set (i := 7) scDraw.nd rfl (Or.inl rfl) (pe_op op_mod (pe_op op_mul (pv 7) (pe_op op_add (pv 7) pe_int)) (pe_ix ix_list (pv 5) (pe_op op_mod (pe_op op_add (pv 3) pe_int) pe_int) (fun _ _ => rfl))))
      (pss_one (ps_ret (pe_op op_mod (pe_op op_fdiv (pe_op op_mod (pe_op op_mul (pv 7) (pv 7)) pe_int) pe_int) (pv 1)))))))))))))), ?_⟩
    -- if pen['rest'] > 0
    refine ⟨_, rfl, d, _, rfl, get_r hd, _, _, rfl, rfl, _, rfl, ?_⟩
    refine ite2 (fun hb => ?_) (fun hb => ?_)
    · refine ⟨_, rfl, d, _, rfl, get_r hd, _, rfl, _, _, rfl, rfl, (by show 0 < m; omega), ?_⟩
      refine ⟨_, rfl, d, _, rfl, get_r hd, _, rfl, _, _, rfl, rfl, ⟨by omega, by omega⟩, ?_⟩
      refine ⟨_, rfl, d, _, rfl, dput_r hd, ?_⟩
      refine ⟨_, rfl, ?_⟩
      have nl : l ≠ d := ne_of hL hd (by intro z; cases z)
      exact k _ _ Keep.put ⟨l, ns, t, r / m, upd_same, (upd_ne nl).trans hL, hn, t0, by omega, Int.ediv_nonneg r0 (by omega)⟩ (Int.emod_nonneg _ (by omega)) (Int.emod_lt_of_pos _ (by omega))
    · -- turn = pen['turn']; pen['turn'] = turn + 1; cell = 43 * turn + 19
      refine ⟨_, rfl, d, _, rfl, get_t hd, ?_⟩
      refine ⟨_, rfl, _, _, rfl, rfl, _, rfl, d, _, rfl, dput_t hd, ?_⟩
      refine ⟨_, rfl, _, _, rfl, rfl, .inl ⟨by omega, by omega⟩, _, _, rfl, rfl, ?_⟩
      have nl : l ≠ d := ne_of hL hd (by intro z; cases z)
      have hL1 : upd H d (.dK (penK l (t + 1) r)) l = some (.lst (ns.map V.int)) := (upd_ne nl).trans hL
      refine ⟨DrMid d m T H, ?_, ?_⟩
      · -- if pen['cells'] != []
        refine ⟨_, rfl, d, _, rfl, get_c upd_same, Nat.zero_le _, fun p hp => ?_⟩
        have s2 : Same (upd H d (.dK (penK l (t + 1) r))) (upd (upd H d (.dK (penK l (t + 1) r))) p (.lst [])) := Same.laid hp
        have hd2 := s2 d _ upd_same
        have hL2 := s2 l _ hL1
        have k2 : Keep d H (upd (upd H d (.dK (penK l (t + 1) r))) p (.lst [])) := Keep.put.then s2
        refine ⟨.list (ns.map PyData.int), .list [], .lst (SqL.of hL2) (dp_ints ns), .lst (SqL.of upd_same) .nil, shaped_ints ns, rfl, _, rfl, ?_⟩
        refine ite2 (fun hb => ?_) (fun hb => ?_)
        · have hne : ns ≠ [] := fun z => by
            subst z
            cases hb
          have hpos : 0 < ns.length := List.length_pos_iff.mpr hne
          obtain ⟨c, _, hc⟩ := at_int (ns := ns) (i := t % (ns.length : Int)) (Int.emod_nonneg _ (by omega)) (Int.emod_lt_of_pos _ (by omega))
          refine ⟨_, rfl, d, _, rfl, get_c hd2, _, rfl, _, rfl, d, _, rfl, get_c hd2, l, ns.map V.int, rfl, .inl (SqL.of hL2), _, _, rfl, rfl, (by show (0 : Int) < _; rw [List.length_map]; omega), l, ns.map V.int, _, _, rfl, rfl, SqL.of hL2, (by rw [List.length_map]; exact hc), ?_⟩
          exact ⟨l, ns, t, r, c, rfl, hd2, hL2, hn, t0, tT, r0, k2⟩
        · exact ⟨l, ns, t, r, _, rfl, hd2, hL2, hn, t0, tT, r0, k2⟩
      · rintro σ' H1 ⟨l, ns, t, r, c, rfl, hd, hL, hn, t0, tT, r0, kp⟩
        have nl : l ≠ d := ne_of hL hd (by intro z; cases z)
        refine ⟨DrMid d m T H, ?_, ?_⟩
        · -- if turn < len(pen['cells']) and abs(cell) >= 10 ** 18
          refine ⟨_, rfl, _, rfl, d, _, rfl, get_c hd, l, ns.map V.int, rfl, .inl (SqL.of hL), _, _, rfl, rfl, _, rfl, ?_⟩
          have mid : DrMid d m T H [some (.ref d), some (.int m), none, some (.int t), some (.int c), none, none, none] H1 := ⟨l, ns, t, r, c, rfl, hd, hL, hn, t0, tT, r0, kp⟩
          refine ite2 (fun hb => ?_) (fun hb => iteF mid)
          refine ⟨_, rfl, c, rfl, _, _, rfl, rfl, ⟨by decide, by decide, by decide⟩, _, _, rfl, rfl, _, rfl, ?_⟩
          refine ite2 (fun hb => ?_) (fun hb => mid)
          have hge : (10 : Int) ^ (18 : Int).toNat ≤ if c < 0 then -c else c := of_decide_eq_true hb
          refine ⟨_, rfl, c, rfl, _, _, rfl, rfl, ⟨by decide, by decide, by decide⟩, _, _, rfl, rfl, _, rfl, _, _, rfl, rfl, ⟨by omega, by omega⟩, ?_⟩
          refine ⟨_, rfl, d, _, rfl, dput_r hd, ?_⟩
          refine ⟨_, rfl, c, rfl, _, _, rfl, rfl, ⟨by decide, by decide, by decide⟩, _, _, rfl, rfl, _, rfl, _, _, rfl, rfl, (by show 0 < m; omega), ?_⟩
          exact k _ _ (kp.trans Keep.put) ⟨l, ns, t + 1, _, upd_same, (upd_ne nl).trans hL, hn, by omega, by omega, Int.ediv_nonneg (by omega) (by omega)⟩ (Int.emod_nonneg _ (by omega)) (Int.emod_lt_of_pos _ (by omega))
        · rintro σ' H1 ⟨l, ns, t, r, c, rfl, hd, hL, hn, t0, tT, r0, kp⟩
          refine ⟨(by show 5 ≤ sizeLine; decide), fun p hp => ?_⟩
          have s1 := Same.laid (o := .lst (primes.map V.int)) hp
          obtain ⟨m1, i1, a1⟩ := at_int (ns := primes) (i := t % 5) (by omega) (by show t % 5 < 5; omega)
          obtain ⟨m2, i2, a2⟩ := at_int (ns := primes) (i := (t + 2) % 5) (by omega) (by show (t + 2) % 5 < 5; omega)
          have b1 := primes_in i1
          have b2 := primes_in i2
          refine ⟨_, rfl, _, rfl, _, _, rfl, rfl, (by show (0 : Int) < 5; decide), p, _, _, _, rfl, rfl, SqL.of upd_same, a1, ?_⟩
          have c0 : 0 ≤ c % m1 := Int.emod_nonneg _ (by omega)
          have c1 : c % m1 < m1 := Int.emod_lt_of_pos _ (by omega)
          refine ⟨_, rfl, _, rfl, _, _, rfl, rfl, (by show 0 < m1; omega), _, _, rfl, rfl, .inr ⟨by omega, by omega⟩, ?_⟩
          refine ⟨_, rfl, _, _, rfl, rfl, .inl ⟨by omega, by omega⟩, _, rfl, _, _, rfl, rfl, .inl ⟨by omega, by omega⟩, _, _, rfl, rfl, _, _, rfl, rfl, _, rfl, _, _, rfl, rfl, (by show 0 < m1; omega), ?_⟩
          generalize hx : (c % m1 * 48271 + 40609 * t * t + 23) % m1 = x
          have x0 : 0 ≤ x := by rw [← hx]; exact Int.emod_nonneg _ (by omega)
          have x1 : x < m1 := by rw [← hx]; exact Int.emod_lt_of_pos _ (by omega)
          refine ⟨_, rfl, _, rfl, _, _, rfl, rfl, _, _, rfl, rfl, .inl ⟨by omega, by omega⟩, _, rfl, _, rfl, _, _, rfl, rfl, _, _, rfl, rfl, (by show (0 : Int) < 5; decide), p, _, _, _, rfl, rfl, SqL.of upd_same, a2, _, _, rfl, rfl, (by show 0 < m2; omega), ?_⟩
          generalize hy : x * (x + 69621) % m2 = y
          have y0 : 0 ≤ y := by rw [← hy]; exact Int.emod_nonneg _ (by omega)
          have y1 : y < m2 := by rw [← hy]; exact Int.emod_lt_of_pos _ (by omega)
          refine ⟨_, rfl, _, rfl, _, _, rfl, rfl, .inl ⟨by rw [hx, hy]; omega, by rw [hx, hy]; omega⟩, _, _, rfl, rfl, (by show (0 : Int) < 2147483549; decide), _, _, rfl, rfl, ⟨by decide, by decide⟩, _, rfl, _, _, rfl, rfl, (by show 0 < m; omega), ?_⟩
          exact k _ _ (kp.then s1) ⟨l, ns, t + 1, r, s1 _ _ hd, s1 _ _ hL, hn, by omega, by omega, r0⟩ (Int.emod_nonneg _ (by omega)) (Int.emod_lt_of_pos _ (by omega))
end
end LF
-- LfPick
namespace LF
open PySem PySem.Spec PyProof.Rows L2
theorem great_step {v r : Int} {i : Nat} (v0 : 0 ≤ v) (hv : v.natAbs < 10 ^ (6 * i)) (r0 : 0 ≤ r) (hr : r < 1000000) : (v * 1000000 + r).natAbs < 10 ^ (6 * (i + 1)) := by
  obtain ⟨n, rfl⟩ : ∃ n : Nat, v = n := ⟨v.toNat, by omega⟩
  obtain ⟨k, rfl⟩ : ∃ n : Nat, r = n := ⟨r.toNat, by omega⟩
  have h1 : n < 10 ^ (6 * i) := by
    rw [Int.natAbs_natCast] at hv
    exact hv
  have h2 : (n + 1) * 1000000 ≤ 10 ^ (6 * i) * 1000000 := Nat.mul_le_mul_right _ h1
  have e : (10 : Nat) ^ (6 * (i + 1)) = 10 ^ (6 * i) * 1000000 := by
    rw [Nat.mul_add, Nat.pow_add]
  rw [e]
  omega
theorem pow_mono10 {a b : Nat} (h : a ≤ b) : (10 : Nat) ^ a ≤ 10 ^ b := Nat.pow_le_pow_right (by decide) h
theorem e6 : (10 : Int) ^ (6 : Int).toNat = 1000000 := by decide
section
variable {P : Program} {w : World} {K : PySem.W.Frag} {mg : Str → Option Value} {base : Heap} {f : Addr} {fd : FuncData}
theorem scPick : FnScope ["_law_pen_here", "_law_options"] ["_law_pen_here", "_law_options"] (defScope sPick) := ⟨rfl, rfl, rfl, by decide +kernel, rfl, by decide +kernel, by decide +kernel⟩
theorem ok_pick (F : FnP K "_law_pick" sPick f fd) (g : mg "_law_pick" = some (.ref f)) (B : Bi mg) (D : C8.Cal P w K mg base 1 "_law_draw" spDraw []) : C8.Cal P w K mg base 2 "_law_pick" spPick [] := by
  refine calOf F g scPick (fun _ _ _ _ _ _ us hl => match us, hl with | [_, _], _ => rfl) (fun vs H Q E h => ?_) (fun cdv A outer s H vs Q E hr h => ?_)
  · obtain ⟨d, o, os, T, rfl, _⟩ := h
    rfl
  · obtain ⟨d, o, os, T, rfl, hP, hT, ho, l1, l2, k⟩ := h
    refine ⟨_, (pss_one (ps_ret (pe_ix ix_list (pv 1) (C8.pe_c D hr (by decide) rfl (pa_cons (pv 0) (pa_cons (pe_callB call_len_seq rfl B.len boot_len (pa_cons (pv 1) pa_nil)) pa_nil))) (fun _ _ => rfl)))), ?_⟩
    refine ⟨_, rfl, _, rfl, _, rfl, o, os.map V.int, rfl, .inl (SqL.of ho), d, _, T, rfl, hP, hT, by rw [List.length_map]; omega, by rw [List.length_map]; omega, fun H1 r k1 P1 r0 r1 => ?_⟩
    rw [List.length_map] at r1
    obtain ⟨m, hm, ha⟩ := at_int r0 r1
    exact ⟨o, _, r, _, rfl, rfl, SqL.of (k1.lst hP ho), ha, k _ _ k1 P1 hm⟩
theorem scGreat : FnScope ["_law_pen_here", "_law_digits", "_law_result", "_law_k"] ["_law_pen_here", "_law_digits"] (defScope sGreat) := ⟨rfl, rfl, rfl, by decide +kernel, rfl, by decide +kernel, by decide +kernel⟩
theorem ok_great (F : FnP K "_law_great" sGreat f fd) (g : mg "_law_great" = some (.ref f)) (B : Bi mg) (D : C8.Cal P w K mg base 1 "_law_draw" spDraw []) : C8.Cal P w K mg base 2 "_law_great" spGreat [] := by
  refine calOf F g scGreat (fun _ _ _ _ _ _ us hl => match us, hl with | [_, _], _ => rfl) (fun vs H Q E h => ?_) (fun cdv A outer s H vs Q E hr h => ?_)
  · obtain ⟨d, n, T, rfl, _⟩ := h
    rfl
  · obtain ⟨d, n, T, rfl, hP, hT, n6, n198, k⟩ := h
    refine ⟨_, (pss_cons (ps_set (i := 2) scGreat.nd rfl (Or.inl rfl) pe_int)
      (pss_cons (ps_for PassesOwn.never rfl (pi_range1 rfl B.range (pa_cons (pe_op op_add pe_int (C8.pe_c D hr (by decide) rfl (pa_cons (pv 0) (pa_cons (pe_op op_fdiv (pv 1) pe_int) pa_nil)))) pa_nil)) (pg_name (i := 3) scGreat.nd rfl (Or.inl rfl))
        (pss_one (ps_set (i := 2) scGreat.nd rfl (Or.inl rfl) (pe_op op_add (pe_op op_mul (pv 2) (pe_op op_pow pe_int pe_int)) (C8.pe_c D hr (by decide) rfl (pa_cons (pv 0) (pa_cons (pe_op op_pow pe_int pe_int) pa_nil)))))))
      (pss_one (ps_ret (pv 2))))), ?_⟩
    refine ⟨_, rfl, _, rfl, _, _, rfl, rfl, ⟨by decide, by decide⟩, d, _, T, rfl, hP, by omega, by omega, by omega, fun H1 r k1 P1 r0 r1 => ?_⟩
    have r33 : r < 33 := by
      have : n / 6 ≤ 33 := by omega
      omega
    refine ⟨1, r, rfl, rfl, _, rfl, by omega, by omega, ?_⟩
    refine for_range (lo := 0) (n := (1 + r).toNat) (fun i σ H' => ∃ (v : Int) (u : Option V), σ = [some (.ref d), some (.int n), some (.int v), u] ∧ Keep d H H' ∧ Pen H' d (T + 1 + i) ∧ 0 ≤ v ∧ v.natAbs < 10 ^ (6 * i)) ?_ ?_ ?_
    · exact ⟨0, none, rfl, k1, P1.mono (by omega), by omega, by decide⟩
    · rintro i σ H' hi ⟨v, u, rfl, kp, hP', v0, hv⟩
      refine ⟨_, rfl, _, _, rfl, rfl, ⟨by decide, by decide, by decide⟩, _, _, rfl, rfl, .inr ⟨by decide, by decide⟩, ?_⟩
      refine ⟨_, rfl, _, _, rfl, rfl, ⟨by decide, by decide, by decide⟩, d, _, T + 1 + i, rfl, hP', by omega, by decide, by decide, fun H2 q k2 P2 q0 q1 => ?_⟩
      rw [e6] at q1
      refine ⟨_, q, rfl, rfl, ?_⟩
      refine ⟨v * 1000000 + q, some (.int (0 + (i : Int))), ?_, kp.trans k2, P2.mono (by omega), by omega, great_step v0 hv q0 q1⟩
      rw [← e6]
      rfl
    · rintro σ H' ⟨v, u, rfl, kp, hP', v0, hv⟩
      refine ⟨_, rfl, ?_⟩
      exact k _ _ kp (hP'.mono (by omega)) v0 (Nat.lt_of_lt_of_le hv (pow_mono10 (by omega)))
theorem scSigned : FnScope ["_law_pen_here", "_law_digits"] ["_law_pen_here", "_law_digits"] (defScope sSigned) := ⟨rfl, rfl, rfl, by decide +kernel, rfl, by decide +kernel, by decide +kernel⟩
theorem ok_signed (F : FnP K "_law_signed" sSigned f fd) (g : mg "_law_signed" = some (.ref f)) (D : C8.Cal P w K mg base 1 "_law_draw" spDraw []) (C : C8.Cal P w K mg base 2 "_law_pick" spPick []) (G : C8.Cal P w K mg base 2 "_law_great" spGreat []) : C8.Cal P w K mg base 3 "_law_signed" spSigned [] := by
  refine calOf F g scSigned (fun _ _ _ _ _ _ us hl => match us, hl with | [_, _], _ => rfl) (fun vs H Q E h => ?_) (fun cdv A outer s H vs Q E hr h => ?_)
  · obtain ⟨d, n, T, rfl, _⟩ := h
    rfl
  · obtain ⟨d, n, T, rfl, hP, hT, n6, n198, k⟩ := h
    refine ⟨_, (pss_one (ps_ret (pe_op op_mul (C8.pe_c C hr (by decide) rfl (pa_cons (pv 0) (pa_cons (pe_lst (pa_cons pe_int (pa_cons (pe_un un_neg pe_int) pa_nil))) pa_nil)))
      (C8.pe_c C hr (by decide) rfl (pa_cons (pv 0) (pa_cons (pe_lst (pa_cons (C8.pe_c D hr (by decide) rfl (pa_cons (pv 0) (pa_cons pe_int pa_nil))) (pa_cons (C8.pe_c D hr (by decide) rfl (pa_cons (pv 0) (pa_cons pe_int pa_nil)))
        (pa_cons (C8.pe_c G hr (by decide) rfl (pa_cons (pv 0) (pa_cons (pv 1) pa_nil))) pa_nil)))) pa_nil)))))), ?_⟩
    refine ⟨_, rfl, 1, rfl, (by show 2 ≤ sizeLine; decide), fun p hp => ?_⟩
    have s0 : Same H (upd H p (.lst [.int 1, .int (-1)])) := Same.laid hp
    have hP0 := hP.same s0
    refine ⟨d, p, [1, -1], T, rfl, hP0, by omega, upd_same, by decide, by decide, fun H1 x k1 P1 hx => ?_⟩
    refine ⟨_, rfl, _, rfl, d, 9, T + 1, rfl, P1, by omega, by decide, by decide, fun H2 y k2 P2 y0 y1 => ?_⟩
    refine ⟨_, rfl, d, 99, T + 1 + 1, rfl, P2, by omega, by decide, by decide, fun H3 z k3 P3 z0 z1 => ?_⟩
    refine ⟨_, rfl, _, rfl, d, n, T + 1 + 1 + 1, rfl, P3, by omega, n6, n198, fun H4 u k4 P4 u0 u1 => ?_⟩
    refine ⟨(by show 3 ≤ sizeLine; decide), fun q hq => ?_⟩
    have s4 : Same H4 (upd H4 q (.lst [.int y, .int z, .int u])) := Same.laid hq
    refine ⟨d, q, [y, z, u], T + 1 + 1 + 1 + 40, rfl, P4.same s4, by omega, upd_same, (by show 1 ≤ 3; decide), (by show 3 ≤ 1000; decide), fun H5 v k5 P5 hv => ?_⟩
    have big : (100 : Nat) < 10 ^ 198 := by decide +kernel
    have hv' : v.natAbs < 10 ^ 198 := by
      simp only [List.mem_cons, List.not_mem_nil, or_false] at hv
      rcases hv with rfl | rfl | rfl
      · exact Nat.lt_of_le_of_lt (by omega) big
      · exact Nat.lt_of_le_of_lt (by omega) big
      · exact u1
    have hx' : x = 1 ∨ x = -1 := by
      simp only [List.mem_cons, List.not_mem_nil, or_false] at hx
      exact hx
    refine ⟨x, v, rfl, rfl, .inl ⟨by omega, by omega⟩, ?_⟩
    refine k _ _ (((((Keep.of s0).trans k1).trans k2).trans k3).trans ((k4.then s4).trans k5)) (P5.mono (by omega)) ?_
    rcases hx' with rfl | rfl
    · rw [Int.one_mul]
      exact hv'
    · rw [Int.neg_one_mul, Int.natAbs_neg]
      exact hv'
end
end LF
-- LfRule
namespace LF
open PySem PySem.Spec PyProof.Rows L2
def spRule : Sp := fun vs H Q _ => ∃ (d : Addr) (T : Int), vs = [.ref d, .int 9] ∧ Pen H d T ∧ T ≤ 900000 ∧
  ∀ (H' : Hp) (t : Addr) (p q c : Int), Keep d H H' → Pen H' d (T + 20) → RuleAt H' t p q c → q ≤ 9 → p ≤ 27 → c.natAbs ≤ 27 → Q (.ref t) H'
def spTimes : Sp := fun vs H Q _ => ∃ (d : Addr) (q T : Int), vs = [.ref d, .int q] ∧ Pen H d T ∧ T ≤ 700000 ∧ 1 ≤ q ∧ q.natAbs ≤ 10 ^ 198 ∧
  ∀ (H' : Hp) (l : Addr) (ts : List Int), Keep d H H' → Pen H' d (T + 150) → H' l = some (.lst (ts.map V.int)) → ts.length = 7 → (∀ x ∈ ts, x.natAbs ≤ 5 * 10 ^ 198) → Q (.ref l) H'
section
variable {P : Program} {w : World} {K : PySem.W.Frag} {mg : Str → Option Value} {base : Heap} {f : Addr} {fd : FuncData}
theorem scRule : FnScope ["_law_pen_here", "_law_most", "_law_q", "_law_p"] ["_law_pen_here", "_law_most"] (defScope sRule) := ⟨rfl, rfl, rfl, by decide +kernel, rfl, by decide +kernel, by decide +kernel⟩
theorem small_of {n : Int} {b : Nat} (h : n.natAbs ≤ b) (hb : b < 2 ^ 700) : small n := Nat.lt_of_le_of_lt h hb
theorem ok_rule (F : FnP K "_law_rule" sRule f fd) (g : mg "_law_rule" = some (.ref f)) (D : C8.Cal P w K mg base 1 "_law_draw" spDraw []) (C : C8.Cal P w K mg base 2 "_law_pick" spPick []) (G : C8.Cal P w K mg base 2 "_law_lowest" spReduced []) : C8.Cal P w K mg base 3 "_law_rule" spRule [] := by
  refine calOf F g scRule (fun _ _ _ _ _ _ us hl => match us, hl with | [_, _], _ => rfl) (fun vs H Q E h => ?_) (fun cdv A outer s H vs Q E hr h => ?_)
  · obtain ⟨d, T, rfl, _⟩ := h
    rfl
  · obtain ⟨d, T, rfl, hP, hT, k⟩ := h
    refine ⟨_, (pss_cons (ps_set (i := 2) scRule.nd rfl (Or.inl rfl) (pe_op op_add pe_int (C8.pe_c D hr (by decide) rfl (pa_cons (pv 0) (pa_cons (pv 1) pa_nil)))))
      (pss_cons (ps_set (i := 3) scRule.nd rfl (Or.inl rfl) (C8.pe_c C hr (by decide) rfl (pa_cons (pv 0) (pa_cons (pe_lst (pa_cons pe_int (pa_cons pe_int
          (pa_cons (C8.pe_c D hr (by decide) rfl (pa_cons (pv 0) (pa_cons (pe_op op_add (pv 2) pe_int) pa_nil)))
          (pa_cons (C8.pe_c D hr (by decide) rfl (pa_cons (pv 0) (pa_cons (pe_op op_add (pv 2) pe_int) pa_nil)))
          (pa_cons (C8.pe_c D hr (by decide) rfl (pa_cons (pv 0) (pa_cons (pe_op op_mul pe_int (pv 2)) pa_nil)))
          (pa_cons (pe_op op_add (pv 2) pe_int) pa_nil))))))) pa_nil))))
      (pss_one (ps_ret (C8.pe_c G hr (by decide) rfl (pa_cons (pv 3) (pa_cons (pv 2) (pa_cons (C8.pe_c C hr (by decide) rfl (pa_cons (pv 0) (pa_cons (pe_lst (pa_cons pe_int
          (pa_cons (C8.pe_c D hr (by decide) rfl (pa_cons (pv 0) (pa_cons (pv 2) pa_nil)))
          (pa_cons (pe_op op_sub (C8.pe_c D hr (by decide) rfl (pa_cons (pv 0) (pa_cons (pe_op op_mul pe_int (pv 2)) pa_nil))) (pe_op op_mul pe_int (pv 2))) pa_nil)))) pa_nil))) pa_nil)))))))), ?_⟩
    -- q
    refine ⟨_, rfl, _, rfl, d, 9, T, rfl, hP, by omega, by decide, by decide, fun H1 x k1 P1 x0 x1 => ?_⟩
    refine ⟨1, x, rfl, rfl, ?_⟩
    -- p
    refine ⟨_, rfl, ?_⟩
    refine ⟨_, rfl, _, rfl, _, _, rfl, rfl, d, 1 + x + 1, T + 1, rfl, P1, by omega, by omega, by omega, fun H2 a k2 P2 a0 a1 => ?_⟩
    refine ⟨_, rfl, _, rfl, _, _, rfl, rfl, d, 1 + x + 1, T + 1 + 1, rfl, P2, by omega, by omega, by omega, fun H3 b k3 P3 b0 b1 => ?_⟩
    refine ⟨_, rfl, _, rfl, _, _, rfl, rfl, .inl ⟨by decide, by decide⟩, d, 3 * (1 + x), T + 1 + 1 + 1, rfl, P3, by omega, by omega, by omega, fun H4 e k4 P4 e0 e1 => ?_⟩
    refine ⟨_, rfl, _, _, rfl, rfl, (by show 6 ≤ sizeLine; decide), fun l hl => ?_⟩
    have s4 : Same H4 (upd H4 l (.lst [.int 0, .int 1, .int a, .int b, .int e, .int (1 + x + 1)])) := Same.laid hl
    refine ⟨d, l, [0, 1, a, b, e, 1 + x + 1], T + 1 + 1 + 1 + 1, rfl, P4.same s4, by omega, upd_same, (by show 1 ≤ 6; decide), (by show 6 ≤ 1000; decide), fun H5 p k5 P5 hp => ?_⟩
    have hp' : 0 ≤ p ∧ p ≤ 26 := by
      simp only [List.mem_cons, List.not_mem_nil, or_false] at hp
      omega
    -- c
    refine ⟨_, rfl, _, rfl, _, rfl, ?_⟩
    refine ⟨_, rfl, _, rfl, d, 1 + x, T + 1 + 1 + 1 + 1 + 1, rfl, P5, by omega, by omega, by omega, fun H6 u k6 P6 u0 u1 => ?_⟩
    refine ⟨_, rfl, _, rfl, _, _, rfl, rfl, .inl ⟨by decide, by decide⟩, d, 6 * (1 + x), T + 1 + 1 + 1 + 1 + 1 + 1, rfl, P6, by omega, by omega, by omega, fun H7 v k7 P7 v0 v1 => ?_⟩
    refine ⟨_, rfl, _, _, rfl, rfl, .inl ⟨by decide, by decide⟩, _, _, rfl, rfl, (by show 3 ≤ sizeLine; decide), fun m hm => ?_⟩
    have s7 : Same H7 (upd H7 m (.lst [.int 0, .int u, .int (v - 3 * (1 + x))])) := Same.laid hm
    refine ⟨d, m, [0, u, v - 3 * (1 + x)], T + 1 + 1 + 1 + 1 + 1 + 1 + 1, rfl, P7.same s7, by omega, upd_same, (by show 1 ≤ 3; decide), (by show 3 ≤ 1000; decide), fun H8 c k8 P8 hc => ?_⟩
    have hc' : c.natAbs ≤ 27 := by
      simp only [List.mem_cons, List.not_mem_nil, or_false] at hc
      omega
    have q1 : 1 ≤ 1 + x := by omega
    refine ⟨p, 1 + x, c, rfl, hp'.1, q1, small_of (b := 9) (by omega) (by decide +kernel), fun H9 t s9 ht => ?_⟩
    have hq := rq_le p (1 + x) q1
    have hpl := rp_le p (1 + x) q1
    have hcl := rc_le p (1 + x) c q1
    have z1 := rq_pos (p := p) q1
    have z2 := rp_nonneg (q := 1 + x) hp'.1
    refine k _ t _ _ _ ?_ ((P8.same s9).mono (by omega)) ⟨ht, z2, z1, red_gcd q1⟩ (by omega) (by omega) (by omega)
    exact (((k1.trans k2).trans (k3.trans k4)).trans ((k5.trans k6).trans k7 |> fun z => (Keep.of s4).trans z)).trans ((Keep.of s7).trans (k8.then s9))
theorem scTimes : FnScope ["_law_pen_here", "_law_q", "_law_near"] ["_law_pen_here", "_law_q"] (defScope sTimes) := ⟨rfl, rfl, rfl, by decide +kernel, rfl, by decide +kernel, by decide +kernel⟩
theorem ok_times (F : FnP K "_law_times" sTimes f fd) (g : mg "_law_times" = some (.ref f)) (D : C8.Cal P w K mg base 1 "_law_draw" spDraw []) (G : C8.Cal P w K mg base 3 "_law_signed" spSigned []) : C8.Cal P w K mg base 4 "_law_times" spTimes [] := by
  refine calOf F g scTimes (fun _ _ _ _ _ _ us hl => match us, hl with | [_, _], _ => rfl) (fun vs H Q E h => ?_) (fun cdv A outer s H vs Q E hr h => ?_)
  · obtain ⟨d, q, T, rfl, _⟩ := h
    rfl
  · obtain ⟨d, q, T, rfl, hP, hT, q1, hq, k⟩ := h
    refine ⟨_, (pss_cons (ps_set (i := 2) scTimes.nd rfl (Or.inl rfl) (pe_lst (pa_cons pe_int (pa_cons pe_int (pa_cons (pe_un un_neg pe_int)
        (pa_cons (pe_op op_sub (C8.pe_c D hr (by decide) rfl (pa_cons (pv 0) (pa_cons pe_int pa_nil))) pe_int)
        (pa_cons (pe_op op_sub (pe_op op_add (pe_op op_mul (pv 1) (pe_op op_sub (C8.pe_c D hr (by decide) rfl (pa_cons (pv 0) (pa_cons pe_int pa_nil))) pe_int)) (C8.pe_c D hr (by decide) rfl (pa_cons (pv 0) (pa_cons pe_int pa_nil)))) pe_int) pa_nil)))))))
      (pss_one (ps_ret (pe_op op_cat (pv 2) (pe_lst (pa_cons (C8.pe_c G hr (by decide) rfl (pa_cons (pv 0) (pa_cons pe_int pa_nil))) (pa_cons (C8.pe_c G hr (by decide) rfl (pa_cons (pv 0) (pa_cons pe_int pa_nil))) pa_nil))))))), ?_⟩
    refine ⟨1, rfl, ?_⟩
    refine ⟨_, rfl, d, 99, T, rfl, hP, by omega, by decide, by decide, fun H1 x k1 P1 x0 x1 => ?_⟩
    refine ⟨x, 49, rfl, rfl, ?_⟩
    refine ⟨_, rfl, _, rfl, d, 9, T + 1, rfl, P1, by omega, by decide, by decide, fun H2 y k2 P2 y0 y1 => ?_⟩
    refine ⟨y, 4, rfl, rfl, q, y - 4, rfl, rfl, .inr ⟨by omega, by omega⟩, ?_⟩
    refine ⟨_, rfl, d, 3, T + 1 + 1, rfl, P2, by omega, by decide, by decide, fun H3 z k3 P3 z0 z1 => ?_⟩
    refine ⟨_, z, rfl, rfl, _, 1, rfl, rfl, (by show 5 ≤ sizeLine; decide), fun l hl => ?_⟩
    have s3 : Same H3 (upd H3 l (.lst ([0, 1, -1, x - 49, q * (y - 4) + z - 1].map V.int))) := Same.laid hl
    have P3' := P3.same s3
    have hl3 : upd H3 l (.lst ([0, 1, -1, x - 49, q * (y - 4) + z - 1].map V.int)) l = some (.lst ([0, 1, -1, x - 49, q * (y - 4) + z - 1].map V.int)) := upd_same
    refine ⟨_, rfl, ?_⟩
    refine ⟨_, rfl, d, 60, T + 1 + 1 + 1, rfl, P3', by omega, by decide, by decide, fun H4 u k4 P4 u1 => ?_⟩
    refine ⟨_, rfl, d, 198, T + 1 + 1 + 1 + 50, rfl, P4, by omega, by decide, by decide, fun H5 v k5 P5 v1 => ?_⟩
    refine ⟨(by show 2 ≤ sizeLine; decide), fun m hm => ?_⟩
    have s5 : Same H5 (upd H5 m (.lst ([u, v].map V.int))) := Same.laid hm
    have hl5 := s5 _ _ (k5.lst P4 (k4.lst P3' hl3))
    refine ⟨l, m, _, _, rfl, rfl, hl5, upd_same, (by show 5 + 2 ≤ sizeLine; decide), fun n hn => ?_⟩
    have s6 := Same.laid (o := .lst ([0, 1, -1, x - 49, q * (y - 4) + z - 1, u, v].map V.int)) hn
    refine k _ n [0, 1, -1, x - 49, q * (y - 4) + z - 1, u, v] ?_ (((P5.same s5).same s6).mono (by omega)) upd_same rfl ?_
    · exact (((k1.trans k2).trans (k3.then s3)).trans (k4.trans (k5.then s5))).then s6
    · have big : (100 : Nat) < 10 ^ 198 := by decide +kernel
      generalize hX : (10 : Nat) ^ 198 = X at *
      have hqa : (q * (y - 4)).natAbs ≤ 4 * X := by
        rw [Int.natAbs_mul, Nat.mul_comm]
        exact Nat.mul_le_mul (by omega) hq
      intro w hw
      simp only [List.mem_cons, List.not_mem_nil, or_false] at hw
      rcases hw with rfl | rfl | rfl | rfl | rfl | rfl | rfl <;> omega
end
end LF
-- LfAlike
namespace LF
open PySem PySem.Spec PyProof.Rows L2
def spAlike : Sp := fun vs H Q _ => ∃ (d : Addr) (T : Int), vs = [.ref d] ∧ Pen H d T ∧ T ≤ 700000 ∧ ∀ (H' : Hp), Keep d H H' → Pen H' d (T + 60) → Q (.bl true) H'
/-- two small rules: the answer of the loop is the answer of the comparison -/
theorem alike_end {p1 q1 c1 p2 q2 c2 : Int} {len : Nat} (hp1 : 0 ≤ p1) (hq1 : 1 ≤ q1) (h1 : q1 ≤ 9) (g1 : gI p1 q1 = 1) (hp2 : 0 ≤ p2) (hq2 : 1 ≤ q2) (g2 : gI p2 q2 = 1)
    (hl : len ≤ (q1 * q2 + 1).toNat) (h : len = (q1 * q2 + 1).toNat ↔ ∀ j : Nat, j < (q1 * q2 + 1).toNat → cn p1 q1 c1 j = cn p2 q2 c2 j) :
    PyData.eqv (.tuple [.int p1, .int q1, .int c1]) (.tuple [.int p2, .int q2, .int c2]) = decide (V.int (len : Int) = V.int (q1 * q2 + 1)) := by
  have hqq : 0 < q1 * q2 := Int.mul_pos (by omega) (by omega)
  have e : PyData.eqv (.tuple [.int p1, .int q1, .int c1]) (.tuple [.int p2, .int q2, .int c2]) = (p1 == p2 && (q1 == q2 && (c1 == c2 && true))) := by
    simp only [PyData.eqv, PyData.eqvAll]
  rw [e, dec_int, Bool.eq_iff_iff]
  simp only [Bool.and_eq_true, beq_iff_eq, and_true]
  constructor
  · rintro ⟨rfl, rfl, rfl⟩
    have := h.mpr fun j _ => rfl
    omega
  · intro hx
    have hy : len = (q1 * q2 + 1).toNat := by omega
    refine alike hp1 hq1 h1 g1 hp2 hq2 g2 fun t t0 t1 => ?_
    obtain ⟨j, rfl⟩ : ∃ j : Nat, t = j := ⟨t.toNat, by omega⟩
    exact h.mp hy j (by omega)
/-- what the comprehension keeps -/
def AlInv (H : Hp) (D : Addr) (p1 q1 c1 p2 q2 c2 : Int) (i : Nat) (H' : Hp) : Prop := (∀ b o, b ≠ D → H b = some o → H' b = some o) ∧
  ∃ acc : List V, H' D = some (.lst acc) ∧ acc.length ≤ i ∧ (acc.length = i ↔ ∀ j : Nat, j < i → cn p1 q1 c1 j = cn p2 q2 c2 j)
/-- ahead of the reduced rules -/
def AlMid (d : Addr) (T : Int) (H : Hp) (σ : L2.St) (H' : Hp) : Prop := ∃ (a b : Addr) (p1 q1 c1 p2 q2 c2 : Int), σ = [some (.ref d), some (.ref a), some (.ref b), none, none, none, none] ∧ Keep d H H' ∧ Pen H' d (T + 50) ∧
  RuleAt H' a p1 q1 c1 ∧ RuleAt H' b p2 q2 c2 ∧ q1 ≤ 9 ∧ q2 ≤ 9 ∧ p1 ≤ 27 ∧ p2 ≤ 27 ∧ c1.natAbs ≤ 30 ∧ c2.natAbs ≤ 30
theorem RuleAt.keep {d t : Addr} {T : Int} {H H' : Hp} {p q c : Int} (R : RuleAt H t p q c) (k : Keep d H H') (P : Pen H d T) : RuleAt H' t p q c := ⟨k.tup P R.at_, R.p0, R.q1, R.g1⟩
section
variable {P : Program} {w : World} {K : PySem.W.Frag} {mg : Str → Option Value} {base : Heap} {f : Addr} {fd : FuncData}
theorem scAlike : FnScope ["_law_pen_here", "_law_one", "_law_two", "_law_first", "_law_second", "_law_alike", "_law_time"] ["_law_pen_here"] (defScope sAlike) := ⟨rfl, rfl, rfl, by decide +kernel, rfl, by decide +kernel, by decide +kernel⟩
theorem ok_alike (F : FnP K "_law_alike_right" sAlike f fd) (g : mg "_law_alike_right" = some (.ref f)) (B : Bi mg) (D : C8.Cal P w K mg base 1 "_law_draw" spDraw []) (R : C8.Cal P w K mg base 3 "_law_rule" spRule [])
    (G : C8.Cal P w K mg base 3 "reduce_rule" spReduced []) (N : C8.Cal P w K mg base 5 "count" spCount []) : C8.Cal P w K mg base 6 "_law_alike_right" spAlike [] := by
  refine calOf F g scAlike (fun _ _ _ _ _ _ us hl => match us, hl with | [_], _ => rfl) (fun vs H Q E h => ?_) (fun cdv A outer s H vs Q E hr h => ?_)
  · obtain ⟨d, T, rfl, _⟩ := h
    rfl
  · obtain ⟨d, T, rfl, hP, hT, k⟩ := h
    refine ⟨_, (pss_cons (ps_par (i := 1) (j := 2) (by rfl) scAlike.nd rfl rfl (by decide) rfl rfl (pa_cons (C8.pe_c R hr (by decide) rfl (pa_cons (pv 0) (pa_cons pe_int pa_nil))) (pa_cons (C8.pe_c R hr (by decide) rfl (pa_cons (pv 0) (pa_cons pe_int pa_nil))) pa_nil)) (by rfl))
      (C8.pss_cut (ps_if (pt_cmpR op_eq (C8.pe_c D hr (by decide) rfl (pa_cons (pv 0) (pa_cons pe_int pa_nil))) pe_int (nomark _))
        (pss_one (ps_set (i := 2) scAlike.nd rfl (Or.inl rfl) (pe_tup (pa_cons (pe_ix ix_tup (pv 1) pe_int (fun _ _ => rfl)) (pa_cons (pe_ix ix_tup (pv 1) pe_int (fun _ _ => rfl))
          (pa_cons (pe_op op_sub (pe_op op_add (pe_ix ix_tup (pv 1) pe_int (fun _ _ => rfl)) (C8.pe_c D hr (by decide) rfl (pa_cons (pv 0) (pa_cons pe_int pa_nil)))) pe_int) pa_nil)))))) pss_nil)
      (pss_cons (ps_asg (pe_tup (pa_cons (C8.pe_c G hr (by decide) rfl (pa_cons (pe_ix ix_tup (pv 1) pe_int (fun _ _ => rfl)) (pa_cons (pe_ix ix_tup (pv 1) pe_int (fun _ _ => rfl)) (pa_cons (pe_ix ix_tup (pv 1) pe_int (fun _ _ => rfl)) pa_nil))))
          (pa_cons (C8.pe_c G hr (by decide) rfl (pa_cons (pe_op op_mul pe_int (pe_ix ix_tup (pv 2) pe_int (fun _ _ => rfl))) (pa_cons (pe_op op_mul pe_int (pe_ix ix_tup (pv 2) pe_int (fun _ _ => rfl)))
            (pa_cons (pe_op op_add (pe_op op_mul pe_int (pe_ix ix_tup (pv 2) pe_int (fun _ _ => rfl))) pe_int) pa_nil)))) pa_nil)))
          (pg_tup rfl (pgs_cons (pg_name (i := 3) scAlike.nd rfl (Or.inr rfl)) (pgs_cons (pg_name (i := 4) scAlike.nd rfl (Or.inr rfl)) pgs_nil))))
      (pss_cons (ps_setLc (i := 5) (own := [("_law_time", 6)]) (g := gName 6) rfl scAlike.nd rfl rfl (sw_true rfl rfl rfl (by decide +kernel))
          (pi_range1 rfl B.range (pa_cons (pe_op op_add (pe_op op_mul (pe_ix ix_tup (pv 1) pe_int (fun _ _ => rfl)) (pe_ix ix_tup (pv 2) pe_int (fun _ _ => rfl))) pe_int) pa_nil))
          (blkOk_by (N := ["_law_pen_here", "_law_one", "_law_two", "_law_first", "_law_second", "_law_alike", "_law_time"]) (sc := defScope sAlike) (by decide +kernel))
          (fun _ _ _ _ _ => pg_name (i := 6) scAlike.nd rfl (Or.inl rfl))
          (fun _ _ _ _ _ => pts_one (pt_cmpR op_eq (C8.pe_c N hr (by decide) rfl (pa_cons (pv 3) (pa_cons (pv 6) pa_nil))) (C8.pe_c N hr (by decide) rfl (pa_cons (pv 4) (pa_cons (pv 6) pa_nil))) (nomark _)))
          (fun _ _ _ _ _ => pv 6))
      (pss_one (ps_ret (pe_cmpR op_eq (pe_cmpR (op_eqD hr.units) (pv 3) (pv 4) (nomark _))
          (pe_cmpR op_eq (pe_callB call_len_seq rfl B.len boot_len (pa_cons (pv 5) pa_nil)) (pe_op op_add (pe_op op_mul (pe_ix ix_tup (pv 1) pe_int (fun _ _ => rfl)) (pe_ix ix_tup (pv 2) pe_int (fun _ _ => rfl))) pe_int) (nomark _)) (nomark _)))))))), ?_⟩
    -- one, two
    refine ⟨_, rfl, d, T, rfl, hP, by omega, fun H1 a p1 q1 c1 k1 P1 R1 hq1 hp1 hc1 => ?_⟩
    refine ⟨_, rfl, d, T + 20, rfl, P1, by omega, fun H2 b p2 q2 c2 k2 P2 R2 hq2 hp2 hc2 => ?_⟩
    have R1' := R1.keep k2 P1
    refine ⟨_, _, rfl, ?_⟩
    refine ⟨AlMid d T H, ?_, ?_⟩
    · refine ⟨_, rfl, d, 2, T + 20 + 20, rfl, P2, by omega, by decide, by decide, fun H3 x k3 P3 x0 x1 => ?_⟩
      refine ⟨rfl, _, rfl, ?_⟩
      have R13 := R1'.keep k3 P2
      have R23 := R2.keep k3 P2
      refine ite2 (fun hb => ?_) (fun hb => ?_)
      · refine ⟨_, rfl, a, _, 0, _, rfl, rfl, SqT.of R13.at_, rfl, _, rfl, a, _, 1, _, rfl, rfl, SqT.of R13.at_, rfl, _, rfl, a, _, 2, _, rfl, rfl, SqT.of R13.at_, rfl, ?_⟩
        refine ⟨_, rfl, d, 3, T + 20 + 20 + 1, rfl, P3, by omega, by decide, by decide, fun H4 y k4 P4 y0 y1 => ?_⟩
        refine ⟨c1, y, rfl, rfl, c1 + y, 1, rfl, rfl, (by show 3 ≤ sizeLine; decide), fun t ht => ?_⟩
        have s4 : Same H4 (upd H4 t (tri p1 q1 (c1 + y - 1))) := Same.laid ht
        refine ⟨a, t, p1, q1, c1, p1, q1, c1 + y - 1, rfl, ((k1.trans k2).trans (k3.trans k4)).then s4, (P4.same s4).mono (by omega), (R13.keep k4 P3).same s4, ⟨upd_same, R1.p0, R1.q1, R1.g1⟩, hq1, hq1, hp1, hp1, by omega, by omega⟩
      · exact ⟨a, b, p1, q1, c1, p2, q2, c2, rfl, (k1.trans k2).trans k3, P3.mono (by omega), R13, R23, hq1, hq2, hp1, hp2, by omega, by omega⟩
    · rintro σ' H3 ⟨a, b, p1, q1, c1, p2, q2, c2, rfl, k3, P3, R1, R2, hq1, hq2, hp1, hp2, hc1, hc2⟩
      have b700 : (1000 : Nat) < 2 ^ 700 := by decide +kernel
      have q11 := R1.q1
      have q21 := R2.q1
      have p10 := R1.p0
      have p20 := R2.p0
      -- first
      refine ⟨_, rfl, a, _, 0, _, rfl, rfl, SqT.of R1.at_, rfl, _, rfl, a, _, 1, _, rfl, rfl, SqT.of R1.at_, rfl, _, rfl, a, _, 2, _, rfl, rfl, SqT.of R1.at_, rfl, ?_⟩
      refine ⟨p1, q1, c1, rfl, R1.p0, R1.q1, small_of (b := 1000) (by omega) b700, fun H4 t1 s4 ht1 => ?_⟩
      rw [rp_of_one R1.g1, rq_of_one R1.g1, rc_of_one R1.g1] at ht1
      have R1' := R1.same s4
      have R2' := R2.same s4
      -- second
      refine ⟨_, rfl, b, _, 0, _, rfl, rfl, SqT.of R2'.at_, rfl, _, _, rfl, rfl, .inl ⟨by decide, by decide⟩, ?_⟩
      refine ⟨_, rfl, b, _, 1, _, rfl, rfl, SqT.of R2'.at_, rfl, _, _, rfl, rfl, .inl ⟨by decide, by decide⟩, ?_⟩
      refine ⟨_, rfl, b, _, 2, _, rfl, rfl, SqT.of R2'.at_, rfl, _, _, rfl, rfl, .inl ⟨by decide, by decide⟩, _, _, rfl, rfl, ?_⟩
      refine ⟨2 * p2, 2 * q2, 2 * c2 + 1, rfl, by omega, by omega, small_of (b := 1000) (by omega) b700, fun H5 t2 s5 ht2 => ?_⟩
      rw [rp_mulk (by decide), rq_mulk (by decide), rc_mulk (by decide) (by decide) (by decide), rp_of_one R2.g1, rq_of_one R2.g1, rc_of_one R2.g1] at ht2
      refine ⟨(by show 2 ≤ sizeLine; decide), fun t ht => ?_⟩
      have s6 : Same H5 (upd H5 t (.tup [.ref t1, .ref t2])) := Same.laid ht
      refine ⟨t, _, rfl, SqT.of upd_same, rfl, ?_⟩
      refine ⟨_, _, rfl, _, _, rfl, rfl, ?_⟩
      generalize hH6 : upd H5 t (.tup [.ref t1, .ref t2]) = H6 at s6
      have F1 : RuleAt H6 t1 p1 q1 c1 := ⟨s6 _ _ (s5 _ _ ht1), R1.p0, R1.q1, R1.g1⟩
      have F2 : RuleAt H6 t2 p2 q2 c2 := ⟨s6 _ _ ht2, R2.p0, R2.q1, R2.g1⟩
      have A1 := (R1'.same s5).same s6
      have A2 := (R2'.same s5).same s6
      have P6 := ((P3.same s4).same s5).same s6
      -- the comprehension
      have hqq : q1 * q2 ≤ 9 * 9 := Int.mul_le_mul hq1 hq2 (by omega) (by omega)
      have hqq0 : 0 < q1 * q2 := Int.mul_pos (by omega) (by omega)
      refine ⟨_, rfl, a, _, 1, _, rfl, rfl, SqT.of A1.at_, rfl, _, rfl, b, _, 1, _, rfl, rfl, SqT.of A2.at_, rfl, q1, q2, rfl, rfl, .inl ⟨by omega, by omega⟩, _, _, rfl, rfl, _, rfl, by omega, by omega, fun D hD => ?_⟩
      refine lc_range (lo := 0) (n := (q1 * q2 + 1).toNat) (AlInv H6 D p1 q1 c1 p2 q2 c2) ?_ ?_ ?_
      · exact ⟨fun b o n e => by rw [upd_ne n]; exact e, [], upd_same, Nat.le_refl _, ⟨fun _ j hj => absurd hj (by omega), fun _ => rfl⟩⟩
      · rintro i H7 hi ⟨kp, acc, hacc, hl, hiff⟩
        have n1 : t1 ≠ D := ne_of_none F1.at_ hD
        have n2 : t2 ≠ D := ne_of_none F2.at_ hD
        have G1 : RuleAt H7 t1 p1 q1 c1 := ⟨kp _ _ n1 F1.at_, F1.p0, F1.q1, F1.g1⟩
        have G2 : RuleAt H7 t2 p2 q2 c2 := ⟨kp _ _ n2 F2.at_, F2.p0, F2.q1, F2.g1⟩
        refine ⟨rfl, ?_⟩
        refine ⟨_, rfl, _, rfl, t1, p1, q1, c1, _, rfl, G1, small_of (b := 1000) (by omega) b700, small_of (b := 1000) (by omega) b700, small_of (b := 1000) (by omega) b700, fun H8 s8 => ?_⟩
        refine ⟨_, rfl, _, rfl, t2, p2, q2, c2, _, rfl, G2.same s8, small_of (b := 1000) (by omega) b700, small_of (b := 1000) (by omega) b700, small_of (b := 1000) (by omega) b700, fun H9 s9 => ?_⟩
        have hacc9 := s9 _ _ (s8 _ _ hacc)
        refine ⟨rfl, _, rfl, ?_⟩
        refine ite2 (fun hb => ?_) (fun hb => ?_)
        · have he : cn p1 q1 c1 (0 + (i : Int)) = cn p2 q2 c2 (0 + (i : Int)) := V.int.inj (of_decide_eq_true hb)
          rw [Int.zero_add] at he
          refine ⟨_, rfl, acc, hacc9, Nat.lt_of_le_of_lt hl (Nat.lt_trans hi (Nat.lt_of_lt_of_le (by omega) (by decide : 1000 ≤ sizeLine))), ?_⟩
          refine ⟨fun b o n e => by rw [upd_ne n]; exact s9 _ _ (s8 _ _ (kp b o n e)), _, upd_same, by rw [List.length_append, List.length_singleton]; omega, ?_⟩
          rw [List.length_append, List.length_singleton]
          constructor
          · intro hx j hj
            rcases Nat.lt_succ_iff_lt_or_eq.mp hj with hj | rfl
            · exact hiff.mp (by omega) j hj
            · exact he
          · intro hx
            have := hiff.mpr fun j hj => hx j (by omega)
            omega
        · have he : ¬ cn p1 q1 c1 (0 + (i : Int)) = cn p2 q2 c2 (0 + (i : Int)) := fun z => hb (decide_eq_true (congrArg V.int z))
          rw [Int.zero_add] at he
          refine ⟨fun b o n e => s9 _ _ (s8 _ _ (kp b o n e)), acc, hacc9, by omega, ⟨fun z => by omega, fun z => absurd (z i (by omega)) he⟩⟩
      · rintro H7 ⟨kp, acc, hacc, hl, hiff⟩
        have n1 : t1 ≠ D := ne_of_none F1.at_ hD
        have n2 : t2 ≠ D := ne_of_none F2.at_ hD
        have s7 : Same H6 H7 := fun b o e => kp b o (ne_of_none e hD) e
        have B1 := F1.same s7
        have B2 := F2.same s7
        refine ⟨_, rfl, _, rfl, _, _, .tup (SqT.of B1.at_) (.cons (.int _) (.cons (.int _) (.cons (.int _) .nil))), .tup (SqT.of B2.at_) (.cons (.int _) (.cons (.int _) (.cons (.int _) .nil))), rfl, rfl, ?_⟩
        refine ⟨_, rfl, D, acc, rfl, .inl (SqL.of hacc), ?_⟩
        refine ⟨_, rfl, a, _, 1, _, rfl, rfl, SqT.of (A1.same s7).at_, rfl, _, rfl, b, _, 1, _, rfl, rfl, SqT.of (A2.same s7).at_, rfl, q1, q2, rfl, rfl, .inl ⟨by omega, by omega⟩, _, _, rfl, rfl, rfl, rfl, ?_⟩
        have e := alike_end (p1 := p1) (c1 := c1) (p2 := p2) (c2 := c2) R1.p0 R1.q1 hq1 R1.g1 R2.p0 R2.q1 R2.g1 hl hiff
        have e2 : decide (V.bl (PyData.eqv (.tuple [.int p1, .int q1, .int c1]) (.tuple [.int p2, .int q2, .int c2])) = V.bl (decide (V.int (acc.length : Int) = V.int (q1 * q2 + 1)))) = true := decide_eq_true (congrArg V.bl e)
        show Q (.bl (decide (V.bl (PyData.eqv (.tuple [.int p1, .int q1, .int c1]) (.tuple [.int p2, .int q2, .int c2])) = V.bl (decide (V.int (acc.length : Int) = V.int (q1 * q2 + 1)))))) H7
        rw [e2]
        exact k _ (((k3.then s4).then s5).then (s6.trans s7)) ((P6.same s7).mono (by omega))
end
end LF
-- LfRepr
namespace LF
open PySem PySem.Spec PyProof.Rows L2
/-- what repr tells of a triple -/
def triText (p q c : Int) : Str := PyData.shown (.tuple [.int p, .int q, .int c])
def lowBits (n : Int) : Prop := n.natAbs.log2 < 1920
theorem triText_len {p q c : Int} (hp : lowBits p) (hq : lowBits q) (hc : lowBits c) : (triText p q c).length ≤ sizeLine := by
  have h1 := int_text_len_1921 hp
  have h2 := int_text_len_1921 hq
  have h3 := int_text_len_1921 hc
  have e : triText p q c = tupleText [PySem.Str.ofString (toString p), PySem.Str.ofString (toString q), PySem.Str.ofString (toString c)] := by
    unfold triText
    simp only [PyData.shown, PyData.shownAll]
  rw [e]
  have h4 := fmt_text [PySem.Str.ofString (toString p), PySem.Str.ofString (toString q), PySem.Str.ofString (toString c)]
  rw [piled_cons, piled_cons, piled_cons] at h4
  have h5 : piled [] = 0 := rfl
  have h6 : 10000 ≤ sizeLine := by decide
  omega
/-- repr(t) of a triple, nothing being under way -/
theorem call_repr_tri {X : Cx} (hg : X.A.guards = some []) (hu : X.A.units + 64 < cLine) : CallR X (.builtin "repr") (fun xs H Q => ∃ (t : Addr) (p q c : Int), xs = [.ref t] ∧ H t = some (tri p q c) ∧ lowBits p ∧ lowBits q ∧ lowBits c ∧ Q (.str (triText p q c)) H) := by
  intro pins s σ H xs us Q I r h
  obtain ⟨t, p, q, c, rfl, ht, hp, hq, hc, k⟩ := h
  obtain ⟨u, rfl, ru⟩ := vals1 r
  have dp : Dp X.K H (.ref t) (.tuple [.int p, .int q, .int c]) := .tup (SqT.of ht) (.cons (.int p) (.cons (.int q) (.cons (.int c) .nil)))
  obtain ⟨as, rd⟩ := Dp.reads I _ _ u dp ru
  obtain rfl : u = Value.ref t := ru
  refine repr_of_reads' rd ?_ (fun z => by cases z) hg ?_ (fun _ _ e => e) (fun h' v tk hk => ?_) (triText_len hp hq hc)
  · simp only [PyData.showable, PyData.showableAll, Bool.and_true, Bool.and_eq_true, decide_eq_true_eq]
    exact ⟨hp, hq, hc⟩
  · have e : PyData.depth (.tuple [.int p, .int q, .int c]) = 1 := rfl
    rw [e]
    omega
  · exact ⟨.str (triText p q c), H, I.kept (t' := tk) hk, ⟨v, rfl⟩, k⟩
end LF
-- LfLaw
namespace LF
open PySem PySem.Spec PyProof.Rows L2
def spLaw (K : PySem.W.Frag) : Sp := fun vs H Q _ => ∃ (a : Addr) (ns : List Int), vs = [.ref a] ∧ SqL K H a (ns.map V.int) ∧ ns.length ≤ 63 ∧ ∀ H', Q (.bl true) H'
theorem tenBig : (100 : Nat) < 10 ^ 198 := by decide +kernel
theorem tenSmall : 100 * (10 : Nat) ^ 198 < 2 ^ 700 := by decide +kernel
theorem tenLow : (10 : Nat) ^ 198 * (5 * 10 ^ 198) + 10 ^ 198 < 2 ^ 1920 := by decide +kernel
theorem small100 {n : Int} (h : n.natAbs ≤ 99 * 10 ^ 198) : small n := Nat.lt_of_le_of_lt (Nat.le_trans h (Nat.mul_le_mul_right _ (by decide))) tenSmall
theorem low_of {n : Int} (h : n.natAbs ≤ 10 ^ 198) : lowBits n := PySem.Flt.log2_lt_of (by decide) (Nat.lt_of_le_of_lt (Nat.le_trans h (Nat.le_add_left _ _)) tenLow)
theorem low_cn {p q c x : Int} (hq : 1 ≤ q) (hp : p.natAbs ≤ 10 ^ 198) (hc : c.natAbs ≤ 10 ^ 198) (hx : x.natAbs ≤ 5 * 10 ^ 198) : lowBits (cn p q c x) :=
  PySem.Flt.log2_lt_of (by decide) (Nat.lt_of_le_of_lt (Nat.le_trans (cn_natAbs hq) (Nat.add_le_add (Nat.mul_le_mul hp hx) hc)) tenLow)
section
variable {P : Program} {w : World} {K : PySem.W.Frag} {mg : Str → Option Value} {base : Heap}
/-- ahead of the rule -/
def LwMid (a d : Addr) (T : Int) (σ : L2.St) (H' : Hp) : Prop := ∃ (o2 o3 o8 o9 o10 : Option V) (p r c m : Int), σ = [some (.ref a), some (.ref d), o2, o3, some (.int p), some (.int r), some (.int c), some (.int m), o8, o9, o10] ∧ Pen H' d (T + 200) ∧
  0 ≤ p ∧ p.natAbs ≤ 10 ^ 198 ∧ 1 ≤ r ∧ r.natAbs ≤ 10 ^ 198 ∧ c.natAbs ≤ 10 ^ 198 ∧ 1 ≤ m ∧ m ≤ 9
/-- the defs that the law calls -/
structure Calls (P : Program) (w : World) (K : PySem.W.Frag) (mg : Str → Option Value) (base : Heap) : Prop where
  pen : C8.Cal P w K mg base 1 "_law_pen" (spPen K) []
  draw : C8.Cal P w K mg base 1 "_law_draw" spDraw []
  pick : C8.Cal P w K mg base 2 "_law_pick" spPick []
  great : C8.Cal P w K mg base 2 "_law_great" spGreat []
  signed : C8.Cal P w K mg base 3 "_law_signed" spSigned []
  lowest : C8.Cal P w K mg base 2 "_law_lowest" spReduced []
  reduce : C8.Cal P w K mg base 3 "reduce_rule" spReduced []
  isRule : C8.Cal P w K mg base 4 "is_rule_rules" spIsRule []
  count : C8.Cal P w K mg base 5 "count" spCount []
  times : C8.Cal P w K mg base 4 "_law_times" spTimes []
  alike : C8.Cal P w K mg base 6 "_law_alike_right" spAlike []
abbrev lawN : List Str := ["_law_script", "_law_pen_here", "_law_turn", "_law_digits", "_law_p", "_law_q", "_law_c", "_law_k", "_law_rule_here", "_law_time", "_law_told"]
theorem scLaw : FnScope lawN ["_law_script"] (defScope sLaw) := ⟨rfl, rfl, rfl, by decide +kernel, rfl, by decide +kernel, by decide +kernel⟩
theorem law_body {f : Addr} {cdv : Value} {A : Around} {outer : List Env} {s : Shared} {H : Hp} {vs : List V} {Q : VK} {E : XK} (B : Bi mg) (C : Calls P w K mg base) (hA : A.guards = some [])
    (hr : Room 6 (A.deeper (envOfC "law" (defScope sLaw) s.heap.objs.size f cdv))) (h : spLaw K vs H Q E) :
    ∃ t, PSs (cxOf CX0 P w K mg base lawN "law" (defScope sLaw) f cdv A outer s H E).nox (defBody sLaw) t ∧ t { nx := fun _ H' => Q .non H', rt := Q } (L2.start lawN vs) H := by
  obtain ⟨a, ns, rfl, hS, hl, k⟩ := h
  have hu := hr.units
  refine ⟨_, (pss_cons (ps_set (i := 1) scLaw.nd rfl (Or.inl rfl) (C8.pe_c C.pen hr (by decide) rfl (pa_cons (pv 0) pa_nil)))
      (pss_cons (ps_for PassesOwn.never rfl (pi_range1 rfl B.range (pa_cons pe_int pa_nil)) (pg_name (i := 2) scLaw.nd rfl (Or.inl rfl))
      (pss_cons (ps_set (i := 3) scLaw.nd rfl (Or.inl rfl) (C8.pe_c C.pick hr (by decide) rfl (pa_cons (pv 1) (pa_cons (pe_lst (pa_cons pe_int (pa_cons pe_int (pa_cons pe_int (pa_cons pe_int pa_nil))))) pa_nil))))
      (pss_cons (ps_set (i := 4) scLaw.nd rfl (Or.inl rfl) (C8.pe_c C.pick hr (by decide) rfl (pa_cons (pv 1) (pa_cons (pe_lst (pa_cons (C8.pe_c C.draw hr (by decide) rfl (pa_cons (pv 1) (pa_cons pe_int pa_nil)))
          (pa_cons (C8.pe_c C.great hr (by decide) rfl (pa_cons (pv 1) (pa_cons (pv 3) pa_nil))) pa_nil))) pa_nil))))
      (pss_cons (ps_set (i := 5) scLaw.nd rfl (Or.inl rfl) (pe_op op_add pe_int (C8.pe_c C.pick hr (by decide) rfl (pa_cons (pv 1) (pa_cons (pe_lst (pa_cons (C8.pe_c C.draw hr (by decide) rfl (pa_cons (pv 1) (pa_cons pe_int pa_nil)))
          (pa_cons pe_int (pa_cons (C8.pe_c C.great hr (by decide) rfl (pa_cons (pv 1) (pa_cons (pv 3) pa_nil))) pa_nil)))) pa_nil)))))
      (C8.pss_cut (ps_par (i := 6) (j := 7) (by rfl) scLaw.nd rfl rfl (by decide) rfl rfl (pa_cons (C8.pe_c C.signed hr (by decide) rfl (pa_cons (pv 1) (pa_cons (pv 3) pa_nil)))
          (pa_cons (pe_op op_add pe_int (C8.pe_c C.draw hr (by decide) rfl (pa_cons (pv 1) (pa_cons pe_int pa_nil)))) pa_nil)) (by rfl))
      (pss_cons (ps_set (i := 8) scLaw.nd rfl (Or.inl rfl) (C8.pe_c C.reduce hr (by decide) rfl (pa_cons (pv 4) (pa_cons (pv 5) (pa_cons (pv 6) pa_nil)))))
      (pss_cons (ps_if (PW.pt (pw_or (pt_cmpR op_ne (pe_callB (call_repr_tri hA hu) rfl B.repr (by decide +kernel) (pa_cons (pv 8) pa_nil))
            (pe_callB (call_repr_tri hA hu) rfl B.repr (by decide +kernel) (pa_cons (C8.pe_c C.lowest hr (by decide) rfl (pa_cons (pv 4) (pa_cons (pv 5) (pa_cons (pv 6) pa_nil)))) pa_nil)) (nomark _))
          (pw_or1 (pt_cmpR op_notBl (C8.pe_c C.isRule hr (by decide) rfl (pa_cons (pv 8) pa_nil)) pe_bl (nomark _))))) (pss_one (ps_never)) pss_nil)
      (pss_cons (ps_if (pt_cmpR (op_neD hu) (C8.pe_c C.reduce hr (by decide) rfl (pa_cons (pe_op op_mul (pv 7) (pv 4)) (pa_cons (pe_op op_mul (pv 7) (pv 5))
            (pa_cons (pe_op op_add (pe_op op_mul (pv 7) (pv 6)) (C8.pe_c C.draw hr (by decide) rfl (pa_cons (pv 1) (pa_cons (pv 7) pa_nil)))) pa_nil)))) (pv 8) (nomark _)) (pss_one (ps_never)) pss_nil)
      (pss_cons (ps_for PassesOwn.never rfl (pi_list (C8.pe_c C.times hr (by decide) rfl (pa_cons (pv 1) (pa_cons (pe_ix ix_tup (pv 8) pe_int (fun _ _ => rfl)) pa_nil)))) (pg_name (i := 9) scLaw.nd rfl (Or.inl rfl))
        (pss_cons (ps_set (i := 10) scLaw.nd rfl (Or.inl rfl) (C8.pe_c C.count hr (by decide) rfl (pa_cons (pv 8) (pa_cons (pv 9) pa_nil))))
      (pss_one (ps_if (PW.pt (pw_or (pt_cmpR op_ne (pe_callB SkE.call_repr_int rfl B.repr (by decide +kernel) (pa_cons (pv 10) pa_nil))
              (pe_callB SkE.call_repr_int rfl B.repr (by decide +kernel) (pa_cons (pe_op op_fdivW (pe_op op_add (pe_op op_mulW (pv 4) (pv 9)) (pv 6)) (pv 5)) pa_nil)) (nomark _))
            (pw_or1 (pt_cmpR op_ne (C8.pe_c C.count hr (by decide) rfl (pa_cons (pv 8) (pa_cons (pe_op op_add (pv 9) (pe_ix ix_tup (pv 8) pe_int (fun _ _ => rfl))) pa_nil)))
              (pe_op op_add (pv 10) (pe_ix ix_tup (pv 8) pe_int (fun _ _ => rfl))) (nomark _))))) (pss_one (ps_never)) pss_nil))))
      (pss_one (ps_if (pt_not (pt_val (C8.pe_c C.alike hr (by decide) rfl (pa_cons (pv 1) pa_nil)))) (pss_one (ps_never)) pss_nil)))))))))))
      (pss_one (ps_ret pe_bl)))), ?_⟩
  refine ⟨_, rfl, a, ns, rfl, hS, hl, fun H1 d s1 P1 => ?_⟩
  refine ⟨6, rfl, by decide, by decide, ?_⟩
  refine for_range (lo := 0) (n := 6) (fun i σ H' => ∃ (o2 o3 o4 o5 o6 o7 o8 o9 o10 : Option V), σ = [some (.ref a), some (.ref d), o2, o3, o4, o5, o6, o7, o8, o9, o10] ∧ Pen H' d (500 * (i : Int))) ?_ ?_ ?_
  · exact ⟨none, none, none, none, none, none, none, none, none, rfl, P1.mono (by omega)⟩
  · rintro i σ H1 hi ⟨o2, o3, o4, o5, o6, o7, o8, o9, o10, rfl, P1⟩
    generalize hT : 500 * (i : Int) = T at P1
    have hT2 : T ≤ 3000 := by omega
    have tb := tenBig
    -- digits
    refine ⟨_, rfl, (by show 4 ≤ sizeLine; decide), fun l hl => ?_⟩
    have s1 : Same H1 (upd H1 l (.lst ([60, 60, 120, 198].map V.int))) := Same.laid hl
    refine ⟨d, l, [60, 60, 120, 198], T, rfl, P1.same s1, by omega, upd_same, by decide, by decide, fun H2 g k2 P2 hg => ?_⟩
    have hg' : 6 ≤ g ∧ g ≤ 198 := by
      simp only [List.mem_cons, List.not_mem_nil, or_false] at hg
      omega
    -- p
    refine ⟨_, rfl, ?_⟩
    refine ⟨_, rfl, d, 40, T + 1, rfl, P2, by omega, by decide, by decide, fun H3 x k3 P3 x0 x1 => ?_⟩
    refine ⟨_, rfl, _, rfl, d, g, T + 1 + 1, rfl, P3, by omega, hg'.1, hg'.2, fun H4 y k4 P4 y0 y1 => ?_⟩
    refine ⟨(by show 2 ≤ sizeLine; decide), fun l4 hl4 => ?_⟩
    have s4 : Same H4 (upd H4 l4 (.lst ([x, y].map V.int))) := Same.laid hl4
    refine ⟨d, l4, [x, y], T + 1 + 1 + 40, rfl, P4.same s4, by omega, upd_same, (by show 1 ≤ 2; decide), (by show 2 ≤ 1000; decide), fun H5 p k5 P5 hp => ?_⟩
    have hp' : 0 ≤ p ∧ p.natAbs < 10 ^ 198 := by
      simp only [List.mem_cons, List.not_mem_nil, or_false] at hp
      rcases hp with rfl | rfl <;> omega
    -- q
    refine ⟨_, rfl, ?_⟩
    refine ⟨_, rfl, d, 40, T + 1 + 1 + 40 + 1, rfl, P5, by omega, by decide, by decide, fun H6 x k6 P6 x0 x1 => ?_⟩
    refine ⟨_, rfl, _, rfl, d, g, T + 1 + 1 + 40 + 1 + 1, rfl, P6, by omega, hg'.1, hg'.2, fun H7 y k7 P7 y0 y1 => ?_⟩
    refine ⟨(by show 3 ≤ sizeLine; decide), fun l7 hl7 => ?_⟩
    have s7 : Same H7 (upd H7 l7 (.lst ([x, 0, y].map V.int))) := Same.laid hl7
    refine ⟨d, l7, [x, 0, y], T + 1 + 1 + 40 + 1 + 1 + 40, rfl, P7.same s7, by omega, upd_same, (by show 1 ≤ 3; decide), (by show 3 ≤ 1000; decide), fun H8 q k8 P8 hq => ?_⟩
    have hq' : 1 ≤ 1 + q ∧ (1 + q).natAbs ≤ 10 ^ 198 := by
      simp only [List.mem_cons, List.not_mem_nil, or_false] at hq
      rcases hq with rfl | rfl | rfl <;> omega
    refine ⟨1, q, rfl, rfl, ?_⟩
    refine ⟨LwMid a d T, ?_, ?_⟩
    -- c, k
    · refine ⟨_, rfl, _, rfl, d, g, T + 1 + 1 + 40 + 1 + 1 + 40 + 1, rfl, P8, by omega, hg'.1, hg'.2, fun H9 c k9 P9 cb => ?_⟩
      refine ⟨_, rfl, d, 9, T + 1 + 1 + 40 + 1 + 1 + 40 + 1 + 50, rfl, P9, by omega, by decide, by decide, fun H10 z k10 P10 z0 z1 => ?_⟩
      refine ⟨1, z, rfl, rfl, _, _, rfl, ?_⟩
      exact ⟨_, _, _, _, _, p, 1 + q, c, 1 + z, rfl, P10.mono (by omega), hp'.1, by omega, hq'.1, hq'.2, by omega, by omega, by omega⟩
    · rintro σ' H10 ⟨o2, o3, o8, o9, o10, p, r, c, m, rfl, P10, p0, pb, q1, qb, cb, m1, m9⟩
      generalize hT' : T + 200 = T' at P10
      -- the rule
      refine ⟨_, rfl, _, rfl, _, rfl, p, r, c, rfl, p0, q1, small100 (by omega), fun H11 t s11 ht => ?_⟩
      have R0 : RuleAt H11 t (rp p r) (rq p r) (rc p r c) := ⟨ht, rp_nonneg p0, rq_pos q1, red_gcd q1⟩
      have P11 := P10.same s11
      have bp := rp_le p r q1
      have bq := rq_le p r q1
      have bc := rc_le p r c q1
      -- repr of both, is_rule
      refine ⟨_, rfl, t, _, _, _, rfl, ht, low_of (by omega), low_of (by omega), low_of (by omega), ?_⟩
      refine ⟨_, rfl, _, rfl, _, rfl, p, r, c, rfl, p0, q1, small100 (by omega), fun H12 t2 s12 ht2 => ?_⟩
      refine ⟨t2, _, _, _, rfl, ht2, low_of (by omega), low_of (by omega), low_of (by omega), rfl, _, rfl, ?_⟩
      refine iteNS rfl ?_
      refine ⟨_, rfl, t, _, _, _, rfl, R0.same s12, fun H13 s13 => ?_⟩
      refine ⟨true, true, rfl, rfl, _, rfl, ?_⟩
      refine iteNS rfl ?_
      have P13 := (P11.same s12).same s13
      have R13 := (R0.same s12).same s13
      -- the multiples
      refine ⟨_, rfl, _, rfl, _, _, rfl, rfl, .inl ⟨by omega, by omega⟩, ?_⟩
      refine ⟨_, rfl, _, rfl, _, _, rfl, rfl, .inl ⟨by omega, by omega⟩, ?_⟩
      refine ⟨_, rfl, _, rfl, _, _, rfl, rfl, .inl ⟨by omega, by omega⟩, ?_⟩
      refine ⟨_, rfl, _, rfl, d, m, T', rfl, P13, by omega, m1, by omega, fun H14 e k14 P14 e0 e1 => ?_⟩
      refine ⟨_, e, rfl, rfl, ?_⟩
      have hmp : 0 ≤ m * p := Int.mul_nonneg (by omega) p0
      have hmr : 1 ≤ m * r := by
        have := Int.mul_le_mul m1 q1 (by decide) (by omega)
        omega
      have hmb : (m * r).natAbs ≤ 99 * 10 ^ 198 := by
        rw [Int.natAbs_mul]
        exact Nat.mul_le_mul (by omega) qb
      refine ⟨m * p, m * r, m * c + e, rfl, hmp, hmr, small100 hmb, fun H15 t3 s15 ht3 => ?_⟩
      rw [rp_mulk m1, rq_mulk m1, rc_mulk m1 e0 e1] at ht3
      have R15 := (R13.keep k14 P13).same s15
      have P15 := P14.same s15
      refine ⟨_, rfl, _, _, .tup (SqT.of ht3) (.cons (.int _) (.cons (.int _) (.cons (.int _) .nil))), .tup (SqT.of R15.at_) (.cons (.int _) (.cons (.int _) (.cons (.int _) .nil))), rfl, rfl, _, rfl, ?_⟩
      rw [SeqAt.eqv_refl _ rfl]
      refine iteF ?_
      -- the times
      refine ⟨_, rfl, _, rfl, t, _, 1, _, rfl, rfl, SqT.of R15.at_, rfl, d, rq p r, T' + 1, rfl, P15, by omega, R15.q1, by omega, fun H16 l16 ts k16 P16 hl16 hlen hts => ?_⟩
      have R16 := R15.keep k16 P15
      refine ⟨l16, rfl, ⟨_, SqL.of hl16⟩, ?_⟩
      refine for_list (K := K) (a := l16) (xs := ts.map V.int) (fun j σ H' => ∃ (u9 u10 : Option V), σ = [some (.ref a), some (.ref d), o2, o3, some (.int p), some (.int r), some (.int c), some (.int m), some (.ref t), u9, u10] ∧ Same H16 H') ?_ ?_ ?_ ?_
      · exact ⟨o9, o10, rfl, Same.refl _⟩
      · rintro j σ H' _ ⟨_, _, _, sj⟩
        exact sj.seq (SqL.of hl16)
      · rintro j y σ H' hy ⟨u9, u10, rfl, sj⟩
        obtain ⟨x, rfl, hx⟩ : ∃ x, y = V.int x ∧ x ∈ ts := by
          rw [List.getElem?_map] at hy
          cases e : ts[j]? with
          | none =>
            rw [e] at hy
            cases hy
          | some u =>
            rw [e] at hy
            exact ⟨u, (Option.some.inj hy).symm, List.mem_of_getElem? e⟩
        have xb := hts x hx
        have Rj := R16.same sj
        refine ⟨_, rfl, _, rfl, t, _, _, _, x, rfl, Rj, small100 (by omega), small100 (by omega), small100 (by omega), fun H17 s17 => ?_⟩
        have hc := cn_red (p := p) q1 c x
        have lw := low_cn (x := x) R15.q1 (Nat.le_trans bp (by omega)) (Nat.le_trans bc (by omega)) xb
        refine ⟨_, rfl, _, rfl, lw, ?_⟩
        refine ⟨_, rfl, _, rfl, _, _, rfl, rfl, wide_mul (a := 700) (b := 700) (small100 (by omega)) (small100 (by omega)) (by decide) (by decide) (by decide), _, rfl, _, _, rfl, rfl, _, rfl, _, _, rfl, rfl, wide_div (b := 700) (by omega) (small100 (by omega)) (by decide) (by decide), ?_⟩
        refine ⟨_, rfl, by rw [← hc]; exact lw, rfl, _, rfl, ?_⟩
        refine iteNS (by rw [hc]) ?_
        have R17 := Rj.same s17
        refine ⟨_, rfl, _, rfl, _, rfl, t, _, 1, _, rfl, rfl, SqT.of R17.at_, rfl, x, rq p r, rfl, rfl, t, _, _, _, x + rq p r, rfl, R17, small100 (by omega), small100 (by omega), small100 (by omega), fun H18 s18 => ?_⟩
        refine ⟨_, rfl, _, rfl, t, _, 0, _, rfl, rfl, SqT.of (R17.same s18).at_, rfl, _, rp p r, rfl, rfl, rfl, _, rfl, ?_⟩
        refine iteNS (by rw [cn_next _ _ _ _ R15.q1]) ?_
        exact ⟨some (.int x), some (.int (cn (rp p r) (rq p r) (rc p r c) x)), rfl, (sj.trans s17).trans s18⟩
      · rintro σ H' ⟨u9, u10, rfl, sj⟩
        refine ⟨_, rfl, d, T' + 1 + 150, rfl, P16.same sj, by omega, fun H19 k19 P19 => ⟨true, rfl, iteF ?_⟩⟩
        exact ⟨_, _, _, _, _, _, _, _, _, rfl, P19.mono (by omega)⟩
  · rintro σ H' _
    exact k _
end
end LF
-- LfEnter
namespace LF
open PySem PySem.Spec PyProof.Rows L2
section
variable {P : Program} {w : World} {K : PySem.W.Frag} {mg mb : Str → Option Value} {base : Heap} {fa a : Addr} {fd : FuncData}
/-- the law's def entered where nothing is under way: L2.fn_of of one entry, with what stands around told to the body -/
theorem law_enter {A : Around} {outer : List Env} {s : Shared} {H : Hp} {u : Value} {v : V} {Q : VK}
    (F : FnP K "law" sLaw fa fd) (B : Bi mg) (C : Calls P w K mg base) (hA : A.guards = some []) (hr : Room 7 A) (e0 : Env0 P w K mg base A outer s H)
    (hb : BindsTo s fd ⟨[u], []⟩ [("_law_script", u)]) (r : RelV v u) (hsp : spLaw K [v] H Q E0) : codeAny (model P w) A (.call (.ref fa) ⟨[u], []⟩) (CR CX0 outer P w H s Q E0) s := by
  obtain ⟨oc, od, dV, kV, doc, pm, an, cdv, ct, osl, rfl, lk, hcd, _, _⟩ := F.ex
  have stays : ∀ b o, base.get? b = some o → s.heap.get? b = some o := fun b o e => (e0.bs b o e).1
  have inK : K.In s.heap := e0.mod.kin.keeps stays
  have noLim : s.heap.NoLimit := e0.mod.nolimit.keeps stays
  have kinds : ∀ y ∈ [(("_law_script" : Str), u)], (defScope sLaw).names.lookup y.1 = some .local ∨
      ((defScope sLaw).names.lookup y.1 = some .cell ∧ ((PySem.cellsFrom (s.heap.objs.size + 1) (defScope sLaw).names []).lookup y.1).isSome = true) := fun y hy => by
    obtain rfl := List.mem_singleton.mp hy
    rcases scLaw.par "_law_script" (List.mem_singleton.mpr rfl) with z | z
    · exact .inl z
    · exact .inr ⟨z, PySem.W.cellsFrom_some _ _ _ (.inl z)⟩
  refine codeAny_call_function hr.depth (inK _ _ lk) rfl scLaw.co scLaw.gen rfl
    (PySem.W.codeRec_of inK hcd) (hb _ _ _ _ ?_)
  refine wpAny_newFunctionEnv_cells scLaw.kind kinds fun en hen s1 x => ?_
  subst hen
  refine ⟨noLim.keeps x.toInCall.keep, codeAny_func ?_⟩
  obtain ⟨t, ht, hq⟩ := law_body (f := fa) (cdv := cdv) (outer := outer) (s := s) (E := E0) B C hA (hr.deeper _) hsp
  have inv := inv_start (CX := CX0) (E := E0) (outer := outer) (f := fa) (cd := cdv) (qual := "law") scLaw hr.hd e0 (vs := [v]) rfl (.cons r .nil) x
  refine wpAny_mono (ht.nox.run [] s1 (L2.start lawN [v]) H _ inv hq)
    (fun fl s' hs => ?_) fun e s' hs => hs
  cases fl with
  | ret z =>
    obtain ⟨y, σ', H', J, rv, q⟩ := hs
    exact ⟨y, H', J.os, J.bare, J.base, J.hok, rv, q⟩
  | next =>
    obtain ⟨σ', H', J, q⟩ := hs
    exact ⟨V.non, H', J.os, J.bare, J.base, J.hok, rfl, q⟩
  | brk =>
    obtain ⟨_, _, _, q⟩ := hs
    exact q.elim
  | cont =>
    obtain ⟨_, _, _, q⟩ := hs
    exact q.elim
end
end LF
-- LfCall
namespace LF
open PySem PySem.Spec PyProof.Rows L2
/-- the script alone is tracked, known to the object (where it is no object of the module) -/
def onlyAt (a : Addr) (o : Obj) (xs : List V) : Hp := fun b => if b = a then some (.frz o (.lst xs)) else none
section
variable {P : Program} {w : World} {K : PySem.W.Frag} {mg mb : Str → Option Value} {fa a : Addr} {fd : FuncData}
/-- the law called by the claim: L2.law_call over law_enter -/
theorem law_called {s : Shared} {vs : List Value} {ns : List Int} (inK : K.In s.heap) (hns : s.heap.Ns mainGlobals mg) (hb : s.heap.Ns builtinsNs mb) (hbb : ∀ x : Str, x ≠ "__name__" → mb x = bootBuiltins x) (lim : s.heap.NoLimit) (hg : s.gens = #[])
    (ha : s.heap.get? a = some { cls := .type "list", data := .seq vs.toArray }) (hi : IntsAre vs ns) (hl : ns.length ≤ 63)
    (F : FnP K "law" sLaw fa fd) (B : Bi mg) (C : ∀ base : Heap, K.In base → base.Ns mainGlobals mg → Calls P w K mg base) (hbind : ∀ (s : Shared) (u : Value), BindsTo s fd ⟨[u], []⟩ [("_law_script", u)]) :
    codeAny (model P w) callerA (.call (.ref fa) ⟨[.ref a], []⟩) (fun r t => r = .ok (.ret (.bool true)) ∧ OldK s.heap t.heap ∧ t.os = s.os ∧ AllBare t.gens) s := by
  have rel := vals_ints hi
  have cnt := hi.length
  have line : 63 ≤ sizeLine := by decide
  -- from a heap H in which at most the script is tracked
  have core : ∀ H : Hp, SqL K H a (ns.map V.int) → HOk P w H s.heap → (∀ b, H b ≠ none → b = a) → (∀ b, H b = none ∨ ∃ o xs, H b = some (.frz o (.lst xs))) → (H a ≠ none → K.lookup a = none) →
      codeAny (model P w) callerA (.call (.ref fa) ⟨[.ref a], []⟩) (fun r t => r = .ok (.ret (.bool true)) ∧ OldK s.heap t.heap ∧ t.os = s.os ∧ AllBare t.gens) s := by
    intro H hS ok one frz apart
    -- a dict's address is not the script's
    have noDict : ∀ {b : Addr} {o : Obj} {es : Array DictEntry} {ep : Nat}, s.heap.get? b = some o → o.data = .dict es ep → H b = none := by
      intro b o es ep e hd
      by_cases z : H b = none
      · exact z
      · have q := one b z
        rw [q, ha] at e
        obtain rfl := Option.some.inj e
        cases hd
    have nsB : ∀ {b : Addr} {m : Str → Option Value}, s.heap.Ns b m → (hidT s.heap H).Ns b m := by
      rintro b m ⟨o, es, ep, e, d, rest⟩
      exact ⟨o, es, ep, hidT_get e (noDict e d), d, rest⟩
    have kB : K.In (hidT s.heap H) := by
      intro b o e
      refine hidT_get (inK b o e) ?_
      by_cases z : H b = none
      · exact z
      · have q := one b z
        rw [q] at e z
        rw [apart z] at e
        cases e
    have gB := nsB hns
    have mod : Mod K mg (hidT s.heap H) := by
      obtain ⟨mc, n1, n2⟩ := lim
      exact ⟨kB, gB, ⟨mb, nsB hb, hbb⟩, ⟨mc, nsB n1, n2⟩⟩
    have none_in : ∀ b : Addr, b ∉ ([] : List Addr) := fun b z => by cases z
    have e0 : Env0 P w K mg (hidT s.heap H) callerA [] s H := ⟨rfl, mod, fun b o e => of_hidT e, Nat.le_of_eq (hidT_size _ _), trivial, fun b z => absurd z (none_in b), ok, .of_eq hg⟩
    have run := law_enter (Q := fun v _ => v = V.bl true) (v := .ref a) F B (C _ kB gB) rfl ⟨rfl, by decide, by decide⟩ e0 (hbind s (.ref a)) rfl ⟨a, ns, rfl, hS, hl, fun _ => rfl⟩
    refine codeAny_mono run fun r t h => ?_
    match r, h with
    | .error _, h => exact h.elim
    | .ok .next, h => exact h.elim
    | .ok .brk, h => exact h.elim
    | .ok .cont, h => exact h.elim
    | .ok (.ret u), ⟨v, H', os, bare, un, ok', rv, q⟩ =>
      obtain rfl : v = V.bl true := q
      obtain rfl : u = Value.bool true := rv
      refine ⟨rfl, OldK.of_keep fun b o e => ?_, os, bare⟩
      rcases frz b with z | ⟨ob, xs, z⟩
      · exact un.keep b o e z (none_in b) (by simp)
      · have z2 := un.frzs b ob _ z
        have w1 := (ok b _ z).1
        have w2 := (ok' b _ z2).1
        rw [e] at w1
        obtain rfl := Option.some.inj w1
        exact w2
  cases hk : K.lookup a with
  | some o =>
    have e := inK a o hk
    rw [ha] at e
    obtain rfl := Option.some.inj e
    refine core (fun _ => none) (.inr ⟨_, vs.toArray, _, hk, rfl, rfl, rfl, ?_, ?_⟩) (fun b u z => nomatch z) (fun b z => absurd rfl z) (fun _ => .inl rfl) fun z => absurd rfl z
    · rw [List.size_toArray, cnt]
      omega
    · simpa using rel
  | none =>
    have at_ : onlyAt a { cls := .type "list", data := .seq vs.toArray } (ns.map V.int) a = some (.frz { cls := .type "list", data := .seq vs.toArray } (.lst (ns.map V.int))) := if_pos rfl
    have off : ∀ b, b ≠ a → onlyAt a { cls := .type "list", data := .seq vs.toArray } (ns.map V.int) b = none := fun b n => if_neg n
    refine core (onlyAt a { cls := .type "list", data := .seq vs.toArray } (ns.map V.int)) (.inl (.inr ⟨_, at_⟩)) (fun b u z => ?_) (fun b z => ?_) (fun b => ?_) fun _ => hk
    · by_cases n : b = a
      · subst n
        rw [at_] at z
        obtain rfl := Option.some.inj z
        exact ⟨ha, by rw [List.length_map]; omega, vs, _, rel, ha⟩
      · rw [off b n] at z
        cases z
    · by_cases n : b = a
      · exact n
      · exact absurd (off b n) z
    · by_cases n : b = a
      · subst n
        exact .inr ⟨_, _, at_⟩
      · exact .inl (off b n)
end
/-- what is left of a row behind the head -/
theorem law_walk {l : PySem.W.OpenLaw} {q : Program} {loose : List Str} {XP : (Str → Option Value) → Heap → Prop} {YP : World → Heap → Prop} {d : DefRec} (hn : l.most = some 63) (hdf : d.params.defaults = [])
    (hF : ∀ (w : World) (mg : Str → Option Value) (fa : Addr) (h : Heap), YP w h → h.Ns mainGlobals mg → mg d.name = some (.ref fa) →
      ∃ (K : PySem.W.Frag) (fd : FuncData), K.In h ∧ FnP K "law" sLaw fa fd ∧ Bi mg ∧ (∀ (s : Shared) (u : Value), BindsTo s fd ⟨[u], []⟩ [("_law_script", u)]) ∧ ∀ base : Heap, K.In base → base.Ns mainGlobals mg → Calls l.prog w K mg base) :
    PySem.W.WalkO q loose XP YP l.row.toRowW d [] (fun f vs => PySem.call f vs) := by
  refine Att.attach_call hn hdf fun w s₀ s₁ mg mb fa o pm cd doc a vs ns G Y _ _ _ hmg hobj hints hlen hg => ?_
  obtain ⟨K, fd, inK, F, B, hb, C⟩ := hF w mg fa _ Y G.T.g hmg
  exact law_called inK G.T.g G.T.b G.T.builtins G.T.nolimit hg hobj hints hlen F B C hb
end LF
-- LfHeadA
set_option maxHeartbeats 0
namespace LF
open PySem PySem.Spec PyProof.Rows L2
def dfn (nm x : Str) (st : Stmt) (ds : List He.Dv := []) : He.DefD := ⟨(nm, none), x, x, defArgs st, defBody st, defScope st, ds, []⟩
def lfDefs : List He.DefD := [dfn "is_integer" "is_integer" sIsInt, dfn "common_divisor" "common_divisor" sGcd, dfn "is_reduced" "is_reduced" sIsRed, dfn "is_rule_numbers" "is_rule" sIsRule,
  dfn "need_rule" "need_rule" sNeedRule, dfn "need_number" "need_number" sNeedNum [.non, .non], dfn "is_rule_rules" "is_rule" sIsRule2, dfn "reduced" "reduced" sReduced, dfn "reduce_rule" "reduce_rule" sRedRule,
  dfn "count_at" "count_at" sCountAt, dfn "count" "count" sCount, dfn "_law_pen" "_law_pen" sPen, dfn "_law_draw" "_law_draw" sDraw, dfn "_law_pick" "_law_pick" sPick, dfn "_law_great" "_law_great" sGreat,
  dfn "_law_signed" "_law_signed" sSigned, dfn "_law_gcd" "_law_gcd" sLGcd, dfn "_law_lowest" "_law_lowest" sLowest, dfn "_law_rule" "_law_rule" sRule, dfn "_law_times" "_law_times" sTimes,
  dfn "_law_alike_right" "_law_alike_right" sAlike, dfn "law" "law" sLaw]
def lfFacts : List He.Fa := [.glo "is_integer", .glo "common_divisor", .glo "is_reduced", .glo "is_rule_numbers", .glo "need_rule", .glo "need_number", .glo "is_rule_rules", .glo "reduced", .glo "reduce_rule", .glo "count_at", .glo "count",
  .glo "_law_pen", .glo "_law_draw", .glo "_law_pick", .glo "_law_great", .glo "_law_signed", .glo "_law_gcd", .glo "_law_lowest", .glo "_law_rule", .glo "_law_times", .glo "_law_alike_right", .glo "law",
  .free "isinstance", .free "int", .free "bool", .free "tuple", .free "len", .free "all", .free "list", .free "abs", .free "range", .free "repr"]
abbrev Rw : PySem.W.OpenRow := PySem.W.OpenLaw.row PySem.Challenge.rw_leapfit_k03_whole_one_rule_for_each_coun
abbrev hk : PySem.W.Hook := He.hookD 4 lfFacts lfDefs
def ob (s : PySem.W.SharedT) : He.AlD := He.obsDG 4 lfFacts lfDefs (HandSHeadRun.getT s)
theorem ob_eq (s : PySem.W.SharedT) : ob s = hk.obs s.abs := He.obsDG_eq (HandSHeadRun.getT_eq s)
def others : List Str := ["__name__", "LeapfitError", "InvalidRule", "InvalidNumber", "is_integer", "common_divisor", "is_reduced", "is_rule", "is_rule_numbers", "need_rule", "need_number", "is_rule_rules", "reduced", "reduce_rule", "count_at", "count",
  "_law_pen", "_law_draw", "_law_pick", "_law_great", "_law_signed", "_law_gcd", "_law_lowest", "_law_rule", "_law_times", "_law_alike_right"]
theorem run (w : World) : HandSHeadRun.RunEq Rw (PySem.W.view Rw.prog [30]) hk ob 1500 others w := by
  intro os
  kernel_rfl
end LF
-- LfMain
namespace LF
open PySem PySem.Spec PyProof.Rows L2
section
variable {P : Program} {w : World} {K : PySem.W.Frag} {h : Heap} {mg : Str → Option Value}
theorem facts (inK : K.In h) (G : h.Ns mainGlobals mg) (c : He.SaysD lfFacts lfDefs K) :
    (∃ (fa : Addr) (fd : FuncData), mg "law" = some (.ref fa) ∧ FnP K "law" sLaw fa fd) ∧ Bi mg ∧ ∀ base : Heap, K.In base → base.Ns mainGlobals mg → Calls P w K mg base := by
  have g : ∀ (i : Nat) (x : Str), lfFacts[i]? = some (.glo x) → mg x = some (.ref (He.ga K x)) := fun i x e => He.glo_ok inK G (c.fact i e)
  have n : ∀ (i : Nat) (x : Str), lfFacts[i]? = some (.free x) → mg x = none := fun i x e => He.free_ok inK G (c.fact i e)
  have B : Bi mg := ⟨n 22 _ rfl, n 23 _ rfl, n 24 _ rfl, n 25 _ rfl, n 26 _ rfl, n 27 _ rfl, n 28 _ rfl, n 29 _ rfl, n 30 _ rfl, n 31 _ rfl⟩
  obtain ⟨d0, F0⟩ := c.def_ 0 (d := dfn "is_integer" "is_integer" sIsInt) rfl
  obtain ⟨d1, F1⟩ := c.def_ 1 (d := dfn "common_divisor" "common_divisor" sGcd) rfl
  obtain ⟨d2, F2⟩ := c.def_ 2 (d := dfn "is_reduced" "is_reduced" sIsRed) rfl
  obtain ⟨d3, F3⟩ := c.def_ 3 (d := dfn "is_rule_numbers" "is_rule" sIsRule) rfl
  obtain ⟨d4, F4⟩ := c.def_ 4 (d := dfn "need_rule" "need_rule" sNeedRule) rfl
  obtain ⟨d5, F5⟩ := c.def_ 5 (d := dfn "need_number" "need_number" sNeedNum [.non, .non]) rfl
  obtain ⟨d6, F6⟩ := c.def_ 6 (d := dfn "is_rule_rules" "is_rule" sIsRule2) rfl
  obtain ⟨d7, F7⟩ := c.def_ 7 (d := dfn "reduced" "reduced" sReduced) rfl
  obtain ⟨d8, F8⟩ := c.def_ 8 (d := dfn "reduce_rule" "reduce_rule" sRedRule) rfl
  obtain ⟨d9, F9⟩ := c.def_ 9 (d := dfn "count_at" "count_at" sCountAt) rfl
  obtain ⟨d10, F10⟩ := c.def_ 10 (d := dfn "count" "count" sCount) rfl
  obtain ⟨d11, F11⟩ := c.def_ 11 (d := dfn "_law_pen" "_law_pen" sPen) rfl
  obtain ⟨d12, F12⟩ := c.def_ 12 (d := dfn "_law_draw" "_law_draw" sDraw) rfl
  obtain ⟨d13, F13⟩ := c.def_ 13 (d := dfn "_law_pick" "_law_pick" sPick) rfl
  obtain ⟨d14, F14⟩ := c.def_ 14 (d := dfn "_law_great" "_law_great" sGreat) rfl
  obtain ⟨d15, F15⟩ := c.def_ 15 (d := dfn "_law_signed" "_law_signed" sSigned) rfl
  obtain ⟨d16, F16⟩ := c.def_ 16 (d := dfn "_law_gcd" "_law_gcd" sLGcd) rfl
  obtain ⟨d17, F17⟩ := c.def_ 17 (d := dfn "_law_lowest" "_law_lowest" sLowest) rfl
  obtain ⟨d18, F18⟩ := c.def_ 18 (d := dfn "_law_rule" "_law_rule" sRule) rfl
  obtain ⟨d19, F19⟩ := c.def_ 19 (d := dfn "_law_times" "_law_times" sTimes) rfl
  obtain ⟨d20, F20⟩ := c.def_ 20 (d := dfn "_law_alike_right" "_law_alike_right" sAlike) rfl
  obtain ⟨d21, F21⟩ := c.def_ 21 (d := dfn "law" "law" sLaw) rfl
  refine ⟨⟨_, d21, g 21 _ rfl, F21⟩, B, fun base _ _ => ?_⟩
  have cInt : C8.Cal P w K mg base 1 "is_integer" spIsInt [] := ok_isInt F0 (g 0 _ rfl) B
  have cGcd : C8.Cal P w K mg base 1 "common_divisor" spGcd [] := ok_gcd F1 (g 1 _ rfl)
  have cRed : C8.Cal P w K mg base 2 "is_reduced" spIsRed [] := ok_isRed F2 (g 2 _ rfl) cGcd
  have cRule := ok_isRule F3 (g 3 _ rfl) B cInt cRed
  have cNeed := ok_needRule F4 (g 4 _ rfl) cRule
  have c1 := ok_need1 F5 (g 5 _ rfl) cInt
  have c2 := ok_need2 F5 (g 5 _ rfl) cInt
  have cRule2 := ok_isRule2 F6 (g 6 _ rfl) cRule
  have cReduced := ok_reduced F7 (g 7 _ rfl) cGcd
  have cReduce := ok_redRule F8 (g 8 _ rfl) c1 c2 cReduced
  have cAt : C8.Cal P w K mg base 1 "count_at" spCountAt [] := ok_countAt F9 (g 9 _ rfl)
  have cCount := ok_count F10 (g 10 _ rfl) c1 cNeed cAt
  have cPen : C8.Cal P w K mg base 1 "_law_pen" (spPen K) [] := ok_pen F11 (g 11 _ rfl) B
  have cDraw : C8.Cal P w K mg base 1 "_law_draw" spDraw [] := ok_draw F12 (g 12 _ rfl) B
  have cPick := ok_pick F13 (g 13 _ rfl) B cDraw
  have cGreat := ok_great F14 (g 14 _ rfl) B cDraw
  have cSigned := ok_signed F15 (g 15 _ rfl) cDraw cPick cGreat
  have cLGcd : C8.Cal P w K mg base 1 "_law_gcd" spGcd [] := ok_lgcd F16 (g 16 _ rfl)
  have cLowest := ok_lowest F17 (g 17 _ rfl) cLGcd
  have cLRule := ok_rule F18 (g 18 _ rfl) cDraw cPick cLowest
  have cTimes := ok_times F19 (g 19 _ rfl) cDraw cSigned
  have cAlike := ok_alike F20 (g 20 _ rfl) B cDraw cLRule cReduce cCount
  exact ⟨cPen, cDraw, cPick, cGreat, cSigned, cLowest, cReduce, cRule2, cCount, cTimes, cAlike⟩
end
end LF
open PySem PySem.W PySem.Calls PyProof.Rows
theorem PySem.Challenge.cw_leapfit_k03_whole_one_rule_for_each_coun_holds : PySem.Challenge.rw_leapfit_k03_whole_one_rule_for_each_coun.Holds := by
  w_on; o_law
  refine HandSHeadRun.head_any (r := OpenLaw.row PySem.Challenge.rw_leapfit_k03_whole_one_rule_for_each_coun) (q := view (OpenLaw.row PySem.Challenge.rw_leapfit_k03_whole_one_rule_for_each_coun).prog [30])
    (H := LF.hk) (ob := LF.ob) (M := 1500) (loose := LF.others) (d := HandSHeadRun.topDef (OpenLaw.row PySem.Challenge.rw_leapfit_k03_whole_one_rule_for_each_coun).prog 30) (kwd := []) LF.ob_eq
    (by kernel_rfl) (fun s => by kernel_rfl) LF.run (by kernel_rfl) (by kernel_rfl) (by kernel_rfl) (by rfl) (by first | assumption | decide +kernel) (by decide +kernel) ⟨rfl, rfl, rfl, rfl, rfl, by decide +kernel⟩ ?hw ?hc
  case hw => w_witness2
  case hc =>
    refine LF.law_walk (l := PySem.Challenge.rw_leapfit_k03_whole_one_rule_for_each_coun) rfl (by kernel_rfl) fun w mg fa h Y G hmg0 => ?_
    obtain ⟨K, inK, c⟩ := Y
    have hmg : mg ("law" : PySem.Str) = some (.ref fa) := by
      have e : (HandSHeadRun.topDef (OpenLaw.row PySem.Challenge.rw_leapfit_k03_whole_one_rule_for_each_coun).prog 30).name = ("law" : PySem.Str) := by kernel_rfl
      rw [← e]
      exact hmg0
    obtain ⟨⟨fl, fd, gl, F⟩, B, C⟩ := LF.facts (P := (PySem.Challenge.rw_leapfit_k03_whole_one_rule_for_each_coun).prog) (w := w) inK G c
    cases hmg.symm.trans gl
    have b := L2.FunD.bindsA (ps := ["_law_script"]) F fun _ _ _ _ _ _ us hl => match us, hl with | [_], _ => rfl
    exact ⟨K, fd, inK, F, B, fun s v => b s [v] rfl, C⟩
