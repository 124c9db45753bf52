import PyProof.Rows.All
import Wide.All
import OpenK.AllK
import Wide.FinOn
import PySem.Challenge.RW_xm0708_01
open PySem PySem.W PyProof.Rows
set_option Elab.async false
set_option maxRecDepth 100000
set_option maxHeartbeats 8000000
namespace Mine
open_top hd for PySem.Challenge.rw_xm0708_01


/-! plain arithmetic: the root, the half, what is asked of a part -/
def IsRoot (n r : Int) : Prop := 0 ≤ r ∧ r * r ≤ n ∧ n < (r + 1) * (r + 1)
structure IsPart (x sq r : Int) : Prop where
  zero : x = 0 → r = 0
  pos : 0 < x → 0 ≤ r
  neg : x < 0 → r ≤ 0
  low : r = 0 ∨ (2 * (r.natAbs : Int) - 1) * (2 * (r.natAbs : Int) - 1) * sq ≤ (32768 * x) * (32768 * x)
  high : (32768 * x) * (32768 * x) < (2 * (r.natAbs : Int) + 1) * (2 * (r.natAbs : Int) + 1) * sq
  small : (r.natAbs : Int) ≤ 16384
theorem quot_nonneg {x sq : Int} (hs : 0 < sq) : 0 ≤ (4 * 16384 * 16384 * x * x).fdiv sq := by
  rw [Int.fdiv_eq_ediv_of_nonneg _ (by omega)]
  have : 0 ≤ x * x := by
    rcases Int.le_total 0 x with h | h
    · exact Int.mul_nonneg h h
    · exact Int.mul_nonneg_of_nonpos_of_nonpos h h
  have e : 4 * 16384 * 16384 * x * x = 1073741824 * (x * x) := by grind
  rw [e]
  exact Int.ediv_nonneg (by omega) (by omega)
theorem quot_le {x sq : Int} (hs : 0 < sq) (hx : x * x ≤ sq) : (4 * 16384 * 16384 * x * x).fdiv sq ≤ 1073741824 := by
  rw [Int.fdiv_eq_ediv_of_nonneg _ (by omega)]
  have e : 4 * 16384 * 16384 * x * x = 1073741824 * (x * x) := by grind
  rw [e]
  refine Int.ediv_le_of_le_mul hs ?_
  omega
structure Half (x sq s : Int) : Prop where
  nn : 0 ≤ s
  le : s ≤ 16384
  zero : x = 0 → s = 0
  low : s = 0 ∨ (2 * s - 1) * (2 * s - 1) * sq ≤ (32768 * x) * (32768 * x)
  high : (32768 * x) * (32768 * x) < (2 * s + 1) * (2 * s + 1) * sq
theorem half_of {x sq r : Int} (hs : 0 < sq) (hx : x * x ≤ sq) (hr : IsRoot ((4 * 16384 * 16384 * x * x).fdiv sq) r) : Half x sq ((r + 1).fdiv 2) := by
  have n0 := quot_nonneg (x := x) hs
  have n1 := quot_le hs hx
  have e : (32768 * x) * (32768 * x) = 4 * 16384 * 16384 * x * x := by grind
  have hz : x = 0 → (4 * 16384 * 16384 * x * x).fdiv sq = 0 := by
    intro h; subst h
    simp
  have d1 : (4 * 16384 * 16384 * x * x).fdiv sq * sq ≤ 4 * 16384 * 16384 * x * x := by
    rw [Int.fdiv_eq_ediv_of_nonneg _ (by omega)]
    exact Int.ediv_mul_le _ (by omega)
  have d2 : 4 * 16384 * 16384 * x * x < ((4 * 16384 * 16384 * x * x).fdiv sq + 1) * sq := by
    rw [Int.fdiv_eq_ediv_of_nonneg _ (by omega)]
    exact Int.lt_ediv_add_one_mul_self _ hs
  generalize (4 * 16384 * 16384 * x * x).fdiv sq = n at *
  obtain ⟨r0, r1, r2⟩ := hr
  rw [Int.fdiv_eq_ediv_of_nonneg _ (by decide)]
  have s1 : 2 * ((r + 1) / 2) ≤ r + 1 := by omega
  have s2 : r + 1 ≤ 2 * ((r + 1) / 2) + 1 := by omega
  have s0 : 0 ≤ (r + 1) / 2 := by omega
  have hr32 : r ≤ 32768 := by
    rcases Int.lt_or_le 32768 r with h | h
    · have : 32769 * 32769 ≤ r * r := Int.mul_le_mul (by omega) (by omega) (by omega) (by omega)
      omega
    · exact h
  generalize (r + 1) / 2 = s at *
  refine ⟨s0, by omega, ?_, ?_, ?_⟩
  · intro h
    have := hz h
    subst this
    have : r = 0 := by
      rcases Int.lt_or_le 0 r with h | h
      · have := Int.mul_pos h h
        omega
      · omega
    omega
  · rcases Int.lt_or_le 0 s with h | h
    · right
      have q : (2 * s - 1) * (2 * s - 1) ≤ r * r := Int.mul_le_mul (by omega) (by omega) (by omega) (by omega)
      have q2 : (2 * s - 1) * (2 * s - 1) * sq ≤ n * sq := Int.mul_le_mul_of_nonneg_right (by omega) (by omega)
      omega
    · left; omega
  · have q : (r + 1) * (r + 1) ≤ (2 * s + 1) * (2 * s + 1) := Int.mul_le_mul (by omega) (by omega) (by omega) (by omega)
    have q2 : (n + 1) * sq ≤ (2 * s + 1) * (2 * s + 1) * sq := Int.mul_le_mul_of_nonneg_right (by omega) (by omega)
    omega
theorem part_pos {x sq r : Int} (hs : 0 < sq) (hx : x * x ≤ sq) (hr : IsRoot ((4 * 16384 * 16384 * x * x).fdiv sq) r) (h : 0 ≤ x) : IsPart x sq ((r + 1).fdiv 2) := by
  have H := half_of hs hx hr
  generalize (r + 1).fdiv 2 = s at *
  have e : (s.natAbs : Int) = s := by have := H.nn; omega
  exact ⟨H.zero, fun _ => H.nn, fun h' => by omega, by rw [e]; exact H.low, by rw [e]; exact H.high, by rw [e]; exact H.le⟩
theorem part_neg {x sq r : Int} (hs : 0 < sq) (hx : x * x ≤ sq) (hr : IsRoot ((4 * 16384 * 16384 * x * x).fdiv sq) r) (h : ¬ 0 ≤ x) : IsPart x sq (0 - (r + 1).fdiv 2) := by
  have H := half_of hs hx hr
  generalize (r + 1).fdiv 2 = s at *
  have e : ((0 - s).natAbs : Int) = s := by have := H.nn; omega
  exact ⟨fun h' => by omega, fun h' => by omega, fun h' => by have := H.nn; omega, by rw [e]; exact (H.low.imp (fun h => by omega) id), by rw [e]; exact H.high, by rw [e]; exact H.le⟩


/-! whole_root: the walk and its loop's word -/
abbrev Claim (w : World) (mean : ExcName → Option Value) (mg mb : Str → Option Value) (f : Addr) (d : Nat) (news : List (Addr × Obj)) (vs : List Value) (Out : Value → Prop) : Prop :=
  ∀ (dp un : Nat) (gd : Option (List Code)) (cn : Str) (cs : Scope) (a : Addr) (ccd : Value) (cl : List (Str × Addr)) (outer : List Env) (A₀ : Around) (base h₀ : Heap) (L : Addr) (m : Str → Option Value) (s : Shared) (Q E : Value → Shared → Prop),
    Below A₀ base outer h₀ → Fr h₀ L s.heap m → Frag.In (hd.heap_39 w.params) h₀ → News h₀ L s.heap news → Top hd.view_39 (looseW hd.view_39 []) mean mg mb h₀ → cs.kind = .function →
    dp + d < recursionLimit → un + 8 * d < cLine →
    (∀ (v : Value) (h' : Heap) (tk' : Nat), Out v → Fr h₀ L h' m → News h₀ L h' news → Q v { s with heap := h', toks := tk' }) →
    wpAny (model PySem.Challenge.rw_xm0708_01.row.prog w) (ktrTop dp un gd cn cs L a ccd cl outer) (call (.ref f) vs) Q E s
def J (n f : Int) : Prop := 0 < f ∧ f ≤ 65536 ∧ n < (f + 1) * (f + 1)
theorem bits_fit {n : Int} (h0 : 0 ≤ n) (h1 : n ≤ 1073741824) : 0 ≤ (↑(Builtin.Int.intBits n) + 1 : Int).fdiv 2 ∧ (↑(Builtin.Int.intBits n) + 1 : Int).fdiv 2 ≤ 16 ∧ n < 2 ^ (2 * ((↑(Builtin.Int.intBits n) + 1 : Int).fdiv 2).toNat) := by
  have e : Builtin.Int.intBits n ≤ 31 ∧ n < 2 ^ Builtin.Int.intBits n := by
    unfold Builtin.Int.intBits
    by_cases hz : n = 0
    · subst hz; simp
    · have hb : (n == 0) = false := by simp [hz]
      rw [hb]
      simp only [Bool.false_eq_true, if_false]
      have hn : n.natAbs ≠ 0 := by omega
      have l1 : n.natAbs.log2 < 31 := (Nat.log2_lt hn).mpr (by have : (2:Nat)^31 = 2147483648 := by decide
                                                               omega)
      have l2 : n.natAbs < 2 ^ (n.natAbs.log2 + 1) := Nat.lt_log2_self
      refine ⟨by omega, ?_⟩
      have : ((2 ^ (n.natAbs.log2 + 1) : Nat) : Int) = (2 : Int) ^ (n.natAbs.log2 + 1) := by simp
      rw [← this]; omega
  obtain ⟨e1, e2⟩ := e
  generalize Builtin.Int.intBits n = b at *
  have hf : (↑b + 1 : Int).fdiv 2 = (((b + 1) / 2 : Nat) : Int) := by
    rw [Int.fdiv_eq_ediv_of_nonneg _ (by decide)]; omega
  rw [hf]
  refine ⟨by omega, by omega, ?_⟩
  have hle : (2 : Nat) ^ b ≤ 2 ^ (2 * ((b + 1) / 2)) := Nat.pow_le_pow_right (by decide) (by omega)
  have c1 : ((2 ^ b : Nat) : Int) = (2 : Int) ^ b := by simp
  have c2 : ((2 ^ (2 * ((b + 1) / 2)) : Nat) : Int) = (2 : Int) ^ (2 * ((b + 1) / 2)) := by simp
  rw [Int.toNat_natCast, ← c2]
  rw [← c1] at e2
  omega
theorem J_start {n : Int} (h0 : 0 ≤ n) (h1 : n ≤ 1073741824) : J n (1 * 2 ^ ((↑(Builtin.Int.intBits n) + 1 : Int).fdiv 2).toNat) := by
  obtain ⟨b1, b2, b3⟩ := bits_fit h0 h1
  generalize (↑(Builtin.Int.intBits n) + 1 : Int).fdiv 2 = k at *
  have hk : k.toNat ≤ 16 := by omega
  generalize k.toNat = j at *
  have e : (2 : Int) ^ (2 * j) = 2 ^ j * 2 ^ j := by rw [← Int.pow_add]; congr 1; omega
  rw [e] at b3
  have p0 : (0 : Int) < 2 ^ j := Int.pow_pos (by decide)
  have p1 : (2 : Int) ^ j ≤ 2 ^ 16 := by
    have := Nat.pow_le_pow_right (n := 2) (by decide) hk
    have c1 : ((2 ^ j : Nat) : Int) = (2 : Int) ^ j := by simp
    have c2 : ((2 ^ 16 : Nat) : Int) = (2 : Int) ^ 16 := by simp
    omega
  rw [Int.one_mul]
  generalize (2 : Int) ^ j = f at *
  refine ⟨p0, by simpa using p1, ?_⟩
  have : (f + 1) * (f + 1) = f * f + f + f + 1 := by grind
  omega
theorem J_step {n f : Int} (h2 : ¬ n < 2) (hJ : J n f) (hf : n < f * f) : J n ((f + n.fdiv f).fdiv 2) ∧ (f + n.fdiv f).fdiv 2 < f := by
  obtain ⟨j1, j2, _⟩ := hJ
  have hq : n.fdiv f = n / f := Int.fdiv_eq_ediv_of_nonneg _ (by omega)
  rw [hq, Int.fdiv_eq_ediv_of_nonneg _ (by decide)]
  have d1 : f * (n / f) ≤ n := Int.mul_ediv_self_le (by omega)
  have d2 : n < f * (n / f + 1) := by
    have := Int.lt_ediv_add_one_mul_self n j1
    rw [Int.mul_comm]; exact this
  have q0 : 0 ≤ n / f := Int.ediv_nonneg (by omega) (by omega)
  generalize n / f = q at *
  have q1 : q < f := by
    refine Int.lt_of_not_ge fun hge => ?_
    have := Int.mul_le_mul_of_nonneg_left hge (by omega : 0 ≤ f)
    omega
  have g1 : 2 * ((f + q) / 2) ≤ f + q := by omega
  have g2 : f + q + 1 ≤ 2 * ((f + q) / 2 + 1) := by omega
  have f2 : 2 ≤ f := by
    rcases Int.lt_or_le f 2 with hge | hge
    · have : f = 1 := by omega
      subst this; omega
    · exact hge
  have g0 : 0 < (f + q) / 2 := by omega
  generalize (f + q) / 2 = g at *
  refine ⟨⟨g0, by omega, ?_⟩, by omega⟩
  have s1 : (f + q + 1) * (f + q + 1) ≤ (2 * (g + 1)) * (2 * (g + 1)) := Int.mul_le_mul g2 g2 (by omega) (by omega)
  have s2 : 0 ≤ (f - (q + 1)) * (f - (q + 1)) := by
    rcases Int.le_total 0 (f - (q+1)) with h | h
    · exact Int.mul_nonneg h h
    · exact Int.mul_nonneg_of_nonpos_of_nonpos h h
  have s3 : (f + q + 1) * (f + q + 1) = (f - (q + 1)) * (f - (q + 1)) + 4 * (f * (q + 1)) := by grind
  have s4 : (2 * (g + 1)) * (2 * (g + 1)) = 4 * ((g + 1) * (g + 1)) := by grind
  omega
theorem J_start' {n : Int} (h0 : 0 ≤ n) (h1 : n ≤ 1073741824) : 0 < (1 * 2 ^ ((↑(Builtin.Int.intBits n) + 1 : Int).fdiv 2).toNat : Int) ∧ (1 * 2 ^ ((↑(Builtin.Int.intBits n) + 1 : Int).fdiv 2).toNat : Int) ≤ 65536 ∧ J n (1 * 2 ^ ((↑(Builtin.Int.intBits n) + 1 : Int).fdiv 2).toNat) := ⟨(J_start h0 h1).1, (J_start h0 h1).2.1, J_start h0 h1⟩
theorem J_next {n f : Int} (h2 : ¬ n < 2) (hJ : J n f) (hf : n < f * f) : 0 < ((f + n.fdiv f).fdiv 2) ∧ ((f + n.fdiv f).fdiv 2) ≤ 65536 ∧ J n ((f + n.fdiv f).fdiv 2) :=
  have h := (J_step h2 hJ hf).1
  ⟨h.1, h.2.1, h⟩
theorem J_less {n f : Int} (h2 : ¬ n < 2) (hJ : J n f) (hf : n < f * f) : ((f + n.fdiv f).fdiv 2).toNat < f.toNat := by
  have h := (J_step h2 hJ hf).2
  have p := (J_step h2 hJ hf).1.1
  omega
theorem root_small {n : Int} (h0 : 0 ≤ n) (h : n < 2) : IsRoot n n := by
  have : n = 0 ∨ n = 1 := by omega
  rcases this with rfl | rfl
  · exact ⟨by decide, by decide, by decide⟩
  · exact ⟨by decide, by decide, by decide⟩
theorem root_end {n f : Int} (hJ : J n f) (h : ¬ n < f * f) : IsRoot n f := ⟨Int.le_of_lt hJ.1, by omega, hJ.2.2⟩
theorem root_ok (w : World) (mean : ExcName → Option Value) (mg mb : Str → Option Value) (n : Int) (t : Tok) (h0 : 0 ≤ n) (h1 : n ≤ 1073741824) (news : List (Addr × Obj)) :
    Claim w mean mg mb 21 1 news [.int n t] (fun v => ∃ r t, v = .int r t ∧ IsRoot n r) := by
  have hb1 := (bits_fit h0 h1).1
  have hb2 : (↑(Builtin.Int.intBits n) + 1 : Int).fdiv 2 ≤ 1000000 := Int.le_trans (bits_fit h0 h1).2.1 (by decide)
  unfold Claim
  k_fill
  intro dp un gd cn cs a ccd cl outer A₀ base h₀ L m s Q E hB hF hX hN hT hk hd hu hret
  refine wpAny_call ?_
  k_dflt cell_enter
  k_with "exec While Compare cons nil" => k_while (fun _ found => 0 < found ∧ found ≤ 65536 ∧ J n found) (fun _ found => found.toNat) "found"
  k_with "state" => exact J_start' (by assumption) (by assumption)
  k_with "state" => exact J_next (by assumption) (by assumption) (by assumption)
  k_with "measure" => exact J_less (by assumption) (by assumption) (by assumption)
  k_steps
  · exact hret _ _ _ ⟨_, _, rfl, root_small h0 (by assumption)⟩ (by assumption) (by assumption)
  · exact hret _ _ _ ⟨_, _, rfl, root_end (by assumption) (by assumption)⟩ (by assumption) (by assumption)


/-! unit_part -/
local macro_rules | `(tactic| walk_at "call ref") => `(tactic| (
  k_here
  (show wpAny _ _ (call (Value.ref 21) [Value.int _ _]) _ _ _)
  k_dflt (refine' root_ok _ _ _ _ _ _ ?p0 ?p1 _ _ _ _ _ _ _ _ _ _ _ _ _ _ _ _ _ _ ?k1 ?k2 ?k3 ?k4 ?k5 ?kK ?kd ?ku ?_)
  (case k1 => k_asm)
  (case k2 => k_asm)
  (case k3 => k_asm)
  (case k4 => k_asm)
  (case k5 => k_asm)
  (case kK => first | exact rfl | assumption)
  (case kd => ktr_room)
  (case ku => ktr_units)
  (case p0 => assumption)
  (case p1 => assumption)
  intro v9 h9 tk9 hv9 F9 N9
  obtain ⟨r9, t9, e9, hr9⟩ := hv9
  subst e9
  (try dsimp only)
  (try k_fold)))
theorem small_log {y : Int} (h0 : 0 < y) (h1 : y ≤ 10000000000000000000000000) : y.natAbs.log2 < 9000 := by
  have : y.natAbs.log2 < 100 := (Nat.log2_lt (by omega)).mpr (by have : (2:Nat)^100 = 1267650600228229401496703205376 := by decide
                                                                 omega)
  omega
theorem floordiv_sq {prog : Program} {w : World} {A : Around} {E : Value → Shared → Prop} {s : Shared} {a b : Int} {t u : Tok} {Q : Value → Shared → Prop} (h0 : 0 < b) (h1 : b ≤ 10000000000000000000000000) (h : Q (.int (a.fdiv b) s.toks) { s with toks := s.toks + 1 }) :
    wpAny (model prog w) A (binaryOp .FloorDiv (.int a t) (.int b u)) Q E s := floordiv_int (by omega) h (Or.inl (PyProof.noPylong_of_log2 (small_log h0 h1)))
local macro_rules | `(tactic| walk_at "binaryOp FloorDiv int int") => `(tactic| (k_here; (with_reducible refine floordiv_sq (by assumption) (by assumption) ?_)))
theorem unit_part_ok (w : World) (mean : ExcName → Option Value) (mg mb : Str → Option Value) (x sq : Int) (t u : Tok) (h0 : -1000000000000 ≤ x) (h1 : x ≤ 1000000000000) (hs : 0 < sq) (hS : sq ≤ 10000000000000000000000000) (hx : x * x ≤ sq) (news : List (Addr × Obj)) :
    Claim w mean mg mb 28 2 news [.int x t, .int sq u] (fun v => ∃ r t, v = .int r t ∧ IsPart x sq r) := by
  have hn0 : 0 ≤ (4 * 16384 * 16384 * x * x).fdiv sq := quot_nonneg hs
  have hn1 : (4 * 16384 * 16384 * x * x).fdiv sq ≤ 1073741824 := quot_le hs hx
  unfold Claim
  k_fill
  intro dp un gd cn cs a ccd cl outer A₀ base h₀ L m s Q E hB hF hX hN hT hk hd hu hret
  refine wpAny_call ?_
  k_dflt cell_enter
  k_steps
  · exact hret _ _ _ ⟨_, _, rfl, part_pos hs hx (by assumption) (by assumption)⟩ (by assumption) (by assumption)
  · exact hret _ _ _ ⟨_, _, rfl, part_neg hs hx (by assumption) (by assumption)⟩ (by assumption) (by assumption)


/-! law_is_part -/
structure PowAs (y z : Int) : Prop where
  eq : y ^ Int.toNat 2 = z
  fits : y.natAbs < 2 ^ 64
structure IsAbs (x sq r a W P1 P2 : Int) : Prop where
  abs : (if r < 0 then -r else r) = a
  nn : 0 ≤ a
  le : a ≤ 16384
  w : PowAs (2 * 16384 * x) W
  q1 : PowAs (2 * a - 1) P1
  q2 : PowAs (2 * a + 1) P2
  low : a = 0 ∨ P1 * sq ≤ W
  high : W < P2 * sq
  fit1 : IntMulOk P1 sq
  fit2 : IntMulOk P2 sq
theorem sq_of (y : Int) : y ^ Int.toNat 2 = y * y := by
  show y ^ 2 = y * y
  rw [Int.pow_succ, Int.pow_succ, Int.pow_zero, Int.one_mul]
theorem sq_fits {y : Int} (h0 : -40000 ≤ y) (h1 : y ≤ 40000) (z : Int) : IntMulOk (y * y) z := by
  have l : 0 ≤ y * y := by
    rcases Int.le_total 0 y with h | h
    · exact Int.mul_nonneg h h
    · exact Int.mul_nonneg_of_nonpos_of_nonpos h h
  have u : y * y ≤ 40000 * 40000 := by
    rcases Int.le_total 0 y with h | h
    · exact Int.mul_le_mul h1 h1 h (by decide)
    · have : (-y) * (-y) ≤ 40000 * 40000 := Int.mul_le_mul (by omega) (by omega) (by omega) (by decide)
      rw [Int.neg_mul_neg] at this
      exact this
  exact IntMulOk.of_left (intBits_le_64 (by omega) (by omega))
theorem abs_of {x sq r : Int} (h0 : -1000000000000 ≤ x) (h1 : x ≤ 1000000000000) (H : IsPart x sq r) : ∃ a W P1 P2, IsAbs x sq r a W P1 P2 := by
  have l := H.low
  have h := H.high
  have s := H.small
  have e : 32768 * x = 2 * 16384 * x := by omega
  rw [e] at l h
  refine ⟨(r.natAbs : Int), _, _, _, ⟨by split <;> omega, by omega, s, ⟨sq_of _, by omega⟩, ⟨sq_of _, by omega⟩, ⟨sq_of _, by omega⟩, l.imp (fun h => by omega) id, h, sq_fits (by omega) (by omega) _, sq_fits (by omega) (by omega) _⟩⟩
theorem call_abs_as {prog : Program} {w : World} {A : Around} {E : Value → Shared → Prop} {s : Shared} {a b : Int} {t : Tok} {Q : Value → Shared → Prop} (e : (if b < 0 then -b else b) = a) (h : ∀ u tk, Q (.int a u) { s with toks := tk }) :
    wpAny (model prog w) A (call (.builtin "abs") [.int b t]) Q E s := by
  subst e
  exact call_abs_int h
theorem pow_as {prog : Program} {w : World} {A : Around} {E : Value → Shared → Prop} {s : Shared} {y z : Int} {t u : Tok} {Q : Value → Shared → Prop} (e : PowAs y z) (h : Q (.int z s.toks) { s with toks := s.toks + 1 }) :
    wpAny (model prog w) A (binaryOp .Pow (.int y t) (.int 2 u)) Q E s := by
  obtain ⟨rfl, hf⟩ := e
  exact pow_int_small (by decide) (by decide) hf h
local macro_rules | `(tactic| walk_at "call builtin:abs") => `(tactic| (k_here; (refine call_abs_as (by assumption) ?_); intro _ _))
local macro_rules | `(tactic| walk_at "binaryOp Pow int int") => `(tactic| (k_here; (refine pow_as (by assumption) ?_)))
local macro_rules | `(tactic| mul_fits) => `(tactic| assumption)
theorem sign_ok {x sq r : Int} (H : IsPart x sq r) (hx : x ≠ 0) (hr : r ≠ 0) : ¬ (decide (0 < r) != decide (0 < x)) = true := by
  have p := H.pos
  have n := H.neg
  rcases Int.lt_or_le 0 x with h | h
  · have : 0 < r := by have := p h; omega
    simp [this, h]
  · have : ¬ 0 < r := by have := n (by omega); omega
    have h' : ¬ 0 < x := by omega
    simp [this, h']
theorem part_end {h₀ h : Heap} {L : Addr} {m : Str → Option Value} {news more : List (Addr × Obj)} {s : Shared} {Q : Value → Shared → Prop} {v : Value} {tk : Nat}
    (hret : ∀ (v : Value) (h' : Heap) (tk' : Nat), v = .bool true → Fr h₀ L h' m → News h₀ L h' news → Q v { s with heap := h', toks := tk' }) (e : v = .bool true) (F : Fr h₀ L h m) (N : News h₀ L h (more ++ news)) : Q v { s with heap := h, toks := tk } :=
  hret _ _ _ e F fun p hp => N p (List.mem_append.mpr (.inr hp))
theorem part_end0 {h₀ h : Heap} {L : Addr} {m : Str → Option Value} {news : List (Addr × Obj)} {s : Shared} {Q : Value → Shared → Prop} {v : Value} {tk : Nat}
    (hret : ∀ (v : Value) (h' : Heap) (tk' : Nat), v = .bool true → Fr h₀ L h' m → News h₀ L h' news → Q v { s with heap := h', toks := tk' }) (e : v = .bool true) (F : Fr h₀ L h m) (N : News h₀ L h news) : Q v { s with heap := h, toks := tk } :=
  hret _ _ _ e F N
theorem is_part_ok (w : World) (mean : ExcName → Option Value) (mg mb : Str → Option Value) (x sq r : Int) (t u v : Tok) (h0 : -1000000000000 ≤ x) (h1 : x ≤ 1000000000000) (H : IsPart x sq r) (news : List (Addr × Obj)) :
    Claim w mean mg mb 70 1 news [.int x t, .int sq u, .int r v] (fun v => v = .bool true) := by
  obtain ⟨z, W, P1, P2, A⟩ := abs_of h0 h1 H
  have p1 := A.abs
  have p2 := A.nn
  have p3 := A.le
  have p4 := A.fit1
  have p5 := A.fit2
  have p6 := A.w
  have p7 := A.q1
  have p8 := A.q2
  unfold Claim
  k_fill
  intro dp un gd cn cs a ccd cl outer A₀ base h₀ L m s Q E hB hF hX hN hT hk hd hu hret
  refine wpAny_call ?_
  k_dflt cell_enter
  k_steps
  all_goals first
    | exact part_end (more := [_]) hret (congrArg Value.bool (decide_eq_true A.high)) (by assumption) (by assumption)
    | exact part_end (more := [_]) hret (congrArg Value.bool (decide_eq_true (A.low.resolve_left (by assumption)))) (by assumption) (by assumption)
    | exact part_end0 hret (congrArg Value.bool (beq_iff_eq.mpr (H.zero (by assumption)))) (by assumption) (by assumption)
    | exact absurd (by assumption) (sign_ok H (by assumption) (by assumption))
    | exact absurd ‹z = 0› (by assumption)


/-! law_line_right: places that are not alike -/
structure Both (x y : Int) : Prop where
  x0 : -1000000000000 ≤ x
  x1 : x ≤ 1000000000000
  y0 : -1000000000000 ≤ y
  y1 : y ≤ 1000000000000
  pos : 0 < x * x + y * y
theorem sq_nn (x : Int) : 0 ≤ x * x := by
  rcases Int.le_total 0 x with h | h
  · exact Int.mul_nonneg h h
  · exact Int.mul_nonneg_of_nonpos_of_nonpos h h
theorem sq_le {x : Int} (h0 : -1000000000000 ≤ x) (h1 : x ≤ 1000000000000) : x * x ≤ 1000000000000000000000000 := by
  rcases Int.le_total 0 x with h | h
  · exact Int.mul_le_mul h1 h1 h (by decide)
  · have : (-x) * (-x) ≤ 1000000000000 * 1000000000000 := Int.mul_le_mul (by omega) (by omega) (by omega) (by decide)
    rw [Int.neg_mul_neg] at this
    exact this
theorem Both.top {x y : Int} (H : Both x y) : x * x + y * y ≤ 10000000000000000000000000 := by
  have a := sq_le H.x0 H.x1
  have b := sq_le H.y0 H.y1
  omega
theorem Both.turn {x y : Int} (H : Both x y) : Both (0 - y) x := by
  have a := H.x0
  have b := H.x1
  have c := H.y0
  have d := H.y1
  refine ⟨by omega, by omega, a, b, ?_⟩
  have e : (0 - y) * (0 - y) + x * x = x * x + y * y := by grind
  rw [e]; exact H.pos
theorem Both.left {x y : Int} (_ : Both x y) : x * x ≤ x * x + y * y := by
  have := sq_nn y
  omega
theorem Both.right {x y : Int} (_ : Both x y) : y * y ≤ x * x + y * y := by
  have := sq_nn x
  omega
theorem part_turn {x y z r : Int} (H : IsPart z ((0 - y) * (0 - y) + x * x) r) : IsPart z (x * x + y * y) r := by
  have e : (0 - y) * (0 - y) + x * x = x * x + y * y := by grind
  rw [← e]; exact H
theorem unit_ok_x {w : World} {mean : ExcName → Option Value} {mg mb : Str → Option Value} {x y : Int} {t u : Tok} (H : Both x y) (news : List (Addr × Obj)) :
    Claim w mean mg mb 28 2 news [.int x t, .int (x * x + y * y) u] (fun v => ∃ r t, v = .int r t ∧ IsPart x (x * x + y * y) r) := unit_part_ok w mean mg mb x (x * x + y * y) t u H.x0 H.x1 H.pos H.top H.left news
theorem unit_ok_y {w : World} {mean : ExcName → Option Value} {mg mb : Str → Option Value} {x y : Int} {t u : Tok} (H : Both x y) (news : List (Addr × Obj)) :
    Claim w mean mg mb 28 2 news [.int y t, .int (x * x + y * y) u] (fun v => ∃ r t, v = .int r t ∧ IsPart y (x * x + y * y) r) := unit_part_ok w mean mg mb y (x * x + y * y) t u H.y0 H.y1 H.pos H.top H.right news
def Bnd (x : Int) : Prop := -1000000000000 ≤ x ∧ x ≤ 1000000000000
theorem part_ok_of {w : World} {mean : ExcName → Option Value} {mg mb : Str → Option Value} {x sq r : Int} {t u v : Tok} (h : Bnd x) (H : IsPart x sq r) (news : List (Addr × Obj)) :
    Claim w mean mg mb 70 1 news [.int x t, .int sq u, .int r v] (fun v => v = .bool true) := is_part_ok w mean mg mb x sq r t u v h.1 h.2 H news
local macro_rules | `(tactic| walk_at "call ref") => `(tactic| (
  k_here
  (show wpAny _ _ (call (Value.ref 28) [Value.int _ _, Value.int _ _]) _ _ _)
  k_dflt (first
    | (refine' unit_ok_x (x := _) (y := _) ?p0 _ _ _ _ _ _ _ _ _ _ _ _ _ _ _ _ _ _ ?k1 ?k2 ?k3 ?k4 ?k5 ?kK ?kd ?ku ?_; (case p0 => first | assumption | (refine Both.turn ?_; assumption)))
    | (refine' unit_ok_y (x := _) (y := _) ?p0 _ _ _ _ _ _ _ _ _ _ _ _ _ _ _ _ _ _ ?k1 ?k2 ?k3 ?k4 ?k5 ?kK ?kd ?ku ?_; (case p0 => first | assumption | (refine Both.turn ?_; assumption))))
  (case k1 => k_asm)
  (case k2 => k_asm)
  (case k3 => k_asm)
  (case k4 => k_asm)
  (case k5 => k_asm)
  (case kK => first | exact rfl | assumption)
  (case kd => ktr_room)
  (case ku => ktr_units)
  intro v9 h9 tk9 hv9 F9 N9
  obtain ⟨r9, t9, e9, hr9⟩ := hv9
  subst e9
  (try dsimp only)
  (try k_fold)))
local macro_rules | `(tactic| walk_at "call ref") => `(tactic| (
  k_here
  (show wpAny _ _ (call (Value.ref 70) [Value.int _ _, Value.int _ _, Value.int _ _]) _ _ _)
  k_dflt (refine' part_ok_of ?p0 ?p1 _ _ _ _ _ _ _ _ _ _ _ _ _ _ _ _ _ _ ?k1 ?k2 ?k3 ?k4 ?k5 ?kK ?kd ?ku ?_)
  (case p0 => k_dflt assumption)
  (case p1 => k_dflt (first | assumption | (refine part_turn ?_; assumption)))
  (case k1 => k_asm)
  (case k2 => k_asm)
  (case k3 => k_asm)
  (case k4 => k_asm)
  (case k5 => k_asm)
  (case kK => first | exact rfl | assumption)
  (case kd => ktr_room)
  (case ku => ktr_units)
  intro v9 h9 tk9 e9 F9 N9
  subst e9
  (try dsimp only)
  (try k_fold)))
local macro_rules | `(tactic| k_room) => `(tactic| ktr_room)
def LedgerStart (_ : List (Addr × Obj)) : Prop := True
theorem LedgerStart.of {h₀ h : Heap} {L : Addr} {news : List (Addr × Obj)} (_ : News h₀ L h news) : LedgerStart news := trivial
theorem unr_same {h₀ : Heap} {L I : Addr} {it : Obj} {rest : (Str → Option Value) → List (Addr × Obj) → Prop} {s₁ : Shared} {h' : Heap} {tk : Nat} {m' : Str → Option Value} {all start : List (Addr × Obj)} (_ : LedgerStart start) (F : Fr h₀ L h' m') (N : News h₀ L h' all)
    (sub : ∀ p ∈ (I, it) :: start, p ∈ all) (off : AllLt I start) (r : rest m' start) : UnrEnd h₀ L s₁ I it rest { s₁ with heap := h', toks := tk } :=
  UnrEnd.intro F N start sub (fun p hp => Nat.ne_of_lt (ktn_ltOf off p hp)) r
local macro_rules | `(tactic| walk_at "pyIter ref") => `(tactic| (
  k_here
  (rename Fr _ _ _ _ => lF')
  (rename News _ _ _ _ => lN')
  (with_unfolding_all refine iter_listUnr (vs := [.bool false, .bool true]) (lo := W.listOf #[.bool false, .bool true] 0) (by rfl) lF' lN' (by k_mem) (by rfl) (by rfl) ?_)
  (have mk := LedgerStart.of lN')
  clear lF'
  intro i' l1
  (try k_lt l1)))
local macro_rules | `(tactic| walk_at "UnrEnd") => `(tactic| (
  (rename News _ _ _ _ => nE')
  (refine unr_same (by assumption) (by assumption) nE' ?sub (by kcu_lt) ⟨by k_mem, ?_⟩)
  (case sub => (
    intro p hp
    first
      | k_dflt exact hp
      | k_dflt exact .tail _ hp
      | k_dflt exact .tail _ (.tail _ hp)
      | k_dflt exact .tail _ (.tail _ (.tail _ hp))
      | k_dflt exact .tail _ (.tail _ (.tail _ (.tail _ hp)))
      | k_dflt exact .tail _ (.tail _ (.tail _ (.tail _ (.tail _ hp))))
      | k_dflt exact .tail _ (.tail _ (.tail _ (.tail _ (.tail _ (.tail _ hp)))))
      | k_dflt exact .tail _ (.tail _ (.tail _ (.tail _ (.tail _ (.tail _ (.tail _ hp))))))))))
theorem right_far (w : World) (mean : ExcName → Option Value) (mg mb : Str → Option Value) (p q : Addr) (a b c d : Int) (ta tb tc td : Tok) (n1 n2 : Nat) (H : Both (c - a) (d - b)) (news : List (Addr × Obj))
    (x y : Bool) (hx : (c - a == 0) = x) (hy : (d - b == 0) = y) (hz : (0 - (d - b) == 0) = y) (hs : ((c - a) * (c - a) + (d - b) * (d - b) == 0) = false) (hxy : (x = false ∧ y = false) ∨ (x = false ∧ y = true) ∨ (x = true ∧ y = false)) :
    Claim w mean mg mb 77 12 ((p, { cls := .type "tuple", data := .seq #[.int a ta, .int b tb] n1 }) :: (q, { cls := .type "tuple", data := .seq #[.int c tc, .int d td] n2 }) :: news) [.ref p, .ref q] (fun v => v = .bool true) := by
  have b0 := H.x0
  have b1 := H.x1
  have b2 := H.y0
  have b3 := H.y1
  have b4 : Bnd (c - a) := ⟨b0, b1⟩
  have b5 : Bnd (d - b) := ⟨b2, b3⟩
  have b6 : Bnd (0 - (d - b)) := ⟨by omega, by omega⟩
  unfold Claim
  k_fill
  intro dp un gd cn cs fa ccd cl outer A₀ base h₀ L m s Q E hB hF hX hN hT hk hd hu hret
  rcases hxy with ⟨c1, c2⟩ | ⟨c1, c2⟩ | ⟨c1, c2⟩
  all_goals (
    subst c1 c2
    refine wpAny_call ?_
    k_dflt cell_enter
    k_steps
    exact part_end (more := [_, _]) hret rfl (by assumption) (by assumption))


/-! law_line_right: places that are alike, and both -/
theorem sq_pos {x : Int} (h : x ≠ 0) : 0 < x * x := by
  rcases Int.lt_or_gt_of_ne h with h | h
  · exact Int.mul_pos_of_neg_of_neg h h
  · exact Int.mul_pos h h
local macro_rules | `(tactic| units_room) => `(tactic| ktr_units)
theorem right_near (w : World) (mean : ExcName → Option Value) (mg mb : Str → Option Value) (p q : Addr) (a b c d : Int) (ta tb tc td : Tok) (n1 n2 : Nat) (e1 : c - a = 0) (e2 : d - b = 0) (news : List (Addr × Obj)) :
    Claim w mean mg mb 77 12 ((p, { cls := .type "tuple", data := .seq #[.int a ta, .int b tb] n1 }) :: (q, { cls := .type "tuple", data := .seq #[.int c tc, .int d td] n2 }) :: news) [.ref p, .ref q] (fun v => v = .bool true) := by
  have hx : (c - a == 0) = true := by rw [e1]; rfl
  have hy : (d - b == 0) = true := by rw [e2]; rfl
  have hs : ((c - a) * (c - a) + (d - b) * (d - b) == 0) = true := by rw [e1, e2]; rfl
  unfold Claim
  k_fill
  intro dp un gd cn cs fa ccd cl outer A₀ base h₀ L m s Q E hB hF hX hN hT hk hd hu hret
  refine wpAny_call ?_
  k_dflt cell_enter
  k_steps
  exact part_end (more := [_, _]) hret rfl (by assumption) (by assumption)
theorem right_ok (w : World) (mean : ExcName → Option Value) (mg mb : Str → Option Value) (p q : Addr) (a b c d : Int) (ta tb tc td : Tok) (n1 n2 : Nat) (hx : Bnd (c - a)) (hy : Bnd (d - b)) (news : List (Addr × Obj)) :
    Claim w mean mg mb 77 12 ((p, { cls := .type "tuple", data := .seq #[.int a ta, .int b tb] n1 }) :: (q, { cls := .type "tuple", data := .seq #[.int c tc, .int d td] n2 }) :: news) [.ref p, .ref q] (fun v => v = .bool true) := by
  by_cases e1 : c - a = 0
  · by_cases e2 : d - b = 0
    · exact right_near w mean mg mb p q a b c d ta tb tc td n1 n2 e1 e2 news
    · have hp : 0 < (c - a) * (c - a) + (d - b) * (d - b) := by
        have h1 := sq_nn (c - a)
        have h2 := sq_pos e2
        omega
      exact right_far w mean mg mb p q a b c d ta tb tc td n1 n2 ⟨hx.1, hx.2, hy.1, hy.2, hp⟩ news true false (beq_iff_eq.mpr e1) (beq_eq_false_iff_ne.mpr e2) (beq_eq_false_iff_ne.mpr (by omega)) (beq_eq_false_iff_ne.mpr (by omega)) (.inr (.inr ⟨rfl, rfl⟩))
  · have hp : 0 < (c - a) * (c - a) + (d - b) * (d - b) := by
      have h1 := sq_pos e1
      have h2 := sq_nn (d - b)
      omega
    by_cases e2 : d - b = 0
    · exact right_far w mean mg mb p q a b c d ta tb tc td n1 n2 ⟨hx.1, hx.2, hy.1, hy.2, hp⟩ news false true (beq_eq_false_iff_ne.mpr e1) (beq_iff_eq.mpr e2) (beq_iff_eq.mpr (by omega)) (beq_eq_false_iff_ne.mpr (by omega)) (.inr (.inl ⟨rfl, rfl⟩))
    · exact right_far w mean mg mb p q a b c d ta tb tc td n1 n2 ⟨hx.1, hx.2, hy.1, hy.2, hp⟩ news false false (beq_eq_false_iff_ne.mpr e1) (beq_eq_false_iff_ne.mpr e2) (beq_eq_false_iff_ne.mpr (by omega)) (beq_eq_false_iff_ne.mpr (by omega)) (.inl ⟨rfl, rfl⟩)


/-! law_take: a list of two whole numbers is turned -/
abbrev pool (x y : Int) (t u : Tok) (n : Nat) : Obj := W.listOf #[.int x t, .int y u] n
abbrev TakeClaim (w : World) (mean : ExcName → Option Value) (mg mb : Str → Option Value) (d : Addr) (n : Nat) (news : List (Addr × Obj)) (g : Obj → List (Addr × Obj)) (top : Int) (u : Tok) : Prop :=
  ∀ (dp un : Nat) (gd : Option (List Code)) (cn : Str) (cs : Scope) (a : Addr) (ccd : Value) (cl : List (Str × Addr)) (outer : List Env) (A₀ : Around) (base h₀ : Heap) (L : Addr) (m : Str → Option Value) (s : Shared) (Q E : Value → Shared → Prop),
    Below A₀ base outer h₀ → Fr h₀ L s.heap m → Frag.In (hd.heap_39 w.params) h₀ → News h₀ L s.heap news → Top hd.view_39 (looseW hd.view_39 []) mean mg mb h₀ → cs.kind = .function →
    dp + 1 < recursionLimit → un + 8 < cLine →
    (∀ (r x y : Int) (tr tx ty : Tok) (h' : Heap) (tk' : Nat), 0 ≤ r → r < top → 0 ≤ x → 0 ≤ y → y < 2147483647 → Fr h₀ L h' m → News h₀ L h' (g (pool x y tx ty n)) → Q (.int r tr) { s with heap := h', toks := tk' }) →
    wpAny (model PySem.Challenge.rw_xm0708_01.row.prog w) (ktrTop dp un gd cn cs L a ccd cl outer) (call (.ref 56) [.ref d, .int top u]) Q E s
theorem mul_pool (z b : Int) : IntMulOk (z.fmod 2147483647) b := by
  have l : 0 ≤ z.fmod 2147483647 := Int.fmod_nonneg_of_pos _ (by decide)
  have u : z.fmod 2147483647 < 2147483647 := Int.fmod_lt_of_pos _ (by decide)
  exact IntMulOk.of_left (intBits_le_64 (by omega) (by omega))
theorem fdiv_nn {x y : Int} (h : 0 ≤ x) (hy : 0 < y) : 0 ≤ x.fdiv y := by
  rw [Int.fdiv_eq_ediv_of_nonneg _ (by omega)]
  exact Int.ediv_nonneg h (by omega)
local macro_rules | `(tactic| mul_fits) => `(tactic| k_dflt exact mul_pool _ _)
local macro_rules | `(tactic| k_all) => `(tactic| assumption)
theorem take_head (w : World) (mean : ExcName → Option Value) (mg mb : Str → Option Value) (d : Addr) (n : Nat) (x y : Int) (tx ty : Tok) (top : Int) (u : Tok) (h0 : 0 ≤ x) (h1 : 0 ≤ y) (h2 : y < 2147483647) (hp : 0 < top) (hT : top ≤ 1000) (rest : List (Addr × Obj)) (hr : ∀ p ∈ rest, p.1 ≠ d) :
    TakeClaim w mean mg mb d n ((d, pool x y tx ty n) :: rest) (fun o => (d, o) :: rest) top u := by
  unfold TakeClaim
  k_fill
  intro dp un gd cn cs fa ccd cl outer A₀ base h₀ L m s Q E hB hF hX hN hT hk hd hu hret
  refine wpAny_call ?_
  k_dflt cell_enter
  k_steps
  · refine' hret _ _ _ _ _ _ _ _ ?a1 ?b1 ?c1 ?d1 ?e1 ?f1 ?g1
    case g1 => assumption
    case f1 => assumption
    case a1 => exact Int.fmod_nonneg_of_pos _ hp
    case b1 => exact Int.fmod_lt_of_pos _ hp
    case c1 => exact fdiv_nn h0 hp
    case d1 => exact h1
    case e1 => exact h2
  · refine' hret _ _ _ _ _ _ _ _ ?a2 ?b2 ?c2 ?d2 ?e2 ?f2 ?g2
    case g2 => assumption
    case f2 => assumption
    case a2 => exact Int.fmod_nonneg_of_pos _ hp
    case b2 => exact Int.fmod_lt_of_pos _ hp
    case c2 => exact h0
    case d2 => exact Int.fmod_nonneg_of_pos _ (by decide)
    case e2 => exact Int.fmod_lt_of_pos _ (by decide)
theorem take_ok (w : World) (mean : ExcName → Option Value) (mg mb : Str → Option Value) (d : Addr) (n : Nat) (x y : Int) (tx ty : Tok) (top : Int) (u : Tok) (h0 : 0 ≤ x) (h1 : 0 ≤ y) (h2 : y < 2147483647) (hp : 0 < top) (hT : top ≤ 1000) (news : List (Addr × Obj)) (g : Obj → List (Addr × Obj)) (U : UpdF d (pool x y tx ty n) news g) :
    TakeClaim w mean mg mb d n news g top u := by
  obtain ⟨pre, post, e1, e2, p1, p2⟩ := U.split
  intro dp un gd cn cs fa ccd cl outer A₀ base h₀ L m s Q E hB hF hX hN hT' hk hd hu hret
  refine take_head w mean mg mb d n x y tx ty top u h0 h1 h2 hp hT (pre ++ post) (fun p hq => (List.mem_append.mp hq).elim (p1 p) (p2 p)) dp un gd cn cs fa ccd cl outer A₀ base h₀ L m s Q E hB hF hX (fun p hq => hN p ?_) hT' hk hd hu (fun r x y tr tx ty h' tk' a b c d e f N => hret r x y tr tx ty h' tk' a b c d e f (fun p hq => N p ?_))
  · rw [e1]
    rcases List.mem_cons.mp hq with rfl | hq
    · exact List.mem_append.mpr (.inr (.head _))
    · exact (List.mem_append.mp hq).elim (fun h => List.mem_append.mpr (.inl h)) fun h => List.mem_append.mpr (.inr (.tail _ h))
  · rw [e2] at hq
    rcases List.mem_append.mp hq with hq | hq
    · exact .tail _ (List.mem_append.mpr (.inl hq))
    · rcases List.mem_cons.mp hq with rfl | hq
      · exact .head _
      · exact .tail _ (List.mem_append.mpr (.inr hq))


/-! law_one -/
abbrev OneClaim (w : World) (mean : ExcName → Option Value) (mg mb : Str → Option Value) (d e : Addr) (n : Nat) (news : List (Addr × Obj)) (g : Obj → List (Addr × Obj)) (ns : List Int) : Prop :=
  ∀ (dp un : Nat) (gd : Option (List Code)) (cn : Str) (cs : Scope) (a : Addr) (ccd : Value) (cl : List (Str × Addr)) (outer : List Env) (A₀ : Around) (base h₀ : Heap) (L : Addr) (m : Str → Option Value) (s : Shared) (Q E : Value → Shared → Prop),
    Below A₀ base outer h₀ → Fr h₀ L s.heap m → Frag.In (hd.heap_39 w.params) h₀ → News h₀ L s.heap news → Top hd.view_39 (looseW hd.view_39 []) mean mg mb h₀ → cs.kind = .function →
    dp + 2 < recursionLimit → un + 16 < cLine →
    (∀ (v x y : Int) (tr tx ty : Tok) (h' : Heap) (tk' : Nat), v ∈ ns → 0 ≤ x → 0 ≤ y → y < 2147483647 → Fr h₀ L h' m → News h₀ L h' (g (pool x y tx ty n)) → Q (.int v tr) { s with heap := h', toks := tk' }) →
    wpAny (model PySem.Challenge.rw_xm0708_01.row.prog w) (ktrTop dp un gd cn cs L a ccd cl outer) (call (.ref 63) [.ref d, .ref e]) Q E s
local macro_rules | `(tactic| walk_at "call ref") => `(tactic| (
  k_here
  (show wpAny _ _ (call (Value.ref 56) [Value.ref _, Value.int _ _]) _ _ _)
  k_dflt (refine' take_ok _ _ _ _ _ _ _ _ _ _ _ _ ?p0 ?p1 ?p2 ?p3 ?p4 _ _ ?pU _ _ _ _ _ _ _ _ _ _ _ _ _ _ _ _ _ ?k1 ?k2 ?k3 ?k4 ?k5 ?kK ?kd ?ku ?_)
  (case k1 => k_asm)
  (case k2 => k_asm)
  (case k3 => k_asm)
  (case k4 => k_asm)
  (case k5 => k_asm)
  (case kK => first | exact rfl | assumption)
  (case kd => ktr_room)
  (case ku => ktr_units)
  (case pU => k_updF)
  (case p0 => assumption)
  (case p1 => assumption)
  (case p2 => assumption)
  (case p3 => l_bnd)
  (case p4 => l_bnd)
  intro r9 x9 y9 tr9 tx9 ty9 h9 tk9 r90 r91 x90 y90 y91 F9 N9
  (try dsimp only at N9)
  (try dsimp only)
  (try k_fold)))
theorem getD_mem {ns : List Int} {r : Int} (h0 : 0 ≤ r) (h : r < (ns.length : Int)) : ns.getD r.toNat 0 ∈ ns := by
  have hl : r.toNat < ns.length := by omega
  rw [List.getD_eq_getElem?_getD, List.getElem?_eq_getElem hl]
  exact List.getElem_mem hl
theorem one_head (w : World) (mean : ExcName → Option Value) (mg mb : Str → Option Value) (d e : Addr) (n c : Nat) (x y : Int) (tx ty : Tok) (vs : List Value) (ns : List Int) (h0 : 0 ≤ x) (h1 : 0 ≤ y) (h2 : y < 2147483647) (hI : IntsAre vs ns) (hp : 0 < ns.length) (hT : ns.length ≤ 1000) (rest : List (Addr × Obj)) (he : e ≠ d) (hr : ∀ p ∈ (e, W.listOf vs.toArray c) :: rest, p.1 ≠ d) :
    OneClaim w mean mg mb d e n ((d, pool x y tx ty n) :: (e, W.listOf vs.toArray c) :: rest) (fun o => (d, o) :: (e, W.listOf vs.toArray c) :: rest) ns := by
  unfold OneClaim
  k_fill
  intro dp un gd cn cs fa ccd cl outer A₀ base h₀ L m s Q E hB hF hX hN hT' hk hd hu hret
  refine wpAny_call ?_
  k_dflt cell_enter
  k_steps
  refine' hret _ _ _ _ _ _ _ _ ?a1 ?b1 ?c1 ?d1 ?f1 ?g1
  case g1 => assumption
  case f1 => assumption
  case a1 =>
    have hl := IntsAre.length hI
    exact getD_mem (by assumption) (by simp only [List.size_toArray] at *; omega)
  all_goals assumption
theorem one_ok (w : World) (mean : ExcName → Option Value) (mg mb : Str → Option Value) (d e : Addr) (n c : Nat) (x y : Int) (tx ty : Tok) (vs : List Value) (ns : List Int) (h0 : 0 ≤ x) (h1 : 0 ≤ y) (h2 : y < 2147483647) (hI : IntsAre vs ns) (hp : 0 < ns.length) (hT : ns.length ≤ 1000) (news : List (Addr × Obj)) (g : Obj → List (Addr × Obj)) (U : UpdF d (pool x y tx ty n) news g) (he : (e, W.listOf vs.toArray c) ∈ news) (hne : e ≠ d) :
    OneClaim w mean mg mb d e n news g ns := by
  obtain ⟨pre, post, e1, e2, p1, p2⟩ := U.split
  intro dp un gd cn cs fa ccd cl outer A₀ base h₀ L m s Q E hB hF hX hN hT' hk hd hu hret
  refine one_head w mean mg mb d e n c x y tx ty vs ns h0 h1 h2 hI hp hT (pre ++ post) hne (fun p hq => ?_) dp un gd cn cs fa ccd cl outer A₀ base h₀ L m s Q E hB hF hX (fun p hq => hN p ?_) hT' hk hd hu (fun r x y tr tx ty h' tk' a b c d e N => hret r x y tr tx ty h' tk' a b c d e (fun p hq => N p ?_))
  · rcases List.mem_cons.mp hq with rfl | hq
    · exact hne
    · exact (List.mem_append.mp hq).elim (p1 p) (p2 p)
  · rw [e1]
    rcases List.mem_cons.mp hq with rfl | hq
    · exact List.mem_append.mpr (.inr (.head _))
    · rcases List.mem_cons.mp hq with rfl | hq
      · rw [← e1]; exact he
      · exact (List.mem_append.mp hq).elim (fun h => List.mem_append.mpr (.inl h)) fun h => List.mem_append.mpr (.inr (.tail _ h))
  · rw [e2] at hq
    rcases List.mem_append.mp hq with hq | hq
    · exact .tail _ (.tail _ (List.mem_append.mpr (.inl hq)))
    · rcases List.mem_cons.mp hq with rfl | hq
      · exact .head _
      · exact .tail _ (.tail _ (List.mem_append.mpr (.inr hq)))


/-! law_pool -/
abbrev PoolClaim (w : World) (mean : ExcName → Option Value) (mg mb : Str → Option Value) (news : List (Addr × Obj)) (l : Addr) (vs : List Value) (ns : List Int) : Prop :=
  ∀ (dp un : Nat) (gd : Option (List Code)) (cn : Str) (cs : Scope) (a : Addr) (ccd : Value) (cl : List (Str × Addr)) (outer : List Env) (A₀ : Around) (base h₀ : Heap) (L : Addr) (m : Str → Option Value) (s : Shared) (Q E : Value → Shared → Prop),
    Below A₀ base outer h₀ → Fr h₀ L s.heap m → Frag.In (hd.heap_39 w.params) h₀ → News h₀ L s.heap news → Top hd.view_39 (looseW hd.view_39 []) mean mg mb h₀ → cs.kind = .function →
    dp + 1 < recursionLimit → un + 8 < cLine → base.IsList l vs.toArray → IntsAre vs ns → ns.length < 2 ^ 62 →
    (∀ (D : Addr) (x y : Int) (tx ty : Tok) (h' : Heap) (tk' : Nat), 0 ≤ x → 0 ≤ y → y < 2147483647 → Fr h₀ L h' m → News h₀ L h' ((D, pool x y tx ty 0) :: news) → (∀ p ∈ news, p.1 < D) → Q (.ref D) { s with heap := h', toks := tk' }) →
    wpAny (model PySem.Challenge.rw_xm0708_01.row.prog w) (ktrTop dp un gd cn cs L a ccd cl outer) (call (.ref 49) [.ref l]) Q E s
theorem pool_end {h₀ h' : Heap} {L D : Addr} {m : Str → Option Value} {news : List (Addr × Obj)} {s : Shared} {Q : Value → Shared → Prop} {x y : Int} {tx ty : Tok} {tk' : Nat}
    (hret : ∀ (D : Addr) (x y : Int) (tx ty : Tok) (h' : Heap) (tk' : Nat), 0 ≤ x → 0 ≤ y → y < 2147483647 → Fr h₀ L h' m → News h₀ L h' ((D, pool x y tx ty 0) :: news) → (∀ p ∈ news, p.1 < D) → Q (.ref D) { s with heap := h', toks := tk' })
    (F : Fr h₀ L h' m) (N : News h₀ L h' ((D, pool x y tx ty 0) :: news)) (l : ∀ p ∈ news, p.1 < D) (hx : 0 ≤ x) (hy : 0 ≤ y) (hy' : y < 2147483647) : Q (.ref D) { s with heap := h', toks := tk' } := hret D x y tx ty h' tk' hx hy hy' F N l
theorem pool_ok (w : World) (mean : ExcName → Option Value) (mg mb : Str → Option Value) (l : Addr) (vs : List Value) (ns : List Int) (news : List (Addr × Obj)) :
    PoolClaim w mean mg mb news l vs ns := by
  unfold PoolClaim
  k_fill
  intro dp un gd cn cs fa ccd cl outer A₀ base h₀ L m s Q E hB hF hX hN hT' hk hd hu hL hI hlen hret
  refine wpAny_call ?_
  k_dflt cell_enter
  k_steps
  all_goals exact pool_end hret (by assumption) (by assumption) (by assumption) (by first | assumption | omega) (Int.fmod_nonneg_of_pos _ (by decide)) (Int.fmod_lt_of_pos _ (by decide))


/-! the loop over the six turns, from kst_range -/
abbrev PState : Type := Int × Int × Tok × Tok
abbrev ledAt (sm src : Addr) (so : Obj) (n : Nat) (c : PState) : List (Addr × Obj) := [(sm, so), (src, pool c.1 c.2.1 c.2.2.1 c.2.2.2 n)]
abbrev namesAt (sm src : Addr) (_ : PState) : List (Str × Value) := [(Str.ofString "source", .ref src), (Str.ofString "some", .ref sm)]
abbrev goodAt (c : PState) : Prop := 0 ≤ c.1 ∧ 0 ≤ c.2.1 ∧ c.2.1 < 2147483647
abbrev turned : List Str := [Str.ofString "first", Str.ofString "across", Str.ofString "up"]
theorem loop_gen {prog : Program} {w : World} {A : Around} {E : Value → Shared → Prop} {s : Shared} {env : Env} {h₀ : Heap} {x : Str} {body : List Stmt} {Q : Flow → Shared → Prop} {r src sm L : Addr} {so : Obj} {t₀ u₀ v₀ : Tok} {m₀ : Str → Option Value} {news : List (Addr × Obj)} {a b : Int} {ta tb : Tok} {n : Nat}
    (hL : env.locals = L) (hh : A.handled = none) (hr : IsRange s.heap r 0 6 1 t₀ u₀ v₀) (F : Fr h₀ L s.heap m₀) (N : News h₀ L s.heap news)
    (hsrc : m₀ (Str.ofString "source") = some (.ref src)) (hsm : m₀ (Str.ofString "some") = some (.ref sm)) (ms : (src, pool a b ta tb n) ∈ news) (mo : (sm, so) ∈ news) (hne : sm ≠ src) (f0 : 0 ≤ a) (f1 : 0 ≤ b) (f2 : b < 2147483647)
    (turn : ∀ (a b : Int) (ta tb : Tok) (pre : List Int) (k : Int) (t : Tok) (u : Str → Option Value) (h : Heap) (tk : Nat) (own : List (Addr × Obj)), 0 ≤ a → 0 ≤ b → b < 2147483647 → sm ≠ src → (∀ p ∈ own, p.1 ≠ src) →
      Fr h₀ L h (fun y => if y = x then some (.int k t) else kstB (fun z => if turned.contains z then u z else m₀ z) (namesAt sm src (a, b, ta, tb)) y) →
      News h₀ L h ((src, pool a b ta tb n) :: (sm, so) :: own) →
      wpAny (model prog w) A (execs body env) (InvPostN h₀ L (KstS (ledAt sm src so n) (namesAt sm src) goodAt x turned m₀ (fun _ _ => True) (pre ++ [k])) own [sm, src] { s with heap := h, toks := tk } Q) E { s with heap := h, toks := tk })
    (done : ∀ (a b : Int) (ta tb : Tok) (m : Str → Option Value) (h : Heap) (tk : Nat), Fr h₀ L h m → News h₀ L h (ledAt sm src so n (a, b, ta, tb)) → Q .next { s with heap := h, toks := tk }) :
    wpAny (model prog w) A (pyIter (.ref r)) (fun it s₂ => LoopAtV prog w A h₀ env x body Q E it s₂) E s := by
  subst hL
  refine kst_range (n := 6) (ledAt sm src so n) (namesAt sm src) goodAt turned (fun _ _ => True) (a, b, ta, tb) hh hr (by decide) (by decide) F (fun p hp => N p ?_) ⟨f0, f1, f2⟩ (fun p hp => ?_) trivial ?_ ?_
  · rcases List.mem_cons.mp hp with rfl | hp
    · exact mo
    · rcases List.mem_cons.mp hp with rfl | hp
      · exact ms
      · exact nomatch hp
  · rcases List.mem_cons.mp hp with rfl | hp
    · exact hsrc
    · rcases List.mem_cons.mp hp with rfl | hp
      · exact hsm
      · exact nomatch hp
  · rintro ⟨a, b, ta, tb⟩ pre k t u h tk own _ _ hoff hf _ F' N'
    refine turn a b ta tb pre k t u h tk own hf.1 hf.2.1 hf.2.2 hne (fun p hp => hoff p hp src (.tail _ (.head _))) F' (fun p hp => N' p ?_)
    rcases List.mem_cons.mp hp with rfl | hp
    · exact .tail _ (.head _)
    · rcases List.mem_cons.mp hp with rfl | hp
      · exact .head _
      · exact .tail _ (.tail _ hp)
  · rintro ⟨a, b, ta, tb⟩ u h tk hf _ F' N'
    exact done a b ta tb _ h tk F' N'


/-! the law -/
abbrev pair (a b : Int) (ta tb : Tok) (n : Nat) : Obj := { cls := .type "tuple", data := .seq #[.int a ta, .int b tb] n }
theorem right_at (w : World) (mean : ExcName → Option Value) (mg mb : Str → Option Value) (p q : Addr) (a b c d : Int) (ta tb tc td : Tok) (n1 n2 : Nat) (hx : Bnd (c - a)) (hy : Bnd (d - b)) (news : List (Addr × Obj))
    (hp : (p, pair a b ta tb n1) ∈ news) (hq : (q, pair c d tc td n2) ∈ news) : Claim w mean mg mb 77 12 news [.ref p, .ref q] (fun v => v = .bool true) := by
  intro dp un gd cn cs fa ccd cl outer A₀ base h₀ L m s Q E hB hF hX hN hT hk hd hu hret
  refine right_ok w mean mg mb p q a b c d ta tb tc td n1 n2 hx hy news dp un gd cn cs fa ccd cl outer A₀ base h₀ L m s Q E hB hF hX (fun r hr => hN r ?_) hT hk hd hu (fun v h' tk' o F N => hret v h' tk' o F fun r hr => N r (.tail _ (.tail _ hr)))
  rcases List.mem_cons.mp hr with rfl | hr
  · exact hp
  · rcases List.mem_cons.mp hr with rfl | hr
    · exact hq
    · exact hr
def Halt (P : Prop) : Prop := P
theorem halt {P : Prop} (h : Halt P) : P := h
theorem bnd_add {a v : Int} (h : Bnd v) : Bnd (a + v - a) := by
  have e : a + v - a = v := by omega
  rw [e]; exact h
local macro_rules | `(tactic| walk_at "call ref") => `(tactic| (
  k_here
  (show wpAny _ _ (call (Value.ref 77) [Value.ref _, Value.ref _]) _ _ _)
  k_dflt (refine' right_at _ _ _ _ _ _ _ _ _ _ _ _ _ _ _ _ ?px ?py _ ?pp ?pq _ _ _ _ _ _ _ _ _ _ _ _ _ _ _ _ _ ?k1 ?k2 ?k3 ?k4 ?k5 ?kK ?kd ?ku ?_)
  (case k1 => k_asm)
  (case k2 => k_asm)
  (case k3 => k_asm)
  (case k4 => k_asm)
  (case k5 => k_asm)
  (case kK => first | exact rfl | assumption)
  (case kd => ktr_room)
  (case ku => ktr_units)
  (case pp => k_dflt k_mem)
  (case pq => k_dflt k_mem)
  (case px => k_dflt (first | (refine ⟨?_, ?_⟩ <;> decide) | (refine bnd_add ?_; assumption)))
  (case py => k_dflt (first | (refine ⟨?_, ?_⟩ <;> decide) | (refine bnd_add ?_; assumption)))
  intro v9 h9 tk9 e9 F9 N9
  subst e9
  (try dsimp only)
  (try k_fold)))
local macro_rules | `(tactic| walk_at "call ref") => `(tactic| (
  k_here
  (show wpAny _ _ (call (Value.ref 49) [Value.ref _]) _ _ _)
  k_dflt (refine' pool_ok _ _ _ _ _ _ _ _ _ _ _ _ _ _ _ _ _ _ _ _ _ _ _ _ _ ?k1 ?k2 ?k3 ?k4 ?k5 ?kK ?kd ?ku ?kL ?kI ?kl ?_)
  (case k1 => k_asm)
  (case k2 => k_asm)
  (case k3 => k_asm)
  (case k4 => k_asm)
  (case k5 => k_asm)
  (case kK => first | exact rfl | assumption)
  (case kd => ktr_room)
  (case ku => ktr_units)
  (case kL => k_asm)
  (case kI => l_ints)
  (case kl => l_fit)
  intro D9 x9 y9 tx9 ty9 h9 tk9 x90 y90 y91 F9 N9 l1
  (try dsimp only)
  (try k_lt l1)
  (try k_fold)))
local macro_rules | `(tactic| walk_at "binaryOp Pow int int") => `(tactic| (refine pow_int_small (by decide) (by decide) (by decide) ?_))
local macro_rules | `(tactic| walk_at "pyIter ref") => `(tactic| (refine halt ?_))
theorem bnd_neg {v : Int} (h : Bnd v) : Bnd (0 - v) := by
  have h1 := h.1
  have h2 := h.2
  exact ⟨by omega, by omega⟩
theorem bnd_of {v : Int} (h : -1000000000000 ≤ v) (h' : v ≤ 1000000000000) : Bnd v := ⟨h, h'⟩
theorem bnd_use {v : Int} {ns : List Int} {P : Prop} (h : v ∈ ns) (b : ∀ u ∈ ns, Bnd u) (k : Bnd v → P) : P := k (b v h)
theorem bnd_mem {v : Int} {ns : List Int} (h : v ∈ ns) (b : ∀ u ∈ ns, Bnd u) : Bnd v := b v h
local macro_rules | `(tactic| walk_at "call ref") => `(tactic| (
  k_here
  (show wpAny _ _ (call (Value.ref 56) [Value.ref _, Value.int _ _]) _ _ _)
  k_dflt (refine' take_ok _ _ _ _ _ _ _ _ _ _ _ _ ?p0 ?p1 ?p2 ?p3 ?p4 _ _ ?pU _ _ _ _ _ _ _ _ _ _ _ _ _ _ _ _ _ ?k1 ?k2 ?k3 ?k4 ?k5 ?kK ?kd ?ku ?_)
  (case k1 => k_asm)
  (case k2 => k_asm)
  (case k3 => k_asm)
  (case k4 => k_asm)
  (case k5 => k_asm)
  (case kK => first | exact rfl | assumption)
  (case kd => ktr_room)
  (case ku => ktr_units)
  (case pU => k_dflt k_updF)
  (case p0 => assumption)
  (case p1 => assumption)
  (case p2 => assumption)
  (case p3 => l_bnd)
  (case p4 => l_bnd)
  intro r9 x9 y9 tr9 tx9 ty9 h9 tk9 r90 r91 x90 y90 y91 F9 N9
  (try dsimp only at N9)
  (try dsimp only)
  (try k_fold)))
local macro_rules | `(tactic| walk_at "call ref") => `(tactic| (
  k_here
  (show wpAny _ _ (call (Value.ref 63) [Value.ref _, Value.ref _]) _ _ _)
  k_dflt (refine' one_ok _ _ _ _ _ _ _ _ _ _ _ _ _ _ ?p0 ?p1 ?p2 ?pI ?p3 ?p4 _ _ ?pU ?pE ?pN _ _ _ _ _ _ _ _ _ _ _ _ _ _ _ _ _ ?k1 ?k2 ?k3 ?k4 ?k5 ?kK ?kd ?ku ?_)
  (case k1 => k_asm)
  (case k2 => k_asm)
  (case k3 => k_asm)
  (case k4 => k_asm)
  (case k5 => k_asm)
  (case kK => first | exact rfl | assumption)
  (case kd => ktr_room)
  (case ku => ktr_units)
  (case pU => k_dflt k_updF)
  (case pE => k_dflt k_mem)
  (case pI => k_dflt (repeat' first | exact IntsAre.nil | refine' IntsAre.cons _ _ ?_))
  (case pN => k_ne)
  (case p0 => assumption)
  (case p1 => assumption)
  (case p2 => assumption)
  (case p3 => k_dflt exact Nat.le_of_ble_eq_true rfl)
  (case p4 => k_dflt exact Nat.le_of_ble_eq_true rfl)
  intro v9 x9 y9 tr9 tx9 ty9 h9 tk9 hm9 x90 y90 y91 F9 N9
  refine' bnd_use hm9 ?bb (fun b9 => ?_)
  (case bb => k_dflt (repeat' first
      | exact List.forall_mem_nil _
      | refine List.forall_mem_cons.mpr ⟨?_, ?_⟩
      | assumption
      | (refine bnd_neg ?_; assumption)
      | (refine bnd_of ?_ ?_ <;> decide)
      | (refine bnd_of ?_ ?_ <;> omega)
      | refine List.forall_mem_append.mpr ⟨?_, ?_⟩))
  clear hm9
  (try dsimp only at N9)
  (try dsimp only)
  (try k_fold)))
theorem w1 : PySem.Challenge.rw_xm0708_01.Holds := Mine.hd (by
  k_go0
  (all_goals try k_fold)
  k_steps
  unfold Halt
  rename IsRange _ _ _ _ _ _ _ _ => hr'
  rename Fr _ _ _ _ => hF'
  rename News _ _ _ _ => hN'
  with_unfolding_all refine' loop_gen (by rfl) (by rfl) hr' hF' hN' (by rfl) (by rfl) (by k_mem) (by k_mem) (by k_ne) (by assumption) (by assumption) (by assumption) ?turn ?done
  case turn =>
    clear hr' hF' hN'
    intro a b ta tb pre k t u h tk own a0 b0 b1 ne off F N
    (try k_fold)
    k_steps
    refine' kst_end (_, _, _, _) (by assumption) (by assumption) ?hn ?ho ?ha ?hf ?hk ?hr trivial
    case hn => exact List.forall_mem_cons.mpr ⟨by k_mem, List.forall_mem_cons.mpr ⟨by k_mem, List.forall_mem_nil _⟩⟩
    case ho =>
      intro p hp
      first
        | exact .tail _ hp
        | exact .tail _ (.tail _ hp)
        | exact .tail _ (.tail _ (.tail _ hp))
        | exact .tail _ (.tail _ (.tail _ (.tail _ hp)))
        | exact .tail _ (.tail _ (.tail _ (.tail _ (.tail _ hp))))
        | exact .tail _ (.tail _ (.tail _ (.tail _ (.tail _ (.tail _ hp)))))
        | exact .tail _ (.tail _ (.tail _ (.tail _ (.tail _ (.tail _ (.tail _ hp))))))
        | exact .tail _ (.tail _ (.tail _ (.tail _ (.tail _ (.tail _ (.tail _ (.tail _ hp)))))))
        | exact .tail _ (.tail _ (.tail _ (.tail _ (.tail _ (.tail _ (.tail _ (.tail _ (.tail _ hp))))))))
        | exact .tail _ (.tail _ (.tail _ (.tail _ (.tail _ (.tail _ (.tail _ (.tail _ (.tail _ (.tail _ hp)))))))))
        | exact .tail _ (.tail _ (.tail _ (.tail _ (.tail _ (.tail _ (.tail _ (.tail _ (.tail _ (.tail _ (.tail _ hp))))))))))
        | exact .tail _ (.tail _ (.tail _ (.tail _ (.tail _ (.tail _ (.tail _ (.tail _ (.tail _ (.tail _ (.tail _ (.tail _ hp)))))))))))
        | exact .tail _ (.tail _ (.tail _ (.tail _ (.tail _ (.tail _ (.tail _ (.tail _ (.tail _ (.tail _ (.tail _ (.tail _ (.tail _ hp))))))))))))
        | exact .tail _ (.tail _ (.tail _ (.tail _ (.tail _ (.tail _ (.tail _ (.tail _ (.tail _ (.tail _ (.tail _ (.tail _ (.tail _ (.tail _ hp)))))))))))))
        | exact .tail _ (.tail _ (.tail _ (.tail _ (.tail _ (.tail _ (.tail _ (.tail _ (.tail _ (.tail _ (.tail _ (.tail _ (.tail _ (.tail _ (.tail _ hp))))))))))))))
    case ha => rfl
    case hf => exact ⟨by assumption, by assumption, by assumption⟩
    case hk => kst_all
    case hr =>
      intro z h1 h2 h3
      have z1 : z ≠ Str.ofString "source" := h2 _ (.head _)
      have z2 : z ≠ Str.ofString "some" := h2 _ (.tail _ (.head _))
      simp only [turned, List.contains_cons, List.contains_nil, Bool.or_false, Bool.or_eq_false_iff, beq_eq_false_iff_ne, ne_eq] at h3
      obtain ⟨z3, z4, z5⟩ := h3
      simp [h1, z1, z2, z3, z4, z5, kstB, namesAt, turned]
  case done =>
    clear hr' hF' hN'
    intro a b ta tb m h tk F N
    k_steps)

end Mine

theorem PySem.Challenge.cw_xm0708_01_holds : PySem.Challenge.rw_xm0708_01.Holds :=
  Mine.w1
