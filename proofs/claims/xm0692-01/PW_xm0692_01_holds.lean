import PyProof.Rows.All
import Wide.All
import OpenK.AllK
import Wide.FinOn
import PySem.Challenge.RW_xm0692_01
open PySem PySem.W PyProof.Rows PySem.Spec PySem.Calls
set_option Elab.async false
set_option maxRecDepth 100000
set_option maxHeartbeats 12000000
set_option linter.unusedVariables false
name_quick tw11685320978799584924 for PySem.W.S.findZ by PySem.W.S.findZ_eq
name_quick tw8075568018651887793 for PySem.W.S.findZ by PySem.W.S.findZ_eq
name_quick tw16661375180360627877 for PySem.W.S.findZ by PySem.W.S.findZ_eq
name_quick tw947111536369973478 for PySem.W.S.findZ by PySem.W.S.findZ_eq
name_quick tw12299960069397203266 for PySem.W.S.findZ by PySem.W.S.findZ_eq
name_quick tw14979626087600564940 for PySem.W.S.findZ by PySem.W.S.findZ_eq
name_quick tw3657741979558153257 for PySem.W.S.findZ by PySem.W.S.findZ_eq
name_quick tw4392076818467891588 for PySem.W.S.findZ by PySem.W.S.findZ_eq
name_quick tw14931850820240386452 for PySem.W.S.findZ by PySem.W.S.findZ_eq
namespace Mine
open_top hd for PySem.Challenge.rw_xm0692_01
theorem allne_of {d e : Addr} {l : List (Addr × Obj)} (h : AllLt d l) (hle : @LE.le Nat _ d e) : ∀ p ∈ l, p.1 ≠ e := by
  induction l with
  | nil => exact fun _ h => nomatch h
  | cons q r ih =>
    intro p hp
    rcases List.mem_cons.mp hp with rfl | hp
    · exact fun e' => Nat.lt_irrefl _ (Nat.lt_of_lt_of_le h.1 (e' ▸ hle))
    · exact ih h.2 p hp
/-! sizes -/
noncomputable def Bd (k : Nat) (e : Int) : Prop := e.natAbs < 2 ^ k
theorem Bd.atom {x : Int} (h1 : -(2 ^ 64) < x) (h2 : x < 2 ^ 64) : Bd 64 x := by unfold Bd; omega
theorem Bd.atom2 {x : Int} (h1 : -(2 ^ 240) < x) (h2 : x < 2 ^ 240) : Bd 240 x := by unfold Bd; omega
theorem Bd.mul {a b : Nat} {x y : Int} (hx : Bd a x) (hy : Bd b y) : Bd (a + b) (x * y) := by
  unfold Bd at *
  rw [Int.natAbs_mul, Nat.pow_add]
  exact Nat.mul_lt_mul'' hx hy
theorem Bd.up {a b : Nat} {x : Int} (hx : Bd a x) (h : a ≤ b) : Bd b x := Nat.lt_of_lt_of_le hx (Nat.pow_le_pow_right (by decide) h)
theorem Bd.add {a b : Nat} {x y : Int} (hx : Bd a x) (hy : Bd b y) : Bd (a + b + 1) (x + y) := by
  have h1 := Bd.up (b := a + b) hx (by omega)
  have h2 := Bd.up (b := a + b) hy (by omega)
  unfold Bd at *
  rw [Nat.pow_succ]
  omega
theorem Bd.sub {a b : Nat} {x y : Int} (hx : Bd a x) (hy : Bd b y) : Bd (a + b + 1) (x - y) := by
  have h1 := Bd.up (b := a + b) hx (by omega)
  have h2 := Bd.up (b := a + b) hy (by omega)
  unfold Bd at *
  rw [Nat.pow_succ]
  omega
theorem Bd.neg {a : Nat} {x : Int} (hx : Bd a x) : Bd a (-x) := by
  unfold Bd at *
  rwa [Int.natAbs_neg]
theorem Bd.bits {a : Nat} {x : Int} (hx : Bd a x) (h : a ≤ 2 ^ 20) : Builtin.Int.intBits x ≤ 2 ^ 20 := by
  unfold Builtin.Int.intBits
  split
  · exact Nat.zero_le _
  · rename_i h0
    have hp : x.natAbs ≠ 0 := by
      intro e
      apply h0
      have : x = 0 := by omega
      rw [this]; rfl
    have := (Nat.log2_lt hp).mpr hx
    omega
theorem Bd.log2 {a : Nat} {x : Int} (hx : Bd a x) (h : a ≤ 9000) : x.natAbs.log2 < 9000 := by
  by_cases hp : x.natAbs = 0
  · rw [hp]; decide
  · have := (Nat.log2_lt hp).mpr hx
    omega
theorem fdiv_facts {a b : Int} (hb : 0 < b) : a.fdiv b * b ≤ a ∧ a < (a.fdiv b + 1) * b := by
  rw [Int.fdiv_eq_ediv_of_nonneg _ (Int.le_of_lt hb)]
  exact ⟨Int.ediv_mul_le _ (by omega), Int.lt_ediv_add_one_mul_self _ hb⟩
theorem fmod_facts {a b : Int} (hb : 0 < b) : 0 ≤ a.fmod b ∧ a.fmod b < b := ⟨Int.fmod_nonneg_of_pos _ hb, Int.fmod_lt_of_pos _ hb⟩
theorem Bd.fdiv {a : Nat} {x b : Int} (hx : Bd a x) (hb : 0 < b) : Bd a (x.fdiv b) := by
  obtain ⟨h1, h2⟩ := fdiv_facts (a := x) hb
  generalize x.fdiv b = q at *
  unfold Bd at *
  have h3 : q.natAbs ≤ x.natAbs := by
    rcases Int.lt_or_le x 0 with h0 | h0
    · have hq : x ≤ q := by
        apply Int.not_lt.mp
        intro h
        have e1 : (q + 1) * b ≤ x * b := Int.mul_le_mul_of_nonneg_right (by omega) (by omega)
        have e2 : x * b ≤ x * 1 := Int.mul_le_mul_of_nonpos_left (by omega) (by omega)
        omega
      have hq2 : q < 0 := by
        apply Int.not_le.mp
        intro h
        have := Int.mul_nonneg h (Int.le_of_lt hb)
        omega
      omega
    · have hq : 0 ≤ q := by
        apply Int.not_lt.mp
        intro h
        have e1 : (q + 1) * b ≤ 0 * b := Int.mul_le_mul_of_nonneg_right (by omega) (by omega)
        omega
      have hq2 : q * 1 ≤ q * b := Int.mul_le_mul_of_nonneg_left (by omega) hq
      omega
  omega
theorem Bd.fmod {a : Nat} {x b : Int} (hx : Bd a b) (hb : 0 < b) : Bd a (x.fmod b) := by
  have := fmod_facts (a := x) hb
  unfold Bd at *
  omega
/-! the whole root -/
noncomputable def isqN : Nat → Nat
  | 0 => 0
  | n + 1 => if (isqN n + 1) * (isqN n + 1) ≤ n + 1 then isqN n + 1 else isqN n
theorem isqN_spec : ∀ n, isqN n * isqN n ≤ n ∧ n < (isqN n + 1) * (isqN n + 1)
  | 0 => by decide
  | n + 1 => by
    have ih := isqN_spec n
    unfold isqN
    split
    · rename_i h
      refine ⟨h, ?_⟩
      have h1 := ih.2
      have : (isqN n + 1 + 1) * (isqN n + 1 + 1) = (isqN n + 1) * (isqN n + 1) + 2 * (isqN n + 1) + 1 := by grind
      omega
    · rename_i h
      exact ⟨Nat.le_succ_of_le ih.1, by omega⟩
@[irreducible] noncomputable def isq (n : Int) : Int := isqN n.toNat
theorem isq_spec {n : Int} (h : 0 ≤ n) : 0 ≤ isq n ∧ isq n * isq n ≤ n ∧ n < (isq n + 1) * (isq n + 1) := by
  unfold isq
  have := isqN_spec n.toNat
  obtain ⟨h1, h2⟩ := this
  refine ⟨by omega, ?_, ?_⟩
  · have : ((isqN n.toNat * isqN n.toNat : Nat) : Int) ≤ (n.toNat : Int) := by exact_mod_cast h1
    rw [Int.toNat_of_nonneg h] at this
    simpa using this
  · have : (n.toNat : Int) < (((isqN n.toNat + 1) * (isqN n.toNat + 1) : Nat) : Int) := by exact_mod_cast h2
    rw [Int.toNat_of_nonneg h] at this
    simpa using this
theorem sq_lt {a b : Int} (ha : 0 ≤ a) (hb : 0 ≤ b) (h : a * a < (b + 1) * (b + 1)) : a ≤ b := by
  apply Int.not_lt.mp
  intro h1
  have h2 : (b + 1) * (b + 1) ≤ a * a := Int.mul_le_mul h1 h1 (by omega) (by omega)
  omega
theorem isq_unique {n r : Int} (h0 : 0 ≤ r) (h1 : r * r ≤ n) (h2 : n < (r + 1) * (r + 1)) : r = isq n := by
  have hn : 0 ≤ n := Int.le_trans (Int.mul_nonneg h0 h0) h1
  obtain ⟨s0, s1, s2⟩ := isq_spec hn
  have e1 : r ≤ isq n := sq_lt h0 s0 (Int.lt_of_le_of_lt h1 s2)
  have e2 : isq n ≤ r := sq_lt s0 h0 (Int.lt_of_le_of_lt s1 h2)
  omega
theorem isq_sq {r : Int} (h0 : 0 ≤ r) : isq (r * r) = r := (isq_unique h0 (Int.le_refl _) (by grind)).symm
/-! Newton's step -/
theorem fdiv_two (a : Int) : 2 * a.fdiv 2 ≤ a ∧ a ≤ 2 * a.fdiv 2 + 1 := by
  have := fdiv_facts (a := a) (b := 2) (by decide)
  omega
theorem newton_ge {n f : Int} (hf : 0 < f) (hn : 0 ≤ n) : isq n ≤ (f + n.fdiv f).fdiv 2 := by
  obtain ⟨s0, s1, -⟩ := isq_spec hn
  obtain ⟨q1, q2⟩ := fdiv_facts (a := n) hf
  have t := fdiv_two (f + n.fdiv f)
  generalize n.fdiv f = q at *
  generalize isq n = s at *
  apply Int.not_lt.mp
  intro h
  have h1 : q + 1 ≤ 2 * s - f := by omega
  have h2 : (q + 1) * f ≤ (2 * s - f) * f := Int.mul_le_mul_of_nonneg_right h1 (by omega)
  have h3 : 0 ≤ (s - f) * (s - f) := by
    rcases Int.le_total 0 (s - f) with h | h
    · exact Int.mul_nonneg h h
    · exact Int.mul_nonneg_of_nonpos_of_nonpos h h
  have h4 : (2 * s - f) * f = s * s - (s - f) * (s - f) := by grind
  omega
theorem newton_end {n f : Int} (hf : 0 < f) (hn : 0 ≤ n) (h1 : isq n ≤ f) (h : ¬ (f + n.fdiv f).fdiv 2 < f) : f = isq n := by
  obtain ⟨s0, s1, s2⟩ := isq_spec hn
  obtain ⟨q1, q2⟩ := fdiv_facts (a := n) hf
  have t := fdiv_two (f + n.fdiv f)
  generalize n.fdiv f = q at *
  generalize isq n = s at *
  have h5 : f ≤ q := by omega
  have h6 : f * f ≤ q * f := Int.mul_le_mul_of_nonneg_right h5 (by omega)
  have := sq_lt (a := f) (b := s) (by omega) s0 (by omega)
  omega
theorem isq_le_of_lt {n f : Int} (hf : 0 ≤ f) (hn : 0 ≤ n) (h : n < f * f) : isq n ≤ f := by
  obtain ⟨s0, s1, s2⟩ := isq_spec hn
  generalize isq n = s at *
  exact sq_lt s0 hf (by have : f * f ≤ (f + 1) * (f + 1) := Int.mul_le_mul (by omega) (by omega) hf (by omega); omega)
theorem isq_pos {n : Int} (h : 0 < n) : 0 < isq n := by
  obtain ⟨s0, s1, s2⟩ := isq_spec (Int.le_of_lt h)
  rcases Int.lt_or_eq_of_le s0 with h1 | h1
  · exact h1
  · rw [← h1] at s2; omega
/-- what a call gives back: its claim, over any caller's frame; k frames of room -/
noncomputable abbrev Cl (k : Nat) (w : World) (mean : ExcName → Option Value) (mg mb : Str → Option Value) (f : Addr) (news : List (Addr × Obj)) (pre : Prop) (vs : List Value) (ret : Heap → Addr → (Str → Option Value) → Shared → (Value → Shared → Prop) → Prop) : Prop :=
  ∀ (dp un : Nat) (gd : Option (List Code)) (cn : Str) (cs : Scope) (a : Addr) (ccd : Value) (cl : List (Str × Addr)) (outer : List Env) (A₀ : Around) (base h₀ : Heap) (L : Addr) (m : Str → Option Value) (s : Shared) (Q E : Value → Shared → Prop),
    Below A₀ base outer h₀ → Fr h₀ L s.heap m → (hd.heap_39 w.params).In h₀ → News h₀ L s.heap news → Top hd.view_39 (looseW hd.view_39 [Str.ofString "SHARP"]) mean mg mb h₀ → cs.kind = .function →
    pre → dp + k < recursionLimit → un + 8 * k < cLine → ret h₀ L m s Q →
    wpAny (model PySem.Challenge.rw_xm0692_01.row.prog w) (ktrTop dp un gd cn cs L a ccd cl outer) (call (.ref f) vs) Q E s
theorem Cl.use {k : Nat} {w : World} {mean : ExcName → Option Value} {mg mb : Str → Option Value} {f : Addr} {news : List (Addr × Obj)} {pre : Prop} {vs : List Value} {ret : Heap → Addr → (Str → Option Value) → Shared → (Value → Shared → Prop) → Prop} (C : Cl k w mean mg mb f news pre vs ret)
    {dp un : Nat} {gd : Option (List Code)} {cn : Str} {cs : Scope} {a : Addr} {ccd : Value} {cl : List (Str × Addr)} {outer : List Env} {A₀ : Around} {base h₀ : Heap} {L : Addr} {m : Str → Option Value} {s : Shared} {Q E : Value → Shared → Prop}
    (B : Below A₀ base outer h₀) (F : Fr h₀ L s.heap m) (X : (hd.heap_39 w.params).In h₀) (N : News h₀ L s.heap news) (T : Top hd.view_39 (looseW hd.view_39 [Str.ofString "SHARP"]) mean mg mb h₀) (hk : cs.kind = .function)
    (hp : pre) (h1 : dp + k < recursionLimit) (h2 : un + 8 * k < cLine) (hR : ret h₀ L m s Q) :
    wpAny (model PySem.Challenge.rw_xm0692_01.row.prog w) (ktrTop dp un gd cn cs L a ccd cl outer) (call (.ref f) vs) Q E s := C _ _ _ _ _ _ _ _ _ _ _ _ _ _ _ _ _ B F X N T hk hp h1 h2 hR
/-- an int comes back, the ledger stands -/
noncomputable abbrev RetI (news : List (Addr × Obj)) (x : Int) (h₀ : Heap) (L : Addr) (m : Str → Option Value) (s : Shared) (Q : Value → Shared → Prop) : Prop :=
  ∀ (t : Tok) (h' : Heap) (tk' : Nat), Fr h₀ L h' m → News h₀ L h' news → Q (.int x t) { s with heap := h', toks := tk' }
theorem RetI.done {news : List (Addr × Obj)} {x y : Int} {h₀ h' : Heap} {L : Addr} {m : Str → Option Value} {s : Shared} {Q : Value → Shared → Prop} {t : Tok} {tk' : Nat} (hret : RetI news x h₀ L m s Q) (e : y = x) (F : Fr h₀ L h' m) (N : News h₀ L h' news) : Q (.int y t) { s with heap := h', toks := tk' } := by
  subst e
  exact hret t h' tk' F N
local macro_rules | `(tactic| bits_fit) => `(tactic| exact Bd.bits (by (repeat' (first | exact Bd.atom (by omega) (by omega) | exact Bd.atom2 (by omega) (by omega) | refine' Bd.fdiv _ (by omega) | refine' Bd.fmod _ (by omega) | refine' Bd.mul _ _ | refine' Bd.add _ _ | refine' Bd.sub _ _ | refine' Bd.neg _))) (by decide))
local macro_rules | `(tactic| walk_at "binaryOp FloorDiv int int") => `(tactic| ((with_reducible refine floordiv_int ?fa ?_ (Or.inl (PyProof.noPylong_of_log2 ?fb))); (case fa => omega); (case fb => exact Bd.log2 (a := 300) (by unfold Bd; omega) (by decide))))
theorem root_s1 {f n : Int} (h1 : 1 ≤ f) (h : f * f ≤ n) : 1 ≤ f * 2 ∧ f * 2 ≤ 2 * n := by
  have : f * 1 ≤ f * f := Int.mul_le_mul_of_nonneg_left h1 (by omega)
  omega
theorem root_m1 {f n : Int} (h1 : 1 ≤ f) (h : f * f ≤ n) : (2 * n - f * 2).toNat < (2 * n - f).toNat := by
  have := root_s1 h1 h
  omega
noncomputable abbrev RootP (n f l : Int) : Prop := 1 ≤ f ∧ f ≤ 2 * n ∧ 1 ≤ l ∧ isq n ≤ f ∧ isq n ≤ l ∧ l = (f + n.fdiv f).fdiv 2
theorem root_s2 {f n : Int} (h1 : 1 ≤ f) (h2 : f ≤ 2 * n) (h : ¬ f * f ≤ n) : RootP n f ((f + n.fdiv f).fdiv 2) := by
  have h3 := newton_ge (f := f) (n := n) (by omega) (by omega)
  have h4 := isq_pos (n := n) (by omega)
  exact ⟨h1, h2, by omega, isq_le_of_lt (by omega) (by omega) (by omega), h3, rfl⟩
theorem root_s3 {f l n : Int} (h : l < f) (h2 : f ≤ 2 * n) (h3 : 1 ≤ l) (h5 : isq n ≤ l) : RootP n l ((l + n.fdiv l).fdiv 2) := by
  have h6 := newton_ge (f := l) (n := n) (by omega) (by omega)
  have h4 := isq_pos (n := n) (by omega)
  exact ⟨h3, by omega, by omega, h5, h6, rfl⟩
theorem root_e {f l n : Int} (h1 : 1 ≤ f) (h2 : f ≤ 2 * n) (h4 : isq n ≤ f) (h6 : l = (f + n.fdiv f).fdiv 2) (h : ¬ l < f) : f = isq n := by
  subst h6
  exact newton_end (by omega) (by omega) h4 h
theorem isq_zero : isq 0 = 0 := isq_sq (r := 0) (by decide)
theorem c_root_floor {w : World} {mean : ExcName → Option Value} {mg mb : Str → Option Value} {news : List (Addr × Obj)} {n : Int} {t : Tok} :
    Cl 2 w mean mg mb 53 news (0 ≤ n ∧ n < 2 ^ 200) [.int n t] (RetI news (isq n)) := by
  unfold Cl; k_fill
  intro dp un gd cn cs a ccd cl outer A₀ base h₀ L m s Q E B F X N T hk hpre hd hu hret
  refine wpAny_call ?_
  k_dflt cell_enter
  k_with "exec While Compare cons nil" => k_while_given ["n"] (fun n _ f => 1 ≤ f ∧ f ≤ 2 * n) (fun n _ f => (2 * n - f).toNat) "found"
  k_with "exec While Compare cons nil" => k_while_given ["n"] (fun n _ f l => RootP n f l) (fun n _ f l => f.toNat) "found" "lower"
  k_with "state" => exact root_s1 (by assumption) (by assumption)
  k_with "state" => exact root_s2 (by assumption) (by assumption) (by assumption)
  k_with "state" => exact root_s3 (by assumption) (by assumption) (by assumption) (by assumption)
  k_with "measure" => exact root_m1 (by assumption) (by assumption)
  k_steps
  · exact RetI.done hret (by simp only [‹n = 0›, isq_zero]) (by k_asm) (by k_asm)
  · exact RetI.done hret (root_e (by assumption) (by assumption) (by assumption) (by assumption) (by assumption)) (by k_asm) (by k_asm)
local macro_rules | `(tactic| k_room) => `(tactic| ktr_room)
local macro_rules | `(tactic| k_units) => `(tactic| ktr_units)
theorem lroot_s1 {f n : Int} (h1 : 1 ≤ f) (h : f * f ≤ n) : 1 ≤ 2 * f ∧ 2 * f ≤ 2 * n + 1 := by
  have : f * 1 ≤ f * f := Int.mul_le_mul_of_nonneg_left h1 (by omega)
  omega
theorem lroot_m1 {f n : Int} (h1 : 1 ≤ f) (h : f * f ≤ n) : (2 * n + 1 - 2 * f).toNat < (2 * n + 1 - f).toNat := by
  have : f * 1 ≤ f * f := Int.mul_le_mul_of_nonneg_left h1 (by omega)
  omega
theorem lroot_s2 {f n : Int} (hpre : 0 ≤ n ∧ n < 2 ^ 200) (h2 : 1 ≤ f ∧ f ≤ 2 * n + 1) (h : ¬ f * f ≤ n) : 0 ≤ (0 : Int) ∧ 0 < f ∧ f ≤ 2 * n + 1 ∧ (0 : Int) * 0 ≤ n ∧ n < f * f := ⟨by omega, by omega, by omega, by omega, by omega⟩
theorem lroot_s3 {l h n : Int} (h0 : 0 ≤ l) (h1 : l < h) (h2 : h ≤ 2 * n + 1) (h3 : 1 < h - l) (h4 : n < h * h) (h5 : (l + h).fdiv 2 * (l + h).fdiv 2 ≤ n) :
    0 ≤ (l + h).fdiv 2 ∧ (l + h).fdiv 2 < h ∧ h ≤ 2 * n + 1 ∧ (l + h).fdiv 2 * (l + h).fdiv 2 ≤ n ∧ n < h * h := by
  have := fdiv_two (l + h)
  exact ⟨by omega, by omega, h2, h5, h4⟩
theorem lroot_s4 {l h n : Int} (h0 : 0 ≤ l) (h1 : l < h) (h2 : h ≤ 2 * n + 1) (h3 : 1 < h - l) (h4 : l * l ≤ n) (h5 : ¬ (l + h).fdiv 2 * (l + h).fdiv 2 ≤ n) :
    0 ≤ l ∧ l < (l + h).fdiv 2 ∧ (l + h).fdiv 2 ≤ 2 * n + 1 ∧ l * l ≤ n ∧ n < (l + h).fdiv 2 * (l + h).fdiv 2 := by
  have := fdiv_two (l + h)
  exact ⟨by omega, by omega, by omega, h4, by omega⟩
theorem lroot_m2 {l h : Int} (h3 : 1 < h - l) : (h - (l + h).fdiv 2).toNat < (h - l).toNat := by
  have := fdiv_two (l + h)
  omega
theorem lroot_m3 {l h : Int} (h3 : 1 < h - l) : ((l + h).fdiv 2 - l).toNat < (h - l).toNat := by
  have := fdiv_two (l + h)
  omega
theorem lroot_e {l h n : Int} (h0 : 0 ≤ l) (h1 : l < h) (h2 : l * l ≤ n) (h4 : n < h * h) (h3 : ¬ 1 < h - l) : l = isq n := by
  have : h = l + 1 := by omega
  subst this
  exact isq_unique h0 h2 h4
theorem c_law_root {w : World} {mean : ExcName → Option Value} {mg mb : Str → Option Value} {news : List (Addr × Obj)} {n : Int} {t : Tok} :
    Cl 2 w mean mg mb 219 news (0 ≤ n ∧ n < 2 ^ 200) [.int n t] (RetI news (isq n)) := by
  unfold Cl; k_fill
  intro dp un gd cn cs a ccd cl outer A₀ base h₀ L m s Q E B F X N T hk hpre hd hu hret
  refine wpAny_call ?_
  k_dflt cell_enter
  k_with "exec While Compare cons nil" => k_while_given ["number"] (fun n _ h => 1 ≤ h ∧ h ≤ 2 * n + 1) (fun n _ h => (2 * n + 1 - h).toNat) "high"
  k_with "exec While Compare cons nil" => k_while_given ["number"] (fun n _ l h => 0 ≤ l ∧ l < h ∧ h ≤ 2 * n + 1 ∧ l * l ≤ n ∧ n < h * h) (fun n _ l h => (h - l).toNat) "low" "high"
  k_with "state" => exact lroot_s1 (by assumption) (by assumption)
  k_with "state" => exact lroot_s2 (by assumption) (by assumption) (by assumption)
  k_with "state" => exact lroot_s3 (by assumption) (by assumption) (by assumption) (by assumption) (by assumption) (by assumption)
  k_with "state" => exact lroot_s4 (by assumption) (by assumption) (by assumption) (by assumption) (by assumption) (by assumption)
  k_with "measure" => exact lroot_m1 (by assumption) (by assumption)
  k_with "measure" => exact lroot_m2 (by assumption)
  k_with "measure" => exact lroot_m3 (by assumption)
  k_steps
  k_with_none
  exact RetI.done hret (lroot_e (by assumption) (by assumption) (by assumption) (by assumption) (by assumption)) (by k_asm) (cb_drop (by assumption) (by kcj_all))
/-- a share rounded to the nearest whole number, a half away from nought -/
noncomputable def near (top bottom : Int) : Int := if top < 0 then -((2 * (-top) + bottom).fdiv (2 * bottom)) else (2 * top + bottom).fdiv (2 * bottom)
theorem near_neg {t b : Int} (h : t < 0) : -(((2 * if t < 0 then -t else t) + b).fdiv (2 * b)) = near t b := by
  unfold near; rw [if_pos h, if_pos h]
theorem near_pos {t b : Int} (h : ¬ t < 0) : ((2 * if t < 0 then -t else t) + b).fdiv (2 * b) = near t b := by
  unfold near; rw [if_neg h, if_neg h]
theorem c_nearest_share {w : World} {mean : ExcName → Option Value} {mg mb : Str → Option Value} {news : List (Addr × Obj)} {top bottom : Int} {t1 t2 : Tok} :
    Cl 2 w mean mg mb 67 news (0 < bottom ∧ bottom < 2 ^ 200) [.int top t1, .int bottom t2] (RetI news (near top bottom)) := by
  unfold Cl; k_fill
  intro dp un gd cn cs a ccd cl outer A₀ base h₀ L m s Q E B F X N T hk hpre hd hu hret
  refine wpAny_call ?_
  k_dflt cell_enter
  k_steps
  · exact RetI.done hret (near_neg (by assumption)) (by k_asm) (by k_asm)
  · exact RetI.done hret (near_pos (by assumption)) (by k_asm) (by k_asm)
noncomputable def nearRoot (share square : Int) : Int := if share < 0 then -((isq ((4 * (-share) * (-share)).fdiv square) + 1).fdiv 2) else (isq ((4 * share * share).fdiv square) + 1).fdiv 2
theorem nearRoot_neg {t b : Int} (h : t < 0) : -((isq ((4 * (if t < 0 then -t else t) * (if t < 0 then -t else t)).fdiv b) + 1).fdiv 2) = nearRoot t b := by
  unfold nearRoot; rw [if_pos h, if_pos h]
theorem nearRoot_pos {t b : Int} (h : ¬ t < 0) : (isq ((4 * (if t < 0 then -t else t) * (if t < 0 then -t else t)).fdiv b) + 1).fdiv 2 = nearRoot t b := by
  unfold nearRoot; rw [if_neg h, if_neg h]
theorem nearRoot_pre {t b : Int} (h : -(2 ^ 60) < t ∧ t < 2 ^ 60 ∧ 0 < b ∧ b < 2 ^ 200) : 0 ≤ (4 * (if t < 0 then -t else t) * (if t < 0 then -t else t)).fdiv b ∧ (4 * (if t < 0 then -t else t) * (if t < 0 then -t else t)).fdiv b < 2 ^ 200 := by
  have h1 : 0 ≤ (if t < 0 then -t else t) ∧ (if t < 0 then -t else t) < 2 ^ 60 := by split <;> omega
  generalize (if t < 0 then -t else t) = x at *
  have h2 : 0 ≤ 4 * x * x := Int.mul_nonneg (by omega) (by omega)
  have h3 : 4 * x * x < 2 ^ 130 := by
    have : 4 * x * x ≤ (4 * 2 ^ 60) * 2 ^ 60 := Int.mul_le_mul (by omega) (by omega) (by omega) (by omega)
    omega
  have h4 := fdiv_facts (a := 4 * x * x) (b := b) (by omega)
  generalize 4 * x * x = y at *
  generalize y.fdiv b = q at *
  constructor
  · apply Int.not_lt.mp
    intro h
    have : (q + 1) * b ≤ 0 * b := Int.mul_le_mul_of_nonneg_right (by omega) (by omega)
    omega
  · apply Int.not_le.mp
    intro h
    have : q * 1 ≤ q * b := Int.mul_le_mul_of_nonneg_left (by omega) (by omega)
    omega
local macro_rules | `(tactic| walk_at "call ref") => `(tactic| (k_here; (with_reducible show wpAny _ _ (PySem.call (Value.ref 53) [Value.int _ _]) _ _ _); k_dflt (refine' Cl.use c_root_floor ?k1 ?k2 ?k3 ?k4 ?k5 ?kK ?kp ?kd ?ku ?kR; (case k1 => k_asm); (case k2 => k_asm); (case k3 => k_asm); (case k4 => k_asm); (case k5 => k_asm); (case kK => first | exact rfl | assumption); (case kp => first | omega | exact nearRoot_pre (by assumption)); (case kd => ktr_room); (case ku => ktr_units); intro t9 h9 tk9 F9 N9; (try dsimp only); (try k_fold))))
theorem c_nearest_root_share {w : World} {mean : ExcName → Option Value} {mg mb : Str → Option Value} {news : List (Addr × Obj)} {top bottom : Int} {t1 t2 : Tok} :
    Cl 4 w mean mg mb 60 news (-(2 ^ 60) < top ∧ top < 2 ^ 60 ∧ 0 < bottom ∧ bottom < 2 ^ 200) [.int top t1, .int bottom t2] (RetI news (nearRoot top bottom)) := by
  unfold Cl; k_fill
  intro dp un gd cn cs a ccd cl outer A₀ base h₀ L m s Q E B F X N T hk hpre hd hu hret
  refine wpAny_call ?_
  k_dflt cell_enter
  k_steps
  · exact RetI.done hret (nearRoot_neg (by assumption)) (by k_asm) (by k_asm)
  · exact RetI.done hret (nearRoot_pos (by assumption)) (by k_asm) (by k_asm)
/-- a bool comes back, the ledger stands -/
noncomputable abbrev RetB (news : List (Addr × Obj)) (x : Bool) (h₀ : Heap) (L : Addr) (m : Str → Option Value) (s : Shared) (Q : Value → Shared → Prop) : Prop :=
  ∀ (h' : Heap) (tk' : Nat), Fr h₀ L h' m → News h₀ L h' news → Q (.bool x) { s with heap := h', toks := tk' }
theorem RetB.done {news : List (Addr × Obj)} {x y : Bool} {h₀ h' : Heap} {L : Addr} {m : Str → Option Value} {s : Shared} {Q : Value → Shared → Prop} {tk' : Nat} (hret : RetB news x h₀ L m s Q) (e : y = x) (F : Fr h₀ L h' m) (N : News h₀ L h' news) : Q (.bool y) { s with heap := h', toks := tk' } := by
  subst e
  exact hret h' tk' F N
/-- left is at least factor times the root of square -/
noncomputable def atLeast (l f s : Int) : Bool := if 0 < f then decide (0 ≤ l ∧ f * f * s ≤ l * l) else decide (0 ≤ l ∨ l * l ≤ f * f * s)
theorem atLeast_1 {l f s : Int} (h : f ≤ 0) (h2 : 0 ≤ l) : true = atLeast l f s := by
  unfold atLeast; rw [if_neg (by omega)]; exact (decide_eq_true (Or.inl h2)).symm
theorem atLeast_2 {l f s : Int} (h : f ≤ 0) (h2 : ¬ 0 ≤ l) : decide (l * l ≤ f * f * s) = atLeast l f s := by
  unfold atLeast; rw [if_neg (by omega)]; simp only [h2, false_or]
theorem atLeast_3 {l f s : Int} (h : ¬ f ≤ 0) (h2 : l < 0) : false = atLeast l f s := by
  unfold atLeast; rw [if_pos (by omega)]; exact (decide_eq_false (by omega)).symm
theorem atLeast_4 {l f s : Int} (h : ¬ f ≤ 0) (h2 : ¬ l < 0) : decide (f * f * s ≤ l * l) = atLeast l f s := by
  unfold atLeast; rw [if_pos (by omega)]; simp only [show 0 ≤ l by omega, true_and]
theorem sq_mono {a b : Int} (ha : 0 ≤ a) (h : a ≤ b) : a * a ≤ b * b := Int.mul_le_mul h h ha (by omega)
theorem atLeast_l1 {l f s : Int} (h : f < 0) (h2 : 0 ≤ l) : decide (0 ≤ l) = atLeast l f s := by
  rw [decide_eq_true h2]; exact atLeast_1 (by omega) h2
theorem atLeast_l2 {l f s : Int} (hw : 0 ≤ f * f * s) (h : f < 0) (h2 : ¬ 0 ≤ l) : decide (0 - l ≤ isq (f * f * s)) = atLeast l f s := by
  rw [← atLeast_2 (by omega) h2]
  obtain ⟨r0, r1, r2⟩ := isq_spec hw
  generalize f * f * s = w at *
  generalize isq w = r at *
  have e : l * l = (0 - l) * (0 - l) := by grind
  rw [e]
  refine decide_eq_decide.mpr ⟨fun h => ?_, fun h => ?_⟩
  · have := sq_mono (a := 0 - l) (b := r) (by omega) h
    omega
  · exact sq_lt (by omega) r0 (by omega)
theorem atLeast_l3 {l f s : Int} (hw : 0 ≤ f * f * s) (h : ¬ f < 0) (h2 : isq (f * f * s) < l) : decide (isq (f * f * s) < l) = atLeast l f s := by
  rw [decide_eq_true h2]
  obtain ⟨r0, r1, r2⟩ := isq_spec hw
  by_cases h0 : f ≤ 0
  · exact atLeast_1 h0 (by omega)
  · rw [← atLeast_4 h0 (by omega)]
    have := sq_mono (a := isq (f * f * s) + 1) (b := l) (by omega) h2
    exact (decide_eq_true (by omega)).symm
theorem atLeast_l4 {l f s : Int} (hw : 0 ≤ f * f * s) (h : ¬ f < 0) (h2 : l = isq (f * f * s)) : (isq (f * f * s) * isq (f * f * s) == f * f * s) = atLeast l f s := by
  obtain ⟨r0, r1, r2⟩ := isq_spec hw
  by_cases h0 : f ≤ 0
  · have e : f = 0 := by omega
    subst e
    rw [← atLeast_1 (by omega) (by omega), show (0 * 0 * s : Int) = 0 by simp, isq_zero]
    rfl
  · rw [← atLeast_4 h0 (by omega), h2]
    rw [show (isq (f * f * s) * isq (f * f * s) == f * f * s) = decide (isq (f * f * s) * isq (f * f * s) = f * f * s) from rfl]
    exact decide_eq_decide.mpr ⟨fun h => by omega, fun h => by omega⟩
theorem atLeast_l5 {l f s : Int} (hw : 0 ≤ f * f * s) (h : ¬ f < 0) (h2 : ¬ isq (f * f * s) < l) (h3 : l ≠ isq (f * f * s)) : (l == isq (f * f * s)) = atLeast l f s := by
  rw [show (l == isq (f * f * s)) = decide (l = isq (f * f * s)) from rfl, decide_eq_false h3]
  obtain ⟨r0, r1, r2⟩ := isq_spec hw
  by_cases h0 : f ≤ 0
  · have e : f = 0 := by omega
    subst e
    rw [show (0 * 0 * s : Int) = 0 by simp, isq_zero] at h2 h3
    rw [← atLeast_2 (by omega) (by omega), show (0 * 0 * s : Int) = 0 by simp]
    refine (decide_eq_false ?_).symm
    have := Int.mul_pos_of_neg_of_neg (a := l) (b := l) (by omega) (by omega)
    omega
  · by_cases hl : l < 0
    · exact atLeast_3 h0 hl
    · rw [← atLeast_4 h0 hl]
      refine (decide_eq_false ?_).symm
      have := sq_mono (a := l + 1) (b := isq (f * f * s)) (by omega) (by omega)
      have e : (l + 1) * (l + 1) = l * l + 2 * l + 1 := by grind
      omega
theorem c_at_least {w : World} {mean : ExcName → Option Value} {mg mb : Str → Option Value} {news : List (Addr × Obj)} {l f s : Int} {t1 t2 t3 : Tok} :
    Cl 2 w mean mg mb 156 news (-(2 ^ 100) < l ∧ l < 2 ^ 100 ∧ -(2 ^ 100) < f ∧ f < 2 ^ 100 ∧ -(2 ^ 100) < s ∧ s < 2 ^ 100) [.int l t1, .int f t2, .int s t3] (RetB news (atLeast l f s)) := by
  unfold Cl; k_fill
  intro dp un gd cn cs a ccd cl outer A₀ base h₀ L m s₀ Q E B F X N T hk hpre hd hu hret
  refine wpAny_call ?_
  k_dflt cell_enter
  k_steps
  all_goals refine RetB.done hret ?_ (by k_asm) (by k_asm)
  · exact atLeast_1 (by assumption) (by assumption)
  · exact atLeast_2 (by assumption) (by assumption)
  · exact atLeast_3 (by assumption) (by assumption)
  · exact atLeast_4 (by assumption) (by assumption)
noncomputable def lnear (top bottom : Int) : Int := if bottom < 0 then near (0 - top) (0 - bottom) else near top bottom
theorem lnear_1 {t b : Int} (h : b < 0) (h2 : 0 ≤ 0 - t) : ((2 * if 0 - t < 0 then -(0 - t) else 0 - t) + (0 - b)).fdiv (2 * (0 - b)) = lnear t b := by
  unfold lnear; rw [if_pos h, near_pos (by omega)]
theorem lnear_2 {t b : Int} (h : b < 0) (h2 : ¬ 0 ≤ 0 - t) : 0 - ((2 * if 0 - t < 0 then -(0 - t) else 0 - t) + (0 - b)).fdiv (2 * (0 - b)) = lnear t b := by
  unfold lnear; rw [if_pos h, ← near_neg (by omega), Int.zero_sub]
theorem lnear_3 {t b : Int} (h : ¬ b < 0) (h2 : 0 ≤ t) : ((2 * if t < 0 then -t else t) + b).fdiv (2 * b) = lnear t b := by
  unfold lnear; rw [if_neg h, near_pos (by omega)]
theorem lnear_4 {t b : Int} (h : ¬ b < 0) (h2 : ¬ 0 ≤ t) : 0 - ((2 * if t < 0 then -t else t) + b).fdiv (2 * b) = lnear t b := by
  unfold lnear; rw [if_neg h, ← near_neg (by omega), Int.zero_sub]
theorem c_law_near {w : World} {mean : ExcName → Option Value} {mg mb : Str → Option Value} {news : List (Addr × Obj)} {top bottom : Int} {t1 t2 : Tok} :
    Cl 2 w mean mg mb 233 news (bottom ≠ 0 ∧ -(2 ^ 200) < bottom ∧ bottom < 2 ^ 200) [.int top t1, .int bottom t2] (RetI news (lnear top bottom)) := by
  unfold Cl; k_fill
  intro dp un gd cn cs a ccd cl outer A₀ base h₀ L m s Q E B F X N T hk hpre hd hu hret
  refine wpAny_call ?_
  k_dflt cell_enter
  k_steps
  · exact RetI.done hret (lnear_1 (by assumption) (by assumption)) (by k_asm) (cb_drop (by assumption) (by kcj_all))
  · exact RetI.done hret (lnear_2 (by assumption) (by assumption)) (by k_asm) (cb_drop (by assumption) (by kcj_all))
  · exact RetI.done hret (lnear_3 (by assumption) (by assumption)) (by k_asm) (by k_asm)
  · exact RetI.done hret (lnear_4 (by assumption) (by assumption)) (by k_asm) (by k_asm)
theorem whole_pre {f s : Int} (h : -(2 ^ 30) < f ∧ f < 2 ^ 30 ∧ 0 ≤ s ∧ s < 2 ^ 100) : 0 ≤ f * f * s ∧ f * f * s < 2 ^ 200 := by
  have h1 : 0 ≤ f * f := by
    rcases Int.le_total 0 f with h | h
    · exact Int.mul_nonneg h h
    · exact Int.mul_nonneg_of_nonpos_of_nonpos h h
  have h2 : f * f < 2 ^ 60 := by
    have : (f.natAbs : Int) * f.natAbs = f * f := Int.natAbs_mul_self' f
    have h3 : (f.natAbs : Int) * f.natAbs ≤ 2 ^ 30 * (2 ^ 30 - 1) := Int.mul_le_mul (by omega) (by omega) (by omega) (by omega)
    omega
  generalize f * f = x at *
  refine ⟨Int.mul_nonneg h1 h.2.2.1, ?_⟩
  have : x * s ≤ 2 ^ 60 * 2 ^ 100 := Int.mul_le_mul (by omega) (by omega) (by omega) (by omega)
  omega
theorem isq_bound {n : Int} (h0 : 0 ≤ n) (h : n < 2 ^ 200) : 0 ≤ isq n ∧ isq n ≤ 2 ^ 100 := by
  refine ⟨(isq_spec h0).1, isq_le_of_lt (by decide) h0 (by omega)⟩
local macro_rules | `(tactic| walk_at "call ref") => `(tactic| (k_here; (with_reducible show wpAny _ _ (PySem.call (Value.ref 219) [Value.int _ _]) _ _ _); k_dflt (refine' Cl.use c_law_root ?k1 ?k2 ?k3 ?k4 ?k5 ?kK ?kp ?kd ?ku ?kR; (case k1 => k_asm); (case k2 => k_asm); (case k3 => k_asm); (case k4 => k_asm); (case k5 => k_asm); (case kK => first | exact rfl | assumption); (case kp => first | omega | exact whole_pre (by assumption)); (case kd => ktr_room); (case ku => ktr_units); intro t9 h9 tk9 F9 N9; (try dsimp only); (try k_fold))))
theorem c_law_at_least {w : World} {mean : ExcName → Option Value} {mg mb : Str → Option Value} {news : List (Addr × Obj)} {l f s : Int} {t1 t2 t3 : Tok} :
    Cl 4 w mean mg mb 226 news (-(2 ^ 30) < f ∧ f < 2 ^ 30 ∧ 0 ≤ s ∧ s < 2 ^ 100) [.int l t1, .int f t2, .int s t3] (RetB news (atLeast l f s)) := by
  unfold Cl; k_fill
  intro dp un gd cn cs a ccd cl outer A₀ base h₀ L m s₀ Q E B F X N T hk hpre hd hu hret
  refine wpAny_call ?_
  k_dflt cell_enter
  have hwp := whole_pre hpre
  have hib := isq_bound hwp.1 hwp.2
  k_steps
  all_goals refine RetB.done hret ?_ (by k_asm) (by k_asm)
  · exact atLeast_l1 (by assumption) (by assumption)
  · exact atLeast_l2 hwp.1 (by assumption) (by assumption)
  · exact atLeast_l3 hwp.1 (by assumption) (by assumption)
  · exact atLeast_l4 hwp.1 (by assumption) (by assumption)
  · exact atLeast_l5 hwp.1 (by assumption) (by assumption) (by assumption)
section
variable {prog : Program} {w : World} {A : Around} {E : Value → Shared → Prop} {s : Shared} {h₀ : Heap} {L D l : Addr} {m : Str → Option Value} {news news' : List (Addr × Obj)} {vs vs' : List Value} {n : Nat} {k : Int} {t u : Tok} {v : Value}
theorem set_lit {Q : Unit → Shared → Prop} (F : Fr h₀ L s.heap m) (N : News h₀ L s.heap news) (U : Upd D (listOf vs.toArray n) (listOf vs'.toArray n) news news') (hv : vs.set k.toNat v = vs') (h0 : 0 ≤ k) (h1 : k < vs.length) (hfit : k < 2 ^ 63)
    (h : ∀ h', Fr h₀ L h' m → News h₀ L h' news' → Q () { s with heap := h' }) :
    wpAny (model prog w) A (setItem (.ref D) (.int k t) v) Q E s := by
  obtain ⟨pre, post, rfl, rfl, a, b⟩ := U.split
  have z := N (D, listOf vs.toArray n) (List.mem_append.mpr (.inr (.head _)))
  refine ki_setAt z.1 h0 hfit (by rw [List.size_toArray]; exact h1) (h _ (F.change (Heap.SameBut.update ..) z.2.1 z.2.2) (ki_turn _ N a b ?_ ?_))
  · rw [← hv]
    apply Array.toList_inj.mp
    simp
  · rw [← hv]; simp
theorem item_made {value slice : PySem.Expr} {Q : Value → Shared → Prop} (N : News h₀ L s.heap news) (hm : (l, listOf vs.toArray n) ∈ news) (h0 : 0 ≤ k) (hhi : k < 2 ^ 63) (hx : vs[k.toNat]? = some v) (h : Q v s)
    (hs : subscripted slice false (.ref l) (.int k u) = operate [.ref l, .int k u] (getItem (.ref l) (.int k u)) := by with_unfolding_all rfl) :
    wpAny (model prog w) A (subscriptTail value slice (.ref l) (.int k u)) Q E s := item_litK (PySem.IsL.isList (n := n) (N _ hm).1) h0 hhi hx h hs
end
section
variable {prog : Program} {w : World} {A : Around} {E : Value → Shared → Prop} {s : Shared} {h₀ : Heap} {L l : Addr} {news : List (Addr × Obj)} {vs : List Value} {n : Nat} {k : Int} {u : Tok}
/-- an item at a place within a made list: one of its items -/
theorem item_mem {value slice : PySem.Expr} {Q : Value → Shared → Prop} (N : News h₀ L s.heap news) (hm : (l, listOf vs.toArray n) ∈ news) (h0 : 0 ≤ k) (hhi : k < 2 ^ 63) (hx : k < vs.length) (h : ∀ v ∈ vs, Q v s)
    (hs : subscripted slice false (.ref l) (.int k u) = operate [.ref l, .int k u] (getItem (.ref l) (.int k u)) := by with_unfolding_all rfl) :
    wpAny (model prog w) A (subscriptTail value slice (.ref l) (.int k u)) Q E s := by
  have hk : k.toNat < vs.length := by omega
  exact item_made (v := vs[k.toNat]) N hm h0 hhi (List.getElem?_eq_getElem hk) (h _ (List.getElem_mem hk)) hs
end
theorem fdiv_nonneg {a b : Int} (ha : 0 ≤ a) (hb : 0 < b) : 0 ≤ a.fdiv b := by
  have := (fdiv_facts (a := a) hb).2
  generalize a.fdiv b = q at *
  apply Int.not_lt.mp
  intro h
  have e1 : (q + 1) * b ≤ 0 * b := Int.mul_le_mul_of_nonneg_right (by omega) (by omega)
  omega
/-- the source behind a draw: an int below the top, the source's two cells -/
noncomputable abbrev RetTake (news : List (Addr × Obj)) (l : Addr) (n : Nat) (top : Int) (h₀ : Heap) (L : Addr) (m : Str → Option Value) (s : Shared) (Q : Value → Shared → Prop) : Prop :=
  ∀ (v a' b' : Int) (t ta' tb' : Tok) (h' : Heap) (tk' : Nat), 0 ≤ v → v < top → 0 ≤ a' → 0 ≤ b' → b' < 2 ^ 31 → Fr h₀ L h' m → News h₀ L h' ((l, listOf [Value.int a' ta', Value.int b' tb'].toArray n) :: news) → Q (.int v t) { s with heap := h', toks := tk' }
local macro_rules | `(tactic| walk_at "setItem ref int") => `(tactic| (k_here; (with_reducible show wpAny _ _ (setItem (Value.ref _) (Value.int _ _) _) _ _ _); k_dflt (refine' set_lit ?k1 ?k2 ?k3 ?k4 ?k5 ?k6 ?k7 ?_; (case k1 => k_asm); (case k2 => k_asm); (case k3 => k_upd); (case k4 => exact rfl); (case k5 => decide); (case k6 => simp; done); (case k7 => decide); k_whole); intro h' F' N'; (try k_sweep)))
local macro_rules | `(tactic| walk_at "subscriptTail") => `(tactic| (k_here; (with_reducible show wpAny _ _ (subscriptTail _ _ (Value.ref _) (Value.int _ _)) _ _ _); (with_unfolding_all refine' item_made ?k0 ?k1 ?k2 ?k3 ?k4 ?_ ?k6; (case k0 => k_asm); (case k1 => k_mem); (case k2 => decide); (case k3 => decide); (case k4 => rfl); (case k6 => with_unfolding_all rfl); k_whole)))
local macro_rules | `(tactic| k_all) => `(tactic| assumption)
theorem c_take {w : World} {mean : ExcName → Option Value} {mg mb : Str → Option Value} {news : List (Addr × Obj)} {l : Addr} {a b top : Int} {ta tb t : Tok} {n : Nat} :
    Cl 2 w mean mg mb 205 ((l, listOf [Value.int a ta, Value.int b tb].toArray n) :: news) (0 ≤ a ∧ 0 ≤ b ∧ b < 2 ^ 31 ∧ 0 < top ∧ top < 2 ^ 31 ∧ (∀ p ∈ news, p.1 ≠ l)) [.ref l, .int top t] (RetTake news l n top) := by
  unfold Cl; k_fill
  intro dp un gd cn cs a₀ ccd cl outer A₀ base h₀ L m s Q E B F X N T hk hpre hd hu hret
  obtain ⟨ha, hb, hb2, ht, ht2, hne⟩ := hpre
  refine wpAny_call ?_
  k_dflt cell_enter
  k_steps
  · exact hret _ _ _ _ _ _ _ _ (fmod_facts ht).1 (fmod_facts ht).2 (fdiv_nonneg ha ht) hb hb2 (by k_asm) (by k_asm)
  · exact hret _ _ _ _ _ _ _ _ (fmod_facts ht).1 (fmod_facts ht).2 ha (fmod_facts (b := 2147483647) (by decide)).1 (Int.lt_trans (fmod_facts (b := 2147483647) (by decide)).2 (by decide)) (by k_asm) (by k_asm)
/-- one entry taken out of a ledger -/
inductive Pick (l : Addr) (o : Obj) : List (Addr × Obj) → List (Addr × Obj) → Prop
  | head {r} : Pick l o ((l, o) :: r) r
  | tail {p r r'} : Pick l o r r' → Pick l o (p :: r) (p :: r')
theorem Pick.mem {l : Addr} {o : Obj} : ∀ {led rest : List (Addr × Obj)}, Pick l o led rest → ∀ p ∈ (l, o) :: rest, p ∈ led
  | _, _, .head, _, h => h
  | _, _, .tail P, q, h => by
    rcases List.mem_cons.mp h with rfl | h
    · exact .tail _ (P.mem _ (.head _))
    · rcases List.mem_cons.mp h with rfl | h
      · exact .head _
      · exact .tail _ (P.mem _ (.tail _ h))
theorem news_pick {h₀ h : Heap} {L l : Addr} {o : Obj} {led rest : List (Addr × Obj)} (N : News h₀ L h led) (P : Pick l o led rest) : News h₀ L h ((l, o) :: rest) := fun p hp => N p (P.mem p hp)
/-- one of the things comes back, the source drawn once -/
noncomputable abbrev RetOne (news : List (Addr × Obj)) (l : Addr) (n : Nat) (vs : List Value) (h₀ : Heap) (L : Addr) (m : Str → Option Value) (s : Shared) (Q : Value → Shared → Prop) : Prop :=
  ∀ (v : Value) (a' b' : Int) (ta' tb' : Tok) (h' : Heap) (tk' : Nat), v ∈ vs → 0 ≤ a' → 0 ≤ b' → b' < 2 ^ 31 → Fr h₀ L h' m → News h₀ L h' ((l, listOf [Value.int a' ta', Value.int b' tb'].toArray n) :: news) → Q v { s with heap := h', toks := tk' }
theorem RetOne.done {news : List (Addr × Obj)} {l : Addr} {n : Nat} {vs : List Value} {h₀ h' : Heap} {L : Addr} {m : Str → Option Value} {s : Shared} {Q : Value → Shared → Prop} {v : Value} {a' b' : Int} {ta' tb' : Tok} {tk' : Nat} (hret : RetOne news l n vs h₀ L m s Q)
    (F : Fr h₀ L h' m) (N : News h₀ L h' ((l, listOf [Value.int a' ta', Value.int b' tb'].toArray n) :: news)) (hv : v ∈ vs) (ha : 0 ≤ a') (hb : 0 ≤ b') (hb2 : b' < 2 ^ 31) : Q v { s with heap := h', toks := tk' } :=
  hret v a' b' ta' tb' h' tk' hv ha hb hb2 F N
local macro_rules | `(tactic| k_mem) => `(tactic| ((with_reducible show Pick _ _ (_ :: _) _); first | exact Pick.head | exact Pick.tail (by k_mem)))
local macro_rules | `(tactic| walk_at "call ref") => `(tactic| (k_here; (with_reducible show wpAny _ _ (PySem.call (Value.ref 205) [Value.ref _, Value.int _ _]) _ _ _); (k_dflt (refine' Cl.use c_take ?k1 ?k2 ?k3 ?k4 ?k5 ?kK ?kp ?kd ?ku ?_; (case k1 => k_asm); (case k2 => k_asm); (case k3 => k_asm); (case k4 => exact news_pick (by k_asm) (by k_mem)); (case k5 => k_asm); (case kK => first | exact rfl | assumption); (case kp => first | assumption | exact ⟨by omega, by omega, by omega, by omega, by omega, by k_all⟩); (case kd => ktr_room); (case ku => ktr_units); intro v9 a9 b9 t9 ta9 tb9 h9 tk9 hv9 hv8 ha9 hb9 hb8 F9 N9); (all_goals (try dsimp only)); (all_goals (try k_fold)))))
local macro_rules | `(tactic| walk_at "call builtin:len") => `(tactic| (k_here; (with_reducible show wpAny _ _ (PySem.call (Value.builtin "len") [Value.ref _]) _ _ _); k_dflt (refine' kst_len ?k1 ?k2 rfl ?k4 ?_; (case k1 => k_asm); (case k2 => k_mem); (case k4 => omega))))
local macro_rules | `(tactic| walk_at "subscriptTail") => `(tactic| (k_here; (with_reducible show wpAny _ _ (subscriptTail _ _ (Value.ref _) (Value.int _ _)) _ _ _); (with_unfolding_all refine' item_mem ?k0 ?k1 ?k2 ?k3 ?k4 ?_ ?k6; (case k0 => k_asm); (case k1 => k_mem); (case k2 => omega); (case k3 => omega); (case k4 => omega); (case k6 => with_unfolding_all rfl); k_whole); intro v9 hv9))
theorem c_one {w : World} {mean : ExcName → Option Value} {mg mb : Str → Option Value} {news : List (Addr × Obj)} {l tl : Addr} {a b : Int} {ta tb : Tok} {n k : Nat} {vs : List Value} :
    Cl 4 w mean mg mb 212 ((l, listOf [Value.int a ta, Value.int b tb].toArray n) :: (tl, listOf vs.toArray k) :: news) (0 ≤ a ∧ 0 ≤ b ∧ b < 2 ^ 31 ∧ 0 < vs.length ∧ vs.length < 2 ^ 31 ∧ (∀ p ∈ (tl, listOf vs.toArray k) :: news, p.1 ≠ l)) [.ref l, .ref tl] (RetOne ((tl, listOf vs.toArray k) :: news) l n vs) := by
  unfold Cl; k_fill
  intro dp un gd cn cs a₀ ccd cl outer A₀ base h₀ L m s Q E B F X N T hk hpre hd hu hret
  obtain ⟨ha, hb, hb2, ht, ht2, hne⟩ := hpre
  refine wpAny_call ?_
  k_dflt cell_enter
  k_steps
  exact RetOne.done hret (by k_asm) (by k_asm) (by assumption) (by assumption) (by assumption) (by assumption)
structure WayOk (x y len : Int) : Prop where
  sq : x * x + y * y = len * len
  pos : 0 < len
  le : len ≤ 52
  x1 : -52 ≤ x
  x2 : x ≤ 52
  y1 : -52 ≤ y
  y2 : y ≤ 52
theorem way_ok {x₀ y₀ z₀ k r d : Int} (h : x₀ * x₀ + y₀ * y₀ = z₀ * z₀) (hk : 0 ≤ k) (hk2 : k < 4) (hr : r = 1 ∨ r = -1) (hd : d = 1 ∨ d = -1) (h0 : 0 < z₀) (h1 : z₀ ≤ 13) (hx : 0 ≤ x₀ ∧ x₀ ≤ 13) (hy : 0 ≤ y₀ ∧ y₀ ≤ 13) :
    WayOk (r * (1 + k) * x₀) (d * (1 + k) * y₀) ((1 + k) * z₀) := by
  have hkk : k = 0 ∨ k = 1 ∨ k = 2 ∨ k = 3 := by omega
  have sq : r * (1 + k) * x₀ * (r * (1 + k) * x₀) + d * (1 + k) * y₀ * (d * (1 + k) * y₀) = (1 + k) * z₀ * ((1 + k) * z₀) := by
    have hr2 : r * r = 1 := by rcases hr with e | e <;> subst e <;> rfl
    have hd2 : d * d = 1 := by rcases hd with e | e <;> subst e <;> rfl
    grind
  refine ⟨sq, ?_, ?_, ?_, ?_, ?_, ?_⟩ <;> (rcases hkk with e | e | e | e <;> subst e) <;> (try (rcases hr with e | e <;> subst e)) <;> (try (rcases hd with e | e <;> subst e)) <;> omega
noncomputable abbrev tup (vs : List Value) : Obj := { cls := .type "tuple", data := .seq vs.toArray }
theorem fdiv_unique {a b q : Int} (hb : 0 < b) (h1 : q * b ≤ a) (h2 : a < (q + 1) * b) : a.fdiv b = q := by
  obtain ⟨f1, f2⟩ := fdiv_facts (a := a) hb
  generalize a.fdiv b = p at *
  have e1 : p ≤ q := by
    apply Int.not_lt.mp
    intro h
    have := Int.mul_le_mul_of_nonneg_right (c := b) (show q + 1 ≤ p by omega) (by omega)
    omega
  have e2 : q ≤ p := by
    apply Int.not_lt.mp
    intro h
    have := Int.mul_le_mul_of_nonneg_right (c := b) (show p + 1 ≤ q by omega) (by omega)
    omega
  omega
theorem root_share {t L : Int} (ht : 0 ≤ t) (hL : 0 < L) : isq ((4 * t * t).fdiv (L * L)) = (2 * t).fdiv L := by
  obtain ⟨p1, p2⟩ := fdiv_facts (a := 2 * t) hL
  have p0 : 0 ≤ (2 * t).fdiv L := fdiv_nonneg (by omega) hL
  have hLL : 0 < L * L := Int.mul_pos hL hL
  obtain ⟨q1, q2⟩ := fdiv_facts (a := 4 * t * t) hLL
  generalize (4 * t * t).fdiv (L * L) = q at *
  generalize (2 * t).fdiv L = p at *
  refine (isq_unique p0 ?_ ?_).symm
  · have h1 : (p * L) * (p * L) ≤ (2 * t) * (2 * t) := sq_mono (Int.mul_nonneg p0 (by omega)) p1
    apply Int.not_lt.mp
    intro h
    have h2 : (q + 1) * (L * L) ≤ (p * p) * (L * L) := Int.mul_le_mul_of_nonneg_right (by omega) (by omega)
    have e1 : (p * L) * (p * L) = (p * p) * (L * L) := by grind
    have e2 : (2 * t) * (2 * t) = 4 * t * t := by grind
    omega
  · have h1 : 2 * t + 1 ≤ (p + 1) * L := by omega
    have h2 : (2 * t + 1) * (2 * t + 1) ≤ ((p + 1) * L) * ((p + 1) * L) := sq_mono (by omega) h1
    apply Int.not_le.mp
    intro h
    have h3 : ((p + 1) * (p + 1)) * (L * L) ≤ q * (L * L) := Int.mul_le_mul_of_nonneg_right h (by omega)
    have e1 : ((p + 1) * L) * ((p + 1) * L) = ((p + 1) * (p + 1)) * (L * L) := by grind
    have e2 : (2 * t + 1) * (2 * t + 1) = 4 * t * t + 4 * t + 1 := by grind
    omega
theorem half_up {t L : Int} (hL : 0 < L) : ((2 * t).fdiv L + 1).fdiv 2 = (2 * t + L).fdiv (2 * L) := by
  obtain ⟨p1, p2⟩ := fdiv_facts (a := 2 * t) hL
  generalize (2 * t).fdiv L = p at *
  have hm := fdiv_two (p + 1)
  generalize (p + 1).fdiv 2 = m at *
  refine (fdiv_unique (by omega) ?_ ?_).symm
  · have h1 : (2 * m) * L ≤ (p + 1) * L := Int.mul_le_mul_of_nonneg_right hm.1 (by omega)
    have e1 : (2 * m) * L = m * (2 * L) := by grind
    have e2 : (p + 1) * L = p * L + L := by grind
    omega
  · have h1 : (p + 2) * L ≤ (2 * m + 2) * L := Int.mul_le_mul_of_nonneg_right (by omega) (by omega)
    have e1 : (2 * m + 2) * L = (m + 1) * (2 * L) := by grind
    have e2 : (p + 2) * L = (p + 1) * L + L := by grind
    omega
theorem nearRoot_near {t L : Int} (hL : 0 < L) : nearRoot t (L * L) = near t L := by
  unfold nearRoot near
  by_cases h : t < 0
  · rw [if_pos h, if_pos h, root_share (by omega) hL, half_up hL]
  · rw [if_neg h, if_neg h, root_share (by omega) hL, half_up hL]
theorem mul_bd {x y : Int} (hx : -(2 ^ 25) < x ∧ x < 2 ^ 25) (hy : -(2 ^ 25) < y ∧ y < 2 ^ 25) : -(2 ^ 60) < x * y ∧ x * y < 2 ^ 60 := by
  have h1 : Bd 25 x := by unfold Bd; omega
  have h2 : Bd 25 y := by unfold Bd; omega
  have h3 := Bd.mul h1 h2
  unfold Bd at h3
  omega
theorem WayOk.sq2 {x y l : Int} (h : WayOk x y l) : 0 < x * x + y * y ∧ x * x + y * y ≤ 2704 := by
  rw [h.sq]
  have := h.pos
  have := h.le
  refine ⟨Int.mul_pos h.pos h.pos, ?_⟩
  have := Int.mul_le_mul (a := l) (b := l) (c := 52) (d := 52) (by omega) (by omega) (by omega) (by omega)
  omega
theorem nrs1 {x y l half : Int} (h : WayOk x y l) (hh : 0 < half ∧ half ≤ 40) : -(2 ^ 60) < y * half ∧ y * half < 2 ^ 60 ∧ 0 < x * x + y * y ∧ x * x + y * y < 2 ^ 200 := by
  have h1 := mul_bd (x := y) (y := half) (by have := h.y1; have := h.y2; omega) (by omega)
  have h2 := h.sq2
  exact ⟨h1.1, h1.2, h2.1, by omega⟩
theorem nrs2 {x y l half : Int} (h : WayOk x y l) (hh : 0 < half ∧ half ≤ 40) : -(2 ^ 60) < -x * half ∧ -x * half < 2 ^ 60 ∧ 0 < x * x + y * y ∧ x * x + y * y < 2 ^ 200 := by
  have h1 := mul_bd (x := -x) (y := half) (by have := h.x1; have := h.x2; omega) (by omega)
  have h2 := h.sq2
  exact ⟨h1.1, h1.2, h2.1, by omega⟩
noncomputable abbrev kv (w : World) (x : Str) (t : Tok) (v : Value) : DictEntry := { hash := PyData.keyHash w.params x, key := .str x t, val := v }
noncomputable def flip (turn x : Int) : Int := if turn < 0 then -x else x
theorem near_cross {t b t' b' : Int} (hb : 0 < b) (hb' : 0 < b') (h : t * b' = t' * b) : near t b = near t' b' := by
  have key : ∀ {u v u' v' : Int}, 0 < v → 0 < v' → u * v' = u' * v → (2 * u + v).fdiv (2 * v) = (2 * u' + v').fdiv (2 * v') := by
    intro u v u' v' hv hv' e
    obtain ⟨f1, f2⟩ := fdiv_facts (a := 2 * u + v) (b := 2 * v) (by omega)
    generalize (2 * u + v).fdiv (2 * v) = q at *
    refine (fdiv_unique (by omega) ?_ ?_).symm
    · apply Int.not_lt.mp
      intro h
      have h1 : (2 * u' + v') * v < (q * (2 * v')) * v := Int.mul_lt_mul_of_pos_right h hv
      have h2 : (q * (2 * v)) * v' ≤ (2 * u + v) * v' := Int.mul_le_mul_of_nonneg_right f1 (by omega)
      have e1 : (2 * u' + v') * v = (2 * u + v) * v' := by grind
      have e2 : (q * (2 * v')) * v = (q * (2 * v)) * v' := by grind
      omega
    · apply Int.not_le.mp
      intro h
      have h1 : ((q + 1) * (2 * v')) * v ≤ (2 * u' + v') * v := Int.mul_le_mul_of_nonneg_right h (by omega)
      have h2 : (2 * u + v) * v' < ((q + 1) * (2 * v)) * v' := Int.mul_lt_mul_of_pos_right f2 hv'
      have e1 : (2 * u' + v') * v = (2 * u + v) * v' := by grind
      have e2 : ((q + 1) * (2 * v')) * v = ((q + 1) * (2 * v)) * v' := by grind
      omega
  have sgn : t < 0 ↔ t' < 0 := by
    constructor
    · intro h0
      apply Int.not_le.mp
      intro h1
      have h2 : t * b' < 0 := Int.mul_neg_of_neg_of_pos h0 hb'
      have h3 : 0 ≤ t' * b := Int.mul_nonneg h1 (by omega)
      omega
    · intro h0
      apply Int.not_le.mp
      intro h1
      have h2 : t' * b < 0 := Int.mul_neg_of_neg_of_pos h0 hb
      have h3 : 0 ≤ t * b' := Int.mul_nonneg h1 (by omega)
      omega
  unfold near
  by_cases h0 : t < 0
  · rw [if_pos h0, if_pos (sgn.mp h0), key (u' := -t') hb hb' (by rw [Int.neg_mul, Int.neg_mul, h])]
  · rw [if_neg h0, if_neg (fun h => h0 (sgn.mpr h)), key hb hb' h]
noncomputable def sg (turn : Int) : Int := if 0 < turn then 1 else -1
noncomputable abbrev trn (fx fy gx gy : Int) : Int := fx * gy - fy * gx
noncomputable abbrev dot (fx fy gx gy : Int) : Int := fx * gx + fy * gy
noncomputable def cX (fx fy l1 gx gy l2 : Int) : Int := sg (trn fx fy gx gy) * (l2 * fx - l1 * gx)
noncomputable def cY (fx fy l1 gx gy l2 : Int) : Int := sg (trn fx fy gx gy) * (l2 * fy - l1 * gy)
theorem lagrange {fx fy l1 gx gy l2 : Int} (h1 : WayOk fx fy l1) (h2 : WayOk gx gy l2) : (l1 * l2) * (l1 * l2) = dot fx fy gx gy * dot fx fy gx gy + trn fx fy gx gy * trn fx fy gx gy := by
  have a := h1.sq
  have b := h2.sq
  unfold dot trn
  have e : (l1 * l2) * (l1 * l2) = (l1 * l1) * (l2 * l2) := by grind
  rw [e, ← a, ← b]
  grind
theorem ll_pos {fx fy l1 gx gy l2 : Int} (h1 : WayOk fx fy l1) (h2 : WayOk gx gy l2) : 0 < l1 * l2 := Int.mul_pos h1.pos h2.pos
theorem abs_lt_of_sq {a r : Int} (hr : 0 < r) (h : a * a < r * r) : -r < a ∧ a < r := by
  constructor
  · apply Int.not_le.mp
    intro h1
    have := sq_mono (a := r) (b := -a) (by omega) (by omega)
    have e : -a * -a = a * a := by grind
    omega
  · apply Int.not_le.mp
    intro h1
    have := sq_mono (a := r) (b := a) (by omega) (by omega)
    omega
theorem sq_pos {a : Int} (h : a ≠ 0) : 0 < a * a := by
  rcases Int.lt_or_gt_of_ne h with h | h
  · exact Int.mul_pos_of_neg_of_neg h h
  · exact Int.mul_pos h h
theorem below_pos {fx fy l1 gx gy l2 : Int} (h1 : WayOk fx fy l1) (h2 : WayOk gx gy l2) (ht : trn fx fy gx gy ≠ 0) : -(l1 * l2) < dot fx fy gx gy ∧ dot fx fy gx gy < l1 * l2 := by
  have e := lagrange h1 h2
  have := sq_pos ht
  exact abs_lt_of_sq (ll_pos h1 h2) (by omega)
theorem back_dot {fx fy l1 gx gy l2 : Int} (h1 : WayOk fx fy l1) (h2 : WayOk gx gy l2) (ht : trn fx fy gx gy = 0) (hd : dot fx fy gx gy ≤ 0) : dot fx fy gx gy = -(l1 * l2) := by
  have e := lagrange h1 h2
  have p := ll_pos h1 h2
  rw [ht] at e
  generalize dot fx fy gx gy = d at *
  generalize l1 * l2 = r at *
  have e2 : r * r = -d * -d := by grind
  have a1 : r ≤ -d := by
    apply Int.not_lt.mp
    intro h
    have := sq_mono (a := -d + 1) (b := r) (by omega) (by omega)
    have e3 : (-d + 1) * (-d + 1) = -d * -d + 2 * -d + 1 := by grind
    omega
  have a2 : -d ≤ r := by
    apply Int.not_lt.mp
    intro h
    have := sq_mono (a := r + 1) (b := -d) (by omega) (by omega)
    have e3 : (r + 1) * (r + 1) = r * r + 2 * r + 1 := by grind
    omega
  omega
noncomputable abbrev S64 : Int := 18446744073709551616
theorem root_squares {fx fy l1 gx gy l2 : Int} (h1 : WayOk fx fy l1) (h2 : WayOk gx gy l2) : isq ((fx * fx + fy * fy) * (gx * gx + gy * gy) * S64 * S64) = l1 * l2 * S64 := by
  rw [h1.sq, h2.sq]
  have e : l1 * l1 * (l2 * l2) * S64 * S64 = (l1 * l2 * S64) * (l1 * l2 * S64) := by grind
  rw [e]
  exact isq_sq (Int.mul_nonneg (Int.le_of_lt (ll_pos h1 h2)) (by decide))
theorem root_square {fx fy l1 : Int} (h1 : WayOk fx fy l1) : isq ((fx * fx + fy * fy) * S64 * S64) = l1 * S64 := by
  rw [h1.sq]
  have e : l1 * l1 * S64 * S64 = (l1 * S64) * (l1 * S64) := by grind
  rw [e]
  exact isq_sq (Int.mul_nonneg (Int.le_of_lt h1.pos) (by decide))
theorem sg_cases (t : Int) (ht : t ≠ 0) : (t < 0 ∧ sg t = -1) ∨ (0 < t ∧ sg t = 1) := by
  unfold sg
  by_cases h : 0 < t
  · exact .inr ⟨h, if_pos h⟩
  · exact .inl ⟨by omega, if_neg h⟩
theorem tip_x {fx fy l1 gx gy l2 half : Int} (h1 : WayOk fx fy l1) (h2 : WayOk gx gy l2) (ht : trn fx fy gx gy ≠ 0) :
    near ((if trn fx fy gx gy < 0 then -half else half) * (fy * (l2 * S64) + gy * (l1 * S64))) (l1 * l2 * S64 + dot fx fy gx gy * S64) = lnear (half * cX fx fy l1 gx gy l2) (trn fx fy gx gy) := by
  have hb := below_pos h1 h2 ht
  have a := h1.sq
  have b := h2.sq
  have hpos : 0 < l1 * l2 * S64 + dot fx fy gx gy * S64 := by
    have e : l1 * l2 * S64 + dot fx fy gx gy * S64 = (l1 * l2 + dot fx fy gx gy) * S64 := by grind
    rw [e]
    exact Int.mul_pos (by omega) (by decide)
  unfold lnear cX
  rcases sg_cases _ ht with ⟨h, e⟩ | ⟨h, e⟩
  · rw [if_pos h, if_pos h, e]
    refine near_cross hpos (by omega) ?_
    unfold trn dot
    grind
  · rw [if_neg (by omega), if_neg (by omega), e]
    refine near_cross hpos h ?_
    unfold trn dot
    grind
theorem tip_y {fx fy l1 gx gy l2 half : Int} (h1 : WayOk fx fy l1) (h2 : WayOk gx gy l2) (ht : trn fx fy gx gy ≠ 0) :
    near (-(if trn fx fy gx gy < 0 then -half else half) * (fx * (l2 * S64) + gx * (l1 * S64))) (l1 * l2 * S64 + dot fx fy gx gy * S64) = lnear (half * cY fx fy l1 gx gy l2) (trn fx fy gx gy) := by
  have hb := below_pos h1 h2 ht
  have a := h1.sq
  have b := h2.sq
  have hpos : 0 < l1 * l2 * S64 + dot fx fy gx gy * S64 := by
    have e : l1 * l2 * S64 + dot fx fy gx gy * S64 = (l1 * l2 + dot fx fy gx gy) * S64 := by grind
    rw [e]
    exact Int.mul_pos (by omega) (by decide)
  unfold lnear cY
  rcases sg_cases _ ht with ⟨h, e⟩ | ⟨h, e⟩
  · rw [if_pos h, if_pos h, e]
    refine near_cross hpos (by omega) ?_
    unfold trn dot
    grind
  · rw [if_neg (by omega), if_neg (by omega), e]
    refine near_cross hpos h ?_
    unfold trn dot
    grind
theorem atLeast_root {l f r : Int} (hr : 0 < r) : atLeast l f (r * r) = decide (f * r ≤ l) := by
  have e : f * f * (r * r) = (f * r) * (f * r) := by grind
  unfold atLeast
  rw [e]
  by_cases h : 0 < f
  · rw [if_pos h]
    have hp := Int.mul_pos h hr
    generalize f * r = p at *
    refine decide_eq_decide.mpr ⟨fun ⟨h0, h1⟩ => ?_, fun h1 => ⟨by omega, sq_mono (by omega) h1⟩⟩
    apply Int.not_lt.mp
    intro h2
    have := sq_mono (a := l + 1) (b := p) (by omega) (by omega)
    have e3 : (l + 1) * (l + 1) = l * l + 2 * l + 1 := by grind
    omega
  · rw [if_neg h]
    have hp : f * r ≤ 0 := Int.mul_nonpos_of_nonpos_of_nonneg (by omega) (by omega)
    generalize f * r = p at *
    refine decide_eq_decide.mpr ⟨fun h1 => ?_, fun h1 => ?_⟩
    · rcases h1 with h1 | h1
      · omega
      · apply Int.not_lt.mp
        intro h2
        have := sq_mono (a := -p + 1) (b := -l) (by omega) (by omega)
        have e3 : (-p + 1) * (-p + 1) = p * p + 2 * -p + 1 := by grind
        have e4 : -l * -l = l * l := by grind
        omega
    · by_cases h0 : 0 ≤ l
      · exact .inl h0
      · refine .inr ?_
        have := sq_mono (a := -l) (b := -p) (by omega) (by omega)
        have e3 : -p * -p = p * p := by grind
        have e4 : -l * -l = l * l := by grind
        omega
noncomputable abbrev Win (top b X Y T : Int) : Prop := 0 ≤ top ∧ (X * X + Y * Y) * b * b ≤ top * top * T * T
theorem within_eq {fx fy l1 gx gy l2 top b : Int} (h1 : WayOk fx fy l1) (h2 : WayOk gx gy l2) (ht : trn fx fy gx gy ≠ 0) :
    atLeast (top * top * dot fx fy gx gy) (2 * b * b - top * top) ((fx * fx + fy * fy) * (gx * gx + gy * gy)) = decide ((cX fx fy l1 gx gy l2 * cX fx fy l1 gx gy l2 + cY fx fy l1 gx gy l2 * cY fx fy l1 gx gy l2) * b * b ≤ top * top * trn fx fy gx gy * trn fx fy gx gy) := by
  have hb := below_pos h1 h2 ht
  have hl := lagrange h1 h2
  have e0 : (fx * fx + fy * fy) * (gx * gx + gy * gy) = (l1 * l2) * (l1 * l2) := by
    rw [h1.sq, h2.sq]; grind
  have e1 : cX fx fy l1 gx gy l2 * cX fx fy l1 gx gy l2 + cY fx fy l1 gx gy l2 * cY fx fy l1 gx gy l2 = 2 * (l1 * l2) * (l1 * l2 - dot fx fy gx gy) := by
    have s2 : sg (trn fx fy gx gy) * sg (trn fx fy gx gy) = 1 := by
      rcases sg_cases _ ht with ⟨_, e⟩ | ⟨_, e⟩ <;> rw [e] <;> rfl
    have a := h1.sq
    have b := h2.sq
    unfold cX cY dot
    generalize sg (trn fx fy gx gy) = s at *
    grind
  rw [e0, atLeast_root (ll_pos h1 h2), e1]
  generalize dot fx fy gx gy = d at *
  generalize trn fx fy gx gy = t at *
  generalize l1 * l2 = r at *
  have hk : 0 < r - d := by omega
  have e2 : top * top * t * t = (r - d) * (top * top * (r + d)) := by grind
  have e3 : 2 * r * (r - d) * b * b = (r - d) * (2 * b * b * r) := by grind
  rw [e2, e3]
  refine decide_eq_decide.mpr ⟨fun h => ?_, fun h => ?_⟩
  · exact Int.mul_le_mul_of_nonneg_left (by grind) (by omega)
  · have := Int.le_of_mul_le_mul_left h hk
    grind
theorem crs_x {s l1 l2 fx gx : Int} : l1 * (0 - s * gx) - l2 * (0 - s * fx) = s * (l2 * fx - l1 * gx) := by grind
theorem crs_y {s l1 l2 fy gy : Int} : l2 * (s * fy) - l1 * (s * gy) = s * (l2 * fy - l1 * gy) := by grind
theorem crs_t {s fx fy gx gy : Int} (h : s = 1 ∨ s = -1) : s * fy * (0 - s * gx) - (0 - s * fx) * (s * gy) = trn fx fy gx gy := by
  unfold trn
  rcases h with e | e <;> subst e <;> grind
theorem sg_pos {t : Int} (h : 0 < t) : sg t = 1 := if_pos h
theorem sg_neg {t : Int} (h : ¬ 0 < t) : sg t = -1 := if_neg h
theorem crs1 {s fx fy l1 gx gy l2 : Int} (e : sg (trn fx fy gx gy) = s) : l1 * (0 - s * gx) - l2 * (0 - s * fx) = cX fx fy l1 gx gy l2 := by
  unfold cX; rw [e]; grind
theorem crs2 {s fx fy l1 gx gy l2 : Int} (e : sg (trn fx fy gx gy) = s) : l2 * (s * fy) - l1 * (s * gy) = cY fx fy l1 gx gy l2 := by
  unfold cY; rw [e]; grind
noncomputable abbrev GlobS (mg mb : Str → Option Value) (h : Heap) : Prop := Glob 0 mg mb (List.map itemOf (recsOf hd.view_39)) (scalarsOf [(Str.ofString "SHARP", WData.int 18446744073709551616)] ++ constsW hd.view_39) [] (namesW hd.view_39 [Str.ofString "SHARP"]) h
theorem atl_pre {fx fy l1 gx gy l2 top b : Int} (h1 : WayOk fx fy l1) (h2 : WayOk gx gy l2) (h : -1 ≤ top ∧ top ≤ 9 ∧ 1 ≤ b ∧ b ≤ 3) :
    -(2 ^ 100) < top * top * (fx * gx + fy * gy) ∧ top * top * (fx * gx + fy * gy) < 2 ^ 100 ∧ -(2 ^ 100) < 2 * b * b - top * top ∧ 2 * b * b - top * top < 2 ^ 100 ∧ -(2 ^ 100) < (fx * fx + fy * fy) * (gx * gx + gy * gy) ∧ (fx * fx + fy * fy) * (gx * gx + gy * gy) < 2 ^ 100 := by
  have sm : ∀ {x : Int}, -52 ≤ x → x ≤ 52 → Bd 6 x := by intro x h1 h2; unfold Bd; omega
  have b1 := sm h1.x1 h1.x2
  have b2 := sm h1.y1 h1.y2
  have b3 := sm h2.x1 h2.x2
  have b4 := sm h2.y1 h2.y2
  have bt := sm (x := top) (by omega) (by omega)
  have bb := sm (x := b) (by omega) (by omega)
  have b20 := sm (x := 2) (by omega) (by omega)
  have c1 := Bd.mul (Bd.mul bt bt) (Bd.add (Bd.mul b1 b3) (Bd.mul b2 b4))
  have c2 := Bd.sub (Bd.mul (Bd.mul b20 bb) bb) (Bd.mul bt bt)
  have c3 := Bd.mul (Bd.add (Bd.mul b1 b1) (Bd.mul b2 b2)) (Bd.add (Bd.mul b3 b3) (Bd.mul b4 b4))
  unfold Bd at c1 c2 c3
  omega
theorem sqs_pre {fx fy l1 gx gy l2 : Int} (h1 : WayOk fx fy l1) (h2 : WayOk gx gy l2) : 0 ≤ (fx * fx + fy * fy) * (gx * gx + gy * gy) * S64 * S64 ∧ (fx * fx + fy * fy) * (gx * gx + gy * gy) * S64 * S64 < 2 ^ 200 := by
  have a := h1.sq2
  have b := h2.sq2
  generalize fx * fx + fy * fy = p at *
  generalize gx * gx + gy * gy = q at *
  have h : 0 ≤ p * q := Int.mul_nonneg (by omega) (by omega)
  have h2 : p * q ≤ 2704 * 2704 := Int.mul_le_mul (by omega) (by omega) (by omega) (by omega)
  generalize p * q = r at *
  delta S64
  omega
theorem sq_pre {fx fy l1 : Int} (h1 : WayOk fx fy l1) : 0 ≤ (fx * fx + fy * fy) * S64 * S64 ∧ (fx * fx + fy * fy) * S64 * S64 < 2 ^ 200 := by
  have a := h1.sq2
  generalize fx * fx + fy * fy = p at *
  delta S64
  omega
theorem ll_le {fx fy l1 gx gy l2 : Int} (h1 : WayOk fx fy l1) (h2 : WayOk gx gy l2) : l1 * l2 ≤ 2704 := by
  have := h1.le
  have := h1.pos
  have := h2.le
  have := h2.pos
  have := Int.mul_le_mul (a := l1) (b := l2) (c := 52) (d := 52) (by omega) (by omega) (by omega) (by omega)
  omega
theorem below_pre {fx fy l1 gx gy l2 : Int} (h1 : WayOk fx fy l1) (h2 : WayOk gx gy l2) (ht : fx * gy - fy * gx ≠ 0) : 0 < isq ((fx * fx + fy * fy) * (gx * gx + gy * gy) * S64 * S64) + (fx * gx + fy * gy) * S64 ∧ isq ((fx * fx + fy * fy) * (gx * gx + gy * gy) * S64 * S64) + (fx * gx + fy * gy) * S64 < 2 ^ 200 := by
  rw [root_squares h1 h2]
  have := below_pos h1 h2 ht
  have := ll_le h1 h2
  unfold dot at *
  generalize l1 * l2 = r at *
  generalize fx * gx + fy * gy = d at *
  delta S64
  omega
theorem below_none {fx fy l1 gx gy l2 : Int} (h1 : WayOk fx fy l1) (h2 : WayOk gx gy l2) (ht : fx * gy - fy * gx = 0) (hd : fx * gx + fy * gy ≤ 0) : isq ((fx * fx + fy * fy) * (gx * gx + gy * gy) * S64 * S64) + (fx * gx + fy * gy) * S64 ≤ 0 := by
  rw [root_squares h1 h2]
  have := back_dot h1 h2 ht hd
  unfold dot at *
  generalize l1 * l2 = r at *
  generalize fx * gx + fy * gy = d at *
  delta S64
  omega
theorem tip_x2 {fx fy l1 gx gy l2 half h' : Int} (h1 : WayOk fx fy l1) (h2 : WayOk gx gy l2) (ht : fx * gy - fy * gx ≠ 0) (e : h' = if fx * gy - fy * gx < 0 then -half else half) :
    near (h' * (fy * isq ((gx * gx + gy * gy) * S64 * S64) + gy * isq ((fx * fx + fy * fy) * S64 * S64))) (isq ((fx * fx + fy * fy) * (gx * gx + gy * gy) * S64 * S64) + (fx * gx + fy * gy) * S64) = lnear (half * cX fx fy l1 gx gy l2) (trn fx fy gx gy) := by
  subst e
  rw [root_square h1, root_square h2, root_squares h1 h2]
  exact tip_x h1 h2 ht
theorem tip_y2 {fx fy l1 gx gy l2 half h' : Int} (h1 : WayOk fx fy l1) (h2 : WayOk gx gy l2) (ht : fx * gy - fy * gx ≠ 0) (e : h' = if fx * gy - fy * gx < 0 then -half else half) :
    near (-h' * (fx * isq ((gx * gx + gy * gy) * S64 * S64) + gx * isq ((fx * fx + fy * fy) * S64 * S64))) (isq ((fx * fx + fy * fy) * (gx * gx + gy * gy) * S64 * S64) + (fx * gx + fy * gy) * S64) = lnear (half * cY fx fy l1 gx gy l2) (trn fx fy gx gy) := by
  subst e
  rw [root_square h1, root_square h2, root_squares h1 h2]
  exact tip_y h1 h2 ht
theorem win_1 {top b X Y T : Int} (h : top < 0) : false = decide (Win top b X Y T) := (decide_eq_false (fun hw => by have := hw.1; omega)).symm
theorem win_2 {fx fy l1 gx gy l2 top b : Int} (h1 : WayOk fx fy l1) (h2 : WayOk gx gy l2) (ht : trn fx fy gx gy ≠ 0) (h : ¬ top < 0) :
    atLeast (top * top * (fx * gx + fy * gy)) (2 * b * b - top * top) ((fx * fx + fy * fy) * (gx * gx + gy * gy)) = decide (Win top b (cX fx fy l1 gx gy l2) (cY fx fy l1 gx gy l2) (trn fx fy gx gy)) := by
  refine (within_eq (top := top) (b := b) h1 h2 ht).trans (decide_eq_decide.mpr ⟨fun h => ⟨by omega, h⟩, fun h => h.2⟩)
noncomputable abbrev FlipEq (fx fy l1 gx gy l2 half a1 a2 a3 a4 : Int) : Prop := flip (fx * gy - fy * gx) (near (fy * half) l1) = a1 ∧ flip (fx * gy - fy * gx) (near (-fx * half) l1) = a2 ∧ flip (fx * gy - fy * gx) (near (gy * half) l2) = a3 ∧ flip (fx * gy - fy * gx) (near (-gx * half) l2) = a4
theorem near_odd {t b : Int} : near (-t) b = -near t b ∨ t = 0 := by
  by_cases h0 : t = 0
  · exact .inr h0
  · left
    unfold near
    by_cases h : t < 0
    · rw [if_neg (by omega), if_pos h, Int.neg_neg]
    · rw [if_pos (by omega), if_neg h, Int.neg_neg]
theorem near_zero {b : Int} (hb : 0 < b) : near 0 b = 0 := by
  unfold near
  rw [if_neg (by omega)]
  exact fdiv_unique (by omega) (by omega) (by omega)
theorem near_minus {t b : Int} (hb : 0 < b) : near (-t) b = -near t b := by
  rcases near_odd (t := t) (b := b) with h | h
  · exact h
  · subst h; rw [Int.neg_zero, near_zero hb]; rfl
theorem lnear_pos_b {t b : Int} (hb : 0 < b) : lnear t b = near t b := if_neg (by omega)
theorem flip_p {T n l : Int} (h : 0 < T) : flip T (near n l) = near n l := if_neg (by omega)
theorem flip_n {T n l : Int} (h : T < 0) (hl : 0 < l) : flip T (near n l) = near (-n) l := by
  unfold flip; rw [if_pos h, near_minus hl]
theorem flipEq_p {fx fy l1 gx gy l2 half : Int} (h1 : WayOk fx fy l1) (h2 : WayOk gx gy l2) (h : 0 < fx * gy - fy * gx) :
    FlipEq fx fy l1 gx gy l2 half (lnear (1 * fy * half) l1) (lnear (0 - 1 * fx * half) l1) (lnear (1 * gy * half) l2) (lnear (0 - 1 * gx * half) l2) := by
  unfold FlipEq
  rw [flip_p h, flip_p h, flip_p h, flip_p h, lnear_pos_b h1.pos, lnear_pos_b h1.pos, lnear_pos_b h2.pos, lnear_pos_b h2.pos]
  refine ⟨?_, ?_, ?_, ?_⟩ <;> congr 1 <;> grind
theorem flipEq_n {fx fy l1 gx gy l2 half : Int} (h1 : WayOk fx fy l1) (h2 : WayOk gx gy l2) (h : fx * gy - fy * gx < 0) :
    FlipEq fx fy l1 gx gy l2 half (lnear (-1 * fy * half) l1) (lnear (0 - -1 * fx * half) l1) (lnear (-1 * gy * half) l2) (lnear (0 - -1 * gx * half) l2) := by
  unfold FlipEq
  rw [flip_n h h1.pos, flip_n h h1.pos, flip_n h h2.pos, flip_n h h2.pos, lnear_pos_b h1.pos, lnear_pos_b h1.pos, lnear_pos_b h2.pos, lnear_pos_b h2.pos]
  refine ⟨?_, ?_, ?_, ?_⟩ <;> congr 1 <;> grind
theorem half_ok {v : Int} (h : v < 40) (h0 : 0 ≤ v) : 0 < 1 + v ∧ 1 + v ≤ 40 := by omega
theorem lim_ok {v w u : Int} (h : v < 10) (h1 : w < 4) (h2 : u < 3) (h0 : 0 ≤ v) (h3 : 0 ≤ u) : -1 ≤ v - (if (w == 0) = true then 1 else 0) ∧ v - (if (w == 0) = true then 1 else 0) ≤ 9 ∧ 1 ≤ 1 + u ∧ 1 + u ≤ 3 := by
  split <;> omega
theorem lpos_pre {x y l : Int} (h : WayOk x y l) : l ≠ 0 ∧ -(2 ^ 200) < l ∧ l < 2 ^ 200 := by
  have := h.pos
  have := h.le
  omega
theorem trn_pre {fx fy l1 gx gy l2 : Int} (h1 : WayOk fx fy l1) (h2 : WayOk gx gy l2) (ht : fx * gy - fy * gx ≠ 0) : trn fx fy gx gy ≠ 0 ∧ -(2 ^ 200) < trn fx fy gx gy ∧ trn fx fy gx gy < 2 ^ 200 := by
  have sm : ∀ {x : Int}, -52 ≤ x → x ≤ 52 → Bd 6 x := by intro x h1 h2; unfold Bd; omega
  have c := Bd.sub (Bd.mul (sm h1.x1 h1.x2) (sm h2.y1 h2.y2)) (Bd.mul (sm h1.y1 h1.y2) (sm h2.x1 h2.x2))
  unfold Bd at c
  refine ⟨ht, ?_, ?_⟩ <;> (unfold trn; omega)
theorem bds_c {fx fy l1 gx gy l2 : Int} (h1 : WayOk fx fy l1) (h2 : WayOk gx gy l2) : (-(2 ^ 30) < cX fx fy l1 gx gy l2 ∧ cX fx fy l1 gx gy l2 < 2 ^ 30) ∧ (-(2 ^ 30) < cY fx fy l1 gx gy l2 ∧ cY fx fy l1 gx gy l2 < 2 ^ 30) ∧ (-(2 ^ 30) < trn fx fy gx gy ∧ trn fx fy gx gy < 2 ^ 30) := by
  have sm : ∀ {x : Int}, -52 ≤ x → x ≤ 52 → Bd 6 x := by intro x h1 h2; unfold Bd; omega
  have hs : Bd 1 (sg (trn fx fy gx gy)) := by unfold sg; split <;> (unfold Bd; decide)
  have b1 := sm h1.x1 h1.x2
  have b2 := sm h1.y1 h1.y2
  have b3 := sm h2.x1 h2.x2
  have b4 := sm h2.y1 h2.y2
  have b5 := sm (x := l1) (by have := h1.pos; omega) h1.le
  have b6 := sm (x := l2) (by have := h2.pos; omega) h2.le
  have c1 := Bd.mul hs (Bd.sub (Bd.mul b6 b1) (Bd.mul b5 b3))
  have c2 := Bd.mul hs (Bd.sub (Bd.mul b6 b2) (Bd.mul b5 b4))
  have c3 := Bd.sub (Bd.mul b1 b4) (Bd.mul b2 b3)
  unfold Bd at c1 c2 c3
  unfold cX cY
  refine ⟨⟨?_, ?_⟩, ⟨?_, ?_⟩, ?_, ?_⟩ <;> first | omega | (unfold trn; omega)
/-! a value as the run knows it: an int with a bound of its bits, an object by its place -/
inductive SV where
  | I (x : Int) (k : Nat)
  | B (b : Bool)
  | S (s : Str)
  | N
  | V (v : Value)
  | R (i : Nat)
inductive SO where
  | tup (vs : List SV)
  | lst (vs : List SV)
  | inst (C : Addr) (d : Nat)
  | dic (es : List (Str × SV))
  | cel (v : Option SV)
  | src (bs : List Bool)
inductive VIs (as : List Addr) : SV → Value → Prop
  | I {x k t} : Bd k x → VIs as (.I x k) (.int x t)
  | B {b} : VIs as (.B b) (.bool b)
  | S {s t} : VIs as (.S s) (.str s t)
  | N : VIs as .N .none
  | V {v} : handedIn v = true → VIs as (.V v) v
  | R {i a} : as[i]? = some a → VIs as (.R i) (.ref a)
inductive VsAre (as : List Addr) : List SV → List Value → Prop
  | nil : VsAre as [] []
  | cons {x v xs vs} : VIs as x v → VsAre as xs vs → VsAre as (x :: xs) (v :: vs)
inductive EsAre (w : World) (as : List Addr) : List (Str × SV) → List DictEntry → Prop
  | nil : EsAre w as [] []
  | cons {x sv t v r es} : VIs as sv v → EsAre w as r es → EsAre w as ((x, sv) :: r) (kv w x t v :: es)
inductive OIs (w : World) (as : List Addr) : SO → Obj → Prop
  | tup {svs vs} : VsAre as svs vs → OIs w as (.tup svs) (tup vs)
  | lst {svs vs n} : VsAre as svs vs → OIs w as (.lst svs) (listOf vs.toArray n)
  | inst {C d dx} : as[d]? = some dx → OIs w as (.inst C d) (instObj C dx)
  | dic {ses es n} : EsAre w as ses es → OIs w as (.dic ses) (dictOf es n)
  | cel {sv v o} : VIs as sv v → o.data = .cell (some v) → OIs w as (.cel (some sv)) o
  | cel0 {o} : o.data = .cell none → OIs w as (.cel none) o
  | src {bs a b ta tb n} : 0 ≤ a → 0 ≤ b → b < 2 ^ 31 → OIs w as (.src bs) (listOf [Value.int a ta, Value.int b tb].toArray n)
inductive OsAre (w : World) (as : List Addr) : List SO → List Obj → Prop
  | nil : OsAre w as [] []
  | cons {x o xs os} : OIs w as x o → OsAre w as xs os → OsAre w as (x :: xs) (o :: os)
noncomputable def Ext (as as' : List Addr) : Prop := ∃ l, as' = as ++ l
theorem Ext.refl {as : List Addr} : Ext as as := ⟨[], (List.append_nil _).symm⟩
theorem Ext.trans {a b c : List Addr} (h : Ext a b) (h' : Ext b c) : Ext a c := by
  obtain ⟨l, rfl⟩ := h
  obtain ⟨l', rfl⟩ := h'
  exact ⟨l ++ l', List.append_assoc ..⟩
theorem Ext.one {as : List Addr} {D : Addr} : Ext as (as ++ [D]) := ⟨[D], rfl⟩
theorem Ext.at {as as' : List Addr} (h : Ext as as') {i : Nat} {a : Addr} (e : as[i]? = some a) : as'[i]? = some a := by
  obtain ⟨l, rfl⟩ := h
  have := (List.getElem?_eq_some_iff.mp e).1
  rw [List.getElem?_append_left this]
  exact e
theorem VIs.mono {as as' : List Addr} (h : Ext as as') {x : SV} {v : Value} : VIs as x v → VIs as' x v
  | .I b => .I b
  | .B => .B
  | .S => .S
  | .N => .N
  | .V e => .V e
  | .R e => .R (h.at e)
theorem VsAre.mono {as as' : List Addr} (h : Ext as as') : ∀ {xs : List SV} {vs : List Value}, VsAre as xs vs → VsAre as' xs vs
  | _, _, .nil => .nil
  | _, _, .cons a r => .cons (a.mono h) (r.mono h)
theorem EsAre.mono {w : World} {as as' : List Addr} (h : Ext as as') : ∀ {xs : List (Str × SV)} {vs : List DictEntry}, EsAre w as xs vs → EsAre w as' xs vs
  | _, _, .nil => .nil
  | _, _, .cons a r => .cons (a.mono h) (r.mono h)
theorem OIs.mono {w : World} {as as' : List Addr} (h : Ext as as') {x : SO} {o : Obj} : OIs w as x o → OIs w as' x o
  | .tup a => .tup (a.mono h)
  | .lst a => .lst (a.mono h)
  | .inst e => .inst (h.at e)
  | .dic a => .dic (a.mono h)
  | .cel a e => .cel (a.mono h) e
  | .cel0 e => .cel0 e
  | .src a b c => .src a b c
theorem OsAre.mono {w : World} {as as' : List Addr} (h : Ext as as') : ∀ {xs : List SO} {os : List Obj}, OsAre w as xs os → OsAre w as' xs os
  | _, _, .nil => .nil
  | _, _, .cons a r => .cons (a.mono h) (r.mono h)
theorem OsAre.len {w : World} {as : List Addr} : ∀ {xs : List SO} {os : List Obj}, OsAre w as xs os → xs.length = os.length
  | _, _, .nil => rfl
  | _, _, .cons _ r => congrArg (· + 1) r.len
theorem OsAre.at {w : World} {as : List Addr} : ∀ {xs : List SO} {os : List Obj} {i : Nat} {x : SO}, OsAre w as xs os → xs[i]? = some x → ∃ o, os[i]? = some o ∧ OIs w as x o
  | _, _, 0, _, .cons a _, e => by
    cases e
    exact ⟨_, rfl, a⟩
  | _, _, i + 1, _, .cons _ r, e => r.at (i := i) e
theorem OsAre.append {w : World} {as : List Addr} : ∀ {xs : List SO} {os : List Obj} {x : SO} {o : Obj}, OsAre w as xs os → OIs w as x o → OsAre w as (xs ++ [x]) (os ++ [o])
  | _, _, _, _, .nil, a => .cons a .nil
  | _, _, _, _, .cons b r, a => .cons b (r.append a)
theorem OsAre.set {w : World} {as : List Addr} : ∀ {xs : List SO} {os : List Obj} {i : Nat} {x : SO} {o : Obj}, OsAre w as xs os → OIs w as x o → OsAre w as (xs.set i x) (os.set i o)
  | _, _, _, _, _, .nil, _ => .nil
  | _, _, 0, _, _, .cons _ r, a => .cons a r
  | _, _, _ + 1, _, _, .cons b r, a => .cons b (r.set a)
theorem VsAre.len {as : List Addr} : ∀ {xs : List SV} {vs : List Value}, VsAre as xs vs → xs.length = vs.length
  | _, _, .nil => rfl
  | _, _, .cons _ r => congrArg (· + 1) r.len
theorem VsAre.at {as : List Addr} : ∀ {xs : List SV} {vs : List Value} {i : Nat} {x : SV}, VsAre as xs vs → xs[i]? = some x → ∃ v, vs[i]? = some v ∧ VIs as x v
  | _, _, 0, _, .cons a _, e => by
    cases e
    exact ⟨_, rfl, a⟩
  | _, _, i + 1, _, .cons _ r, e => r.at (i := i) e
theorem VsAre.append {as : List Addr} : ∀ {xs : List SV} {vs : List Value} {x : SV} {v : Value}, VsAre as xs vs → VIs as x v → VsAre as (xs ++ [x]) (vs ++ [v])
  | _, _, _, _, .nil, a => .cons a .nil
  | _, _, _, _, .cons b r, a => .cons b (r.append a)
theorem EsAre.get {w : World} {as : List Addr} : ∀ {xs : List (Str × SV)} {es : List DictEntry} {name : Str} {x : SV}, EsAre w as xs es → xs.lookup name = some x → ∃ v, getL name es = some (some v) ∧ VIs as x v
  | _, _, name, _, .cons (x := y) (t := t) (v := v) (es := es) a r, e => by
    rw [List.lookup_cons] at e
    cases h : (name == y) with
    | true =>
      rw [h] at e
      cases e
      refine ⟨v, ?_, a⟩
      have hh : (y == name) = true := by rw [eq_of_beq h]; exact beq_self_eq_true _
      unfold getL
      rw [List.find?_cons_of_pos (by exact hh)]
    | false =>
      rw [h] at e
      obtain ⟨v', g, b⟩ := r.get e
      refine ⟨v', ?_, b⟩
      have hh : ¬ (y == name) = true := fun q => by rw [eq_of_beq q, beq_self_eq_true] at h; cases h
      unfold getL at g ⊢
      rw [List.find?_cons_of_neg (by exact hh)]
      cases hf : List.find? (fun x => x.key.isStr name) es with
      | some q => rw [hf] at g; exact g
      | none =>
        rw [hf] at g
        simp only at g
        split at g <;> cases g
/-- what is known of the heap: the objects by their places, the rest of the ledger -/
structure StO (w : World) (h₀ : Heap) (L : Addr) (news : List (Addr × Obj)) (as : List Addr) (objs : List SO) (os : List Obj) (h : Heap) : Prop where
  all : OsAre w as objs os
  len : as.length = os.length
  led : News h₀ L h (as.zip os ++ news)
  nd : as.Nodup
  off : ∀ p ∈ news, p.1 ∉ as
noncomputable def St (w : World) (h₀ : Heap) (L : Addr) (news : List (Addr × Obj)) (as : List Addr) (objs : List SO) (h : Heap) : Prop := ∃ os, StO w h₀ L news as objs os h
theorem zip_at {α β : Type} : ∀ {as : List α} {bs : List β} {i : Nat} {a : α} {b : β}, as[i]? = some a → bs[i]? = some b → (a, b) ∈ as.zip bs
  | _ :: _, _ :: _, 0, _, _, e, e' => by cases e; cases e'; exact .head _
  | _ :: _, _ :: _, i + 1, _, _, e, e' => .tail _ (zip_at (i := i) e e')
theorem zip_fst {α β : Type} : ∀ {as : List α} {bs : List β} {p : α × β}, p ∈ as.zip bs → p.1 ∈ as
  | _ :: _, _ :: _, p, h => by
    rcases List.mem_cons.mp h with rfl | h
    · exact .head _
    · exact .tail _ (zip_fst h)
theorem zip_snoc {α β : Type} : ∀ {as : List α} {bs : List β} {a : α} {b : β}, as.length = bs.length → (as ++ [a]).zip (bs ++ [b]) = as.zip bs ++ [(a, b)]
  | [], [], _, _, _ => rfl
  | x :: xs, y :: ys, a, b, h => by
    have h' := Nat.succ.inj h
    show (x, y) :: ((xs ++ [a]).zip (ys ++ [b])) = (x, y) :: (xs.zip ys ++ [(a, b)])
    rw [zip_snoc h']
/-- a place's entry parts the ledger -/
theorem zip_split {α β : Type} : ∀ {as : List α} {bs : List β} {i : Nat} {a : α} {b b' : β}, as.Nodup → as[i]? = some a → bs[i]? = some b →
    ∃ pre post, as.zip bs = pre ++ (a, b) :: post ∧ as.zip (bs.set i b') = pre ++ (a, b') :: post ∧ (∀ p ∈ pre, p.1 ≠ a) ∧ (∀ p ∈ post, p.1 ≠ a)
  | x :: xs, y :: ys, 0, _, _, b', hn, e, e' => by
    cases e; cases e'
    refine ⟨[], xs.zip ys, rfl, rfl, (fun _ h => nomatch h), fun p hp q => ?_⟩
    have := zip_fst hp
    rw [q] at this
    exact (List.nodup_cons.mp hn).1 this
  | x :: xs, y :: ys, i + 1, a, _, b', hn, e, e' => by
    obtain ⟨pre, post, h1, h2, h3, h4⟩ := zip_split (b' := b') (List.nodup_cons.mp hn).2 (i := i) e e'
    refine ⟨(x, y) :: pre, post, ?_, ?_, fun p hp q => ?_, h4⟩
    · show (x, y) :: xs.zip ys = _
      rw [h1]; rfl
    · show (x, y) :: xs.zip (ys.set i b') = _
      rw [h2]; rfl
    · rcases List.mem_cons.mp hp with rfl | hp
      · have hx : x = a := q
        have hm := List.mem_of_getElem? (i := i) (l := xs) e
        exact (List.nodup_cons.mp hn).1 (hx ▸ hm)
      · exact h3 p hp q
section
variable {w : World} {h₀ : Heap} {L : Addr} {news : List (Addr × Obj)} {as : List Addr} {objs : List SO} {os : List Obj} {h : Heap}
theorem StO.get {i : Nat} {a : Addr} {x : SO} (s : StO w h₀ L news as objs os h) (ea : as[i]? = some a) (e : objs[i]? = some x) : ∃ o, os[i]? = some o ∧ OIs w as x o ∧ (a, o) ∈ as.zip os ++ news := by
  obtain ⟨o, ho, q⟩ := s.all.at e
  exact ⟨o, ho, q, List.mem_append_left _ (zip_at ea ho)⟩
theorem StO.place {i : Nat} {x : SO} (s : StO w h₀ L news as objs os h) (e : objs[i]? = some x) : ∃ a, as[i]? = some a := by
  have h1 := (List.getElem?_eq_some_iff.mp e).1
  have h2 : i < as.length := by rw [s.len, ← s.all.len]; exact h1
  exact ⟨_, List.getElem?_eq_getElem h2⟩
theorem StO.pushN {D : Addr} {o : Obj} {x : SO} {h' : Heap} (s : StO w h₀ L news as objs os h) (N : News h₀ L h' ((D, o) :: (as.zip os ++ news))) (hD : ∀ p ∈ as.zip os ++ news, p.1 ≠ D) (q : OIs w (as ++ [D]) x o) :
    StO w h₀ L news (as ++ [D]) (objs ++ [x]) (os ++ [o]) h' := by
  refine ⟨(s.all.mono Ext.one).append q, by simp [s.len], ?_, ?_, fun p hp hm => ?_⟩
  · rw [zip_snoc s.len]
    intro p hp
    refine N p ?_
    simp only [List.mem_append, List.mem_cons, List.not_mem_nil, or_false] at hp ⊢
    rcases hp with (hp | hp) | hp
    · exact .inr (.inl hp)
    · exact .inl hp
    · exact .inr (.inr hp)
  · rw [List.nodup_append]
    refine ⟨s.nd, List.nodup_cons.mpr ⟨List.not_mem_nil, List.nodup_nil⟩, fun a ha b hb q => ?_⟩
    have hb' : b = D := List.mem_singleton.mp hb
    obtain ⟨i, hi⟩ := List.mem_iff_getElem?.mp ha
    have h2 : i < os.length := by rw [← s.len]; exact (List.getElem?_eq_some_iff.mp hi).1
    have h3 := hD _ (List.mem_append_left _ (zip_at hi (List.getElem?_eq_getElem h2)))
    have h4 : a = D := q.trans hb'
    exact h3 h4
  · rcases List.mem_append.mp hm with hm | hm
    · exact s.off p hp hm
    · have h3 := hD p (List.mem_append_right _ hp)
      rw [List.mem_singleton.mp hm] at h3
      exact h3 rfl
theorem StO.push {D : Addr} {o : Obj} {x : SO} {h' : Heap} (s : StO w h₀ L news as objs os h) (N : News h₀ L h' ((D, o) :: (as.zip os ++ news))) (hD : ∀ p ∈ as.zip os ++ news, p.1 < D) (q : OIs w (as ++ [D]) x o) :
    StO w h₀ L news (as ++ [D]) (objs ++ [x]) (os ++ [o]) h' := s.pushN N (fun p hp => Nat.ne_of_lt (hD p hp)) q
/-- an object changed at its place -/
theorem StO.upd {i : Nat} {a : Addr} {o o' : Obj} (s : StO w h₀ L news as objs os h) (ea : as[i]? = some a) (eo : os[i]? = some o) : Upd a o o' (as.zip os ++ news) (as.zip (os.set i o') ++ news) := by
  obtain ⟨pre, post, h1, h2, h3, h4⟩ := zip_split (b' := o') s.nd ea eo
  rw [h1, h2]
  have hp : ∀ p ∈ post ++ news, p.1 ≠ a := fun p hp => by
    rcases List.mem_append.mp hp with hp | hp
    · exact h4 p hp
    · exact fun q => s.off p hp (q ▸ List.mem_of_getElem? ea)
  clear h1 h2 h4
  induction pre with
  | nil => exact Upd.head hp
  | cons q r ih => exact Upd.tail (h3 q (.head _)) (ih fun p hp => h3 p (.tail _ hp))
theorem StO.set {i : Nat} {o' : Obj} {x : SO} {h' : Heap} (s : StO w h₀ L news as objs os h) (N : News h₀ L h' (as.zip (os.set i o') ++ news)) (q : OIs w as x o') : StO w h₀ L news as (objs.set i x) (os.set i o') h' :=
  ⟨s.all.set q, by rw [List.length_set]; exact s.len, N, s.nd, s.off⟩
/-- another frame's, another heap's: the same objects -/
theorem StO.on {g : Heap} {L' : Addr} {h' : Heap} (s : StO w h₀ L news as objs os h) (N : News g L' h' (as.zip os ++ news)) : StO w g L' news as objs os h' := ⟨s.all, s.len, N, s.nd, s.off⟩
end
theorem St.orc {w : World} {h₀ : Heap} {L : Addr} {news : List (Addr × Obj)} {as : List Addr} {bs bs' : List Bool} {r : List SO} {h : Heap} (s : St w h₀ L news as (.src bs :: r) h) : St w h₀ L news as (.src bs' :: r) h := by
  obtain ⟨os, s⟩ := s
  refine ⟨os, ?_, s.len, s.led, s.nd, s.off⟩
  cases s.all with
  | cons a r =>
    cases a with
    | src h1 h2 h3 => exact .cons (.src h1 h2 h3) r
/-- a way chosen: the first object may tell the bits to come -/
noncomputable def xIf (c : Bool) (o : List SO) (A B : List SO → Prop) : Prop := match o with
  | .src (b :: bs) :: r => c = b ∧ (match b with | true => A (.src bs :: r) | false => B (.src bs :: r))
  | o => (c = true → A o) ∧ (c = false → B o)
theorem xIf_use {w : World} {h₀ : Heap} {L : Addr} {news : List (Addr × Obj)} {as : List Addr} {c : Bool} {o : List SO} {A B : List SO → Prop} {h : Heap} (x : xIf c o A B) (s : St w h₀ L news as o h) : ∃ o', St w h₀ L news as o' h ∧ (c = true → A o') ∧ (c = false → B o') := by
  unfold xIf at x
  split at x
  · rename_i b bs r
    refine ⟨.src bs :: r, s.orc, ?_, ?_⟩
    · intro e
      obtain ⟨e', x⟩ := x
      cases e.symm.trans e'
      exact x
    · intro e
      obtain ⟨e', x⟩ := x
      cases e.symm.trans e'
      exact x
  · exact ⟨_, s, x⟩
/-- lists made plain, for the reckoning -/
noncomputable def frVs : List SV → (List SV → Prop) → Prop
  | [], K => K []
  | v :: r, K => frVs r fun r => match v with
    | .I x k => K (.I x k :: r)
    | .B b => K (.B b :: r)
    | .S s => K (.S s :: r)
    | .N => K (.N :: r)
    | .V u => K (.V u :: r)
    | .R i => K (.R i :: r)
theorem frVs_eq : ∀ {l : List SV} {K : List SV → Prop}, frVs l K = K l
  | [], _ => rfl
  | v :: r, K => by
    show (frVs r fun r => _) = _
    rw [frVs_eq]
    cases v <;> rfl
noncomputable def frEs : List (Str × SV) → (List (Str × SV) → Prop) → Prop
  | [], K => K []
  | (x, v) :: r, K => frEs r fun r => match v with
    | .I i k => K ((x, .I i k) :: r)
    | .B b => K ((x, .B b) :: r)
    | .S s => K ((x, .S s) :: r)
    | .N => K ((x, .N) :: r)
    | .V u => K ((x, .V u) :: r)
    | .R i => K ((x, .R i) :: r)
theorem frEs_eq : ∀ {l : List (Str × SV)} {K : List (Str × SV) → Prop}, frEs l K = K l
  | [], _ => rfl
  | (x, v) :: r, K => by
    show (frEs r fun r => _) = _
    rw [frEs_eq]
    cases v <;> rfl
noncomputable def frOs : List SO → (List SO → Prop) → Prop
  | [], K => K []
  | a :: r, K => match a with
    | .tup vs => frVs vs fun vs => frOs r fun r => K (.tup vs :: r)
    | .lst vs => frVs vs fun vs => frOs r fun r => K (.lst vs :: r)
    | .inst c d => frOs r fun r => K (.inst c d :: r)
    | .dic es => frEs es fun es => frOs r fun r => K (.dic es :: r)
    | .cel v => frOs r fun r => K (.cel v :: r)
    | .src bs => frOs r fun r => K (.src bs :: r)
theorem frOs_eq : ∀ {l : List SO} {K : List SO → Prop}, frOs l K = K l
  | [], _ => rfl
  | a :: r, K => by
    cases a with
    | tup vs => exact frVs_eq.trans frOs_eq
    | lst vs => exact frVs_eq.trans frOs_eq
    | dic es => exact frEs_eq.trans frOs_eq
    | inst c d => exact frOs_eq (l := r)
    | cel v => exact frOs_eq (l := r)
    | src bs => exact frOs_eq (l := r)
/-- the state but for heap and tokens -/
noncomputable def Same (s s' : Shared) : Prop := s'.gens = s.gens ∧ s'.drawn = s.drawn ∧ s'.os = s.os
theorem Same.refl {s : Shared} : Same s s := ⟨rfl, rfl, rfl⟩
theorem Same.trans {a b c : Shared} (h : Same a b) (h' : Same b c) : Same a c := ⟨h'.1.trans h.1, h'.2.1.trans h.2.1, h'.2.2.trans h.2.2⟩
theorem Same.mk' {s : Shared} {h : Heap} {t : Nat} : Same s { s with heap := h, toks := t } := ⟨rfl, rfl, rfl⟩
theorem Same.is {s s' : Shared} (h : Same s s') : s' = { s with heap := s'.heap, toks := s'.toks } := by
  obtain ⟨h1, h2, h3⟩ := h
  cases s'
  simp only at h1 h2 h3
  subst h1 h2 h3
  rfl
noncomputable def LocOk (loc : List (Str × SV)) (as : List Addr) (m : Str → Option Value) : Prop := ∀ x sv, loc.lookup x = some sv → ∃ v, m x = some v ∧ VIs as sv v
theorem LocOk.mono {loc : List (Str × SV)} {as as' : List Addr} {m : Str → Option Value} (h : LocOk loc as m) (e : Ext as as') : LocOk loc as' m := fun x sv q => by
  obtain ⟨v, a, b⟩ := h x sv q
  exact ⟨v, a, b.mono e⟩
theorem LocOk.store {loc : List (Str × SV)} {as : List Addr} {m : Str → Option Value} {x : Str} {sv : SV} {v : Value} (h : LocOk loc as m) (q : VIs as sv v) : LocOk ((x, sv) :: loc) as (fun y => if y = x then some v else m y) := fun y sv' e => by
  rw [List.lookup_cons] at e
  cases hy : (y == x) with
  | true =>
    rw [hy] at e
    cases e
    exact ⟨v, if_pos (eq_of_beq hy), q⟩
  | false =>
    rw [hy] at e
    obtain ⟨v', a, b⟩ := h y sv' e
    refine ⟨v', ?_, b⟩
    have : y ≠ x := fun q => by rw [q, beq_self_eq_true] at hy; cases hy
    show (if y = x then some v else m y) = some v'
    rw [if_neg this]
    exact a
/-- what a function's run may use -/
structure Cx where
  names : List (Str × NameKind)
  cidx : List (Str × Nat)
  glob : List (Str × Value)
  gint : List (Str × (Int × Nat))
  cls : Addr
  att : List Str
  met : List (Str × Addr)
  cal : Value → List SV → List SO → (SV → List SO → Prop) → Prop
noncomputable def dats (f : SV → Option PyData) : List SV → Option (List PyData)
  | [] => some []
  | v :: r => (match f v, dats f r with | some d, some ds => some (d :: ds) | _, _ => none)
noncomputable def dat (o : List SO) : Nat → SV → Option PyData
  | _, .I x _ => some (.int x)
  | n + 1, .R i => (match o[i]? with
      | some (.tup vs) => (dats (dat o n) vs).map .tuple
      | some (.lst vs) => (dats (dat o n) vs).map .list
      | _ => none)
  | _, _ => none
noncomputable def xBin (op : Operator) (a b : SV) (K : SV → Prop) : Prop := match a, b with
  | .I a k, .I b l => (match op with
      | .Add => K (.I (a + b) (k + l + 1))
      | .Sub => K (.I (a - b) (k + l + 1))
      | .Mult => (match Nat.ble k 1000 && Nat.ble l 1000 with | true => K (.I (a * b) (k + l)) | false => False)
      | .Pow => (match decide (0 ≤ b ∧ b ≤ 9) && Nat.ble k 64 with | true => K (.I (a ^ b.toNat) (k * 9 + 1)) | false => False)
      | _ => False)
  | _, _ => False
noncomputable def xEqv (o : List SO) (a b : SV) (K : Bool → Prop) : Prop := match dat o 5 a, dat o 5 b with
  | some d, some e => (match SeqAt.shaped d && SeqAt.shaped e with | true => K (PyData.eqv d e) | false => False)
  | _, _ => False
noncomputable def xCmp (op : CmpOp) (a b : SV) (o : List SO) (K : Bool → Prop) : Prop := match a, b with
  | .I a _, .I b _ => (match op with
      | .Lt => K (decide (a < b))
      | .Gt => K (decide (b < a))
      | .LtE => K (decide (a ≤ b))
      | .GtE => K (decide (b ≤ a))
      | .Eq => K (a == b)
      | .NotEq => K (a != b)
      | _ => False)
  | .B a, .B b => (match op with | .NotEq => K (a != b) | _ => False)
  | .S a, .S b => (match op with | .Eq => K (a == b) | _ => False)
  | .N, .N => (match op with | .Is => K true | _ => False)
  | .R _, .N => (match op with | .Is => K false | _ => False)
  | .R i, .R j => (match op with | .Eq => xEqv o (.R i) (.R j) K | .NotEq => xEqv o (.R i) (.R j) fun b => K (!b) | _ => False)
  | _, _ => False
noncomputable def plainArgs : List Expr → Bool
  | [] => true
  | .Starred _ _ :: _ => false
  | _ :: r => plainArgs r
/-- the turns of a block, one item each -/
noncomputable def xTurns (f : SV → List SO → (SV → List SO → Prop) → Prop) : List SV → List SV → List SO → (List SV → List SO → Prop) → Prop
  | [], ys, o, K => K ys o
  | v :: r, ys, o, K => f v o fun y o' => xTurns f r (ys ++ [y]) o' K
noncomputable def relab (κ : Str → Option NameKind) (names : List (Str × NameKind)) : List (Str × NameKind) := names.map fun (n, k) => if (k == NameKind.free && ScopeKind.function == ScopeKind.function && κ n == some NameKind.cell) then (n, NameKind.cell) else (n, k)
noncomputable def freeIdx (C : Cx) : List (Str × NameKind) → Option (List (Str × Nat))
  | [] => some []
  | (n, k) :: r => (match k == NameKind.free with
      | true => (match C.names.lookup n == some NameKind.cell, C.cidx.lookup n, freeIdx C r with
          | true, some i, some l => some ((n, i) :: l)
          | _, _, _ => none)
      | false => freeIdx C r)
noncomputable def compCx (C : Cx) (scope : Scope) (x : Str) : Option Cx := match (scope.kind == ScopeKind.function) && (scope.names.all fun y => y.2 != .cell && (y.2 != .local || scope.names.lookup y.1 == some .local) && !(y.1 == ("__debug__" : Str))) && (scope.names.lookup x == some NameKind.local), freeIdx C scope.names with
  | true, some l => some { C with names := relab (fun n => C.names.lookup n) scope.names, cidx := l }
  | _, _ => none
noncomputable def xReq (b : Bool) (P : Prop) : Prop := match b with | true => P | false => False
theorem xReq.out {b : Bool} {P : Prop} (h : xReq b P) : b = true ∧ P := by
  cases b with
  | true => exact ⟨rfl, h⟩
  | false => exact False.elim h
noncomputable def xOpt {α : Type} (a : Option α) (f : α → Prop) : Prop := match a with | some x => f x | none => False
theorem xOpt.out {α : Type} {a : Option α} {f : α → Prop} (h : xOpt a f) : ∃ x, a = some x ∧ f x := by
  cases a with
  | some x => exact ⟨x, rfl, h⟩
  | none => exact False.elim h
noncomputable def xName (C : Cx) (loc : List (Str × SV)) (x : Str) (o : List SO) (K : SV → List SO → Prop) : Prop := match C.names.lookup x with
    | some .local => (match loc.lookup x with | some v => K v o | none => False)
    | some .cell => (match C.cidx.lookup x with
        | some i => (match o[i]? with | some (.cel (some v)) => K v o | _ => False)
        | none => False)
    | some .free => (match C.cidx.lookup x, (x == ("__classdict__" : Str)) with
        | some i, false => (match o[i]? with | some (.cel (some v)) => K v o | _ => False)
        | _, _ => False)
    | some .globalImplicit => (match C.gint.lookup x with
        | some q => K (.I q.1 q.2) o
        | none => (match C.glob.lookup x with | some v => K (.V v) o | none => False))
    | _ => False
/-- what a call's name means -/
noncomputable def callee (C : Cx) (f : Str) : Option Value := match C.names.lookup f, C.gint.lookup f with
  | some .globalImplicit, none => C.glob.lookup f
  | _, _ => none
mutual
noncomputable def xE (C : Cx) (loc : List (Str × SV)) : Nat → Expr → List SO → (SV → List SO → Prop) → Prop
  | 0, _, _, _ => False
  | n + 1, e, o, K => match e with
    | .Name x _ => xName C loc x o K
    | .Constant (.int i) _ _ => K (.I i (i.natAbs.log2 + 1)) o
    | .Constant (.str s) _ _ => K (.S s) o
    | .Constant (.bool b) _ _ => K (.B b) o
    | .Constant .none _ _ => K .N o
    | .BinOp l op r _ => xE C loc n l o fun a o1 => xE C loc n r o1 fun b o2 => xBin op a b fun v => K v o2
    | .UnaryOp op x _ => xE C loc n x o fun a o1 => (match op, a with | .USub, .I i k => K (.I (-i) k) o1 | .Not, .B b => K (.B (!b)) o1 | _, _ => False)
    | .Compare l [op] [r] _ => xReq (!behindInMarks op r) (xE C loc n l o fun a o1 => xE C loc n r o1 fun b o2 => xCmp op a b o2 fun v => K (.B v) o2)
    | .Tuple es _ _ => xEs C loc n es o fun vs o1 => (match Nat.ble vs.length 1000 with
        | true => K (.R o1.length) (o1 ++ [.tup vs])
        | false => False)
    | .List es _ => xEs C loc n es o fun vs o1 => (match Nat.ble vs.length 1000 with
        | true => K (.R o1.length) (o1 ++ [.lst vs])
        | false => False)
    | .Subscript v (.Constant (.int (.ofNat k)) _ _) _ => xE C loc n v o fun a o1 => (match a with
        | .R i => (match o1[i]?, Nat.ble k 1000 with
            | some (.tup vs), true => (match vs[k]? with | some x => K x o1 | none => False)
            | some (.lst vs), true => (match vs[k]? with | some x => K x o1 | none => False)
            | _, _ => False)
        | _ => False)
    | .Attribute (.Name v vp) name _ => xE C loc n (.Name v vp) o fun a o1 => (match a with
        | .R i => (match o1[i]? with
            | some (.inst c d) => (match o1[d]?, (c == C.cls && C.att.contains name) with
                | some (.dic es), true => (match es.lookup name with | some x => K x o1 | none => False)
                | _, _ => False)
            | _ => False)
        | _ => False)
    | .IfExp t b e _ => xT C loc n t o fun c o1 => xIf c o1 (fun o1 => xE C loc n b o1 K) (fun o1 => xE C loc n e o1 K)
    | .BoolOp op [e] _ => (match op with | .And => xE C loc n e o K | .Or => xE C loc n e o K)
    | .BoolOp op (e :: e₂ :: r) pos => xE C loc n e o fun a o1 => (match a with
        | .B c => (match op with
            | .And => xIf c o1 (fun o1 => xE C loc n (.BoolOp .And (e₂ :: r) pos) o1 K) (fun o1 => K (.B false) o1)
            | .Or => xIf c o1 (fun o1 => K (.B true) o1) (fun o1 => xE C loc n (.BoolOp .Or (e₂ :: r) pos) o1 K))
        | _ => False)
    | .Call (.Attribute (.Name v vp) name apos) [] [] pos => xReq (apos.endLine == pos.line) (xE C loc n (.Name v vp) o fun a o1 => (match a with
          | .R i => (match o1[i]? with
            | some (.inst c d) => (match o1[d]?, (c == C.cls), C.met.lookup name with
                | some (.dic es), true, some g => (match es.lookup name with
                    | none => C.cal (.ref g) [.R i] o1 K
                    | some _ => False)
                | _, _, _ => False)
            | _ => False)
          | _ => False))
    | .ListComp elt [⟨.Name x _, .List es _, [], 0⟩] scope _ => xOpt (compCx C scope x) fun C' => xEs C loc n es o fun vs o1 => (match Nat.ble vs.length 1000 with
            | true => xTurns (fun v o K => xE C' [(x, v)] n elt o K) vs [] o1 fun ys o2 => K (.R o2.length) (o2 ++ [.lst ys])
            | false => False)
    | .Call (.Name f _) args [] _ => xOpt (callee C f) fun v => xReq (plainArgs args) (match v with
            | .ref g => xEs C loc n args o fun vs o2 => C.cal (.ref g) vs o2 K
            | .type "int" => xEs C loc n args o fun vs o2 => (match vs with | [.B b] => K (.I (if b = true then 1 else 0) 1) o2 | _ => False)
            | _ => False)
    | _ => False
noncomputable def xEs (C : Cx) (loc : List (Str × SV)) : Nat → List Expr → List SO → (List SV → List SO → Prop) → Prop
  | 0, _, _, _ => False
  | n + 1, es, o, K => match es with
    | [] => K [] o
    | e :: r => xE C loc n e o fun v o1 => xEs C loc n r o1 fun vs o2 => K (v :: vs) o2
noncomputable def xT (C : Cx) (loc : List (Str × SV)) : Nat → Expr → List SO → (Bool → List SO → Prop) → Prop
  | 0, _, _, _ => False
  | n + 1, e, o, K => match e with
    | .Compare l [op] [r] _ => xReq (!behindInMarks op r) (xE C loc n l o fun a o1 => xE C loc n r o1 fun b o2 => xCmp op a b o2 fun v => K v o2)
    | .UnaryOp .Not x _ => xT C loc n x o fun c o1 => K (!c) o1
    | .BoolOp .And [] _ => K true o
    | .BoolOp .Or [] _ => K false o
    | .BoolOp .And (x :: r) pos => xT C loc n x o fun c o1 => xIf c o1 (fun o1 => xT C loc n (.BoolOp .And r pos) o1 K) (fun o1 => K false o1)
    | .BoolOp .Or (x :: r) pos => xT C loc n x o fun c o1 => xIf c o1 (fun o1 => K true o1) (fun o1 => xT C loc n (.BoolOp .Or r pos) o1 K)
    | .Name x p => xE C loc n (.Name x p) o fun v o1 => (match v with | .B b => K b o1 | _ => False)
    | .Call f args kw p => xE C loc n (.Call f args kw p) o fun v o1 => (match v with | .B b => K b o1 | _ => False)
    | _ => False
end
noncomputable def Kok (w : World) (h₀ : Heap) (L : Addr) (news : List (Addr × Obj)) (m : Str → Option Value) (as : List Addr) (s : Shared) (KK : SV → List SO → Prop) (Q : Value → Shared → Prop) : Prop :=
  ∀ sv o' as' v s', KK sv o' → Ext as as' → Fr h₀ L s'.heap m → St w h₀ L news as' o' s'.heap → VIs as' sv v → Same s s' → Q v s'
noncomputable def KokL (w : World) (h₀ : Heap) (L : Addr) (news : List (Addr × Obj)) (m : Str → Option Value) (as : List Addr) (s : Shared) (KK : List SV → List SO → Prop) (Q : List Value → Shared → Prop) : Prop :=
  ∀ svs o' as' vs s', KK svs o' → Ext as as' → Fr h₀ L s'.heap m → St w h₀ L news as' o' s'.heap → VsAre as' svs vs → Same s s' → Q vs s'
noncomputable def KokB (w : World) (h₀ : Heap) (L : Addr) (news : List (Addr × Obj)) (m : Str → Option Value) (as : List Addr) (s : Shared) (KK : Bool → List SO → Prop) (Q : Bool → Shared → Prop) : Prop :=
  ∀ b o' as' s', KK b o' → Ext as as' → Fr h₀ L s'.heap m → St w h₀ L news as' o' s'.heap → Same s s' → Q b s'
noncomputable def CalOk (prog : Program) (w : World) (A : Around) (h₀ : Heap) (L : Addr) (news : List (Addr × Obj)) (cal : Value → List SV → List SO → (SV → List SO → Prop) → Prop) : Prop :=
  ∀ f svs o KK, cal f svs o KK → ∀ as m s vs Q E, Fr h₀ L s.heap m → St w h₀ L news as o s.heap → VsAre as svs vs → Kok w h₀ L news m as s KK Q → wpAny (model prog w) A (call f vs) Q E s
noncomputable def Ci (C : Cx) (cl : List (Str × Addr)) (as : List Addr) : Prop := ∀ x i, C.cidx.lookup x = some i → ∃ c, cl.lookup x = some c ∧ as[i]? = some c
theorem Ci.mono {C : Cx} {cl : List (Str × Addr)} {as as' : List Addr} (h : Ci C cl as) (e : Ext as as') : Ci C cl as' := fun x i q => by
  obtain ⟨c, a, b⟩ := h x i q
  exact ⟨c, a, e.at b⟩
structure CxOk (prog : Program) (w : World) (A : Around) (K : Frag) (h₀ : Heap) (L : Addr) (news : List (Addr × Obj)) (env : Env) (C : Cx) (mg : Str → Option Value) : Prop where
  nm : ∀ x k, C.names.lookup x = some k → env.kindOf x = some k ∧ (x == ("__debug__" : Str)) = false
  gl : ∀ x v, C.glob.lookup x = some v → handedIn v = true ∧ (∀ g, v = .ref g → keepIn K v = true) ∧ (nsIn K mainGlobals x = some (some v) ∨ (nsIn K mainGlobals x = some none ∧ bootBuiltins x = some v ∧ x ≠ ("__name__" : Str)))
  at_ : ∀ x, C.att.contains x = true → plainGet K C.cls x = true ∧ ∃ attr, findIn K (.ref C.cls) x = some attr ∧ noGet K attr = true
  hd : hasDictIn K C.cls = true
  gi : ∀ x q, C.gint.lookup x = some q → Bd q.2 q.1 ∧ ∃ t, mg x = some (.int q.1 t)
  sa : findIn K (.ref C.cls) (Str.ofString "__setattr__") = some (some (.builtin "object.__setattr__"))
  po : plainOver K C.cls = true
  tk : ∀ x, C.att.contains x = true → takerIn K C.cls x = some none
  kd : env.kindOf = fun x => C.names.lookup x
  me : ∀ x g, C.met.lookup x = some g → plainGet K C.cls x = true ∧ findIn K (.ref C.cls) x = some (some (.ref g)) ∧ isFn K (.ref g) = true ∧ keepIn K (.ref g) = true
  cal : ∀ news, CalOk prog w A h₀ L news C.cal
theorem Bd.lit (i : Int) : Bd (i.natAbs.log2 + 1) i := by
  unfold Bd
  exact Nat.lt_log2_self
theorem Bd.mulOk {k l : Nat} {a b : Int} (ha : Bd k a) (hb : Bd l b) (h : (Nat.ble k 1000 && Nat.ble l 1000) = true) : IntMulOk a b := by
  rw [Bool.and_eq_true] at h
  have h1 := Nat.le_of_ble_eq_true h.1
  have h2 := Nat.le_of_ble_eq_true h.2
  exact IntMulOk.of_bits (Bd.bits ha (Nat.le_trans h1 (by decide))) (Bd.bits hb (Nat.le_trans h2 (by decide)))
theorem sizeLine_big {n : Nat} (h : n ≤ 1000) : n ≤ sizeLine := by rw [sizeLine_eq]; omega
section
variable {w : World} {h₀ : Heap} {L : Addr} {news : List (Addr × Obj)} {as : List Addr} {o : List SO} {os : List Obj} {h : Heap}
theorem dats_reads {f : SV → Option PyData} (ih : ∀ v d val, f v = some d → VIs as v val → ∃ bs, Reads h val d bs) : ∀ {svs : List SV} {vs : List Value} {ds : List PyData}, VsAre as svs vs →
    dats f svs = some ds → ∃ bs, PySem.ReadsAll h vs ds bs
  | _, _, _, .nil, e => by
    cases e
    exact ⟨_, PySem.ReadsAll.nil⟩
  | _, _, ds, .cons (x := x) (xs := xs) a r, e => by
    unfold dats at e
    split at e
    · rename_i d ds' h1 h2
      cases e
      obtain ⟨_, p⟩ := ih _ _ _ h1 a
      obtain ⟨_, q⟩ := dats_reads ih r h2
      exact ⟨_, PySem.ReadsAll.cons p q⟩
    · cases e
theorem dat_reads (S : StO w h₀ L news as o os h) (n : Nat) : ∀ v d val, dat o n v = some d → VIs as v val → ∃ bs, Reads h val d bs := by
  induction n with
  | zero =>
    intro v d val e a
    cases a with
    | I => cases e; exact ⟨_, .int _ _⟩
    | _ => cases e
  | succ n ih =>
    intro v d val e a
    cases a with
    | I => cases e; exact ⟨_, .int _ _⟩
    | @R i _ ea =>
      have e' : (match o[i]? with
        | some (.tup vs) => (dats (dat o n) vs).map PyData.tuple
        | some (.lst vs) => (dats (dat o n) vs).map PyData.list
        | _ => none) = some d := e
      cases ho : o[i]? with
      | none => rw [ho] at e'; cases e'
      | some ob =>
        rw [ho] at e'
        obtain ⟨oc, -, q, hm⟩ := S.get ea ho
        cases q with
        | tup q =>
          obtain ⟨ds, hf, rfl⟩ := Option.map_eq_some_iff.mp e'
          obtain ⟨_, r⟩ := dats_reads ih q hf
          exact ⟨_, reads_tuple_at (S.led _ hm).1 rfl rfl r⟩
        | lst q =>
          obtain ⟨ds, hf, rfl⟩ := Option.map_eq_some_iff.mp e'
          obtain ⟨_, r⟩ := dats_reads ih q hf
          exact ⟨_, reads_list_at (S.led _ hm).1 rfl rfl r⟩
        | _ => cases e'
    | _ => cases e
end
section
variable {prog : Program} {w : World} {A : Around} {E : Value → Shared → Prop} {s : Shared} {as : List Addr}
theorem Bd.pow {k : Nat} {a n : Int} (h : Bd k a) (hn : 0 ≤ n ∧ n ≤ 9) : Bd (k * 9 + 1) (a ^ n.toNat) := by
  have h1 : (a ^ n.toNat).natAbs = a.natAbs ^ n.toNat := Int.natAbs_pow ..
  have h2 : a.natAbs ^ n.toNat ≤ (2 ^ k) ^ n.toNat := Nat.pow_le_pow_left (Nat.le_of_lt h) _
  have h3 : (2 ^ k) ^ n.toNat ≤ 2 ^ (k * 9) := by
    rw [← Nat.pow_mul]
    exact Nat.pow_le_pow_right (by decide) (Nat.mul_le_mul_left _ (by omega))
  unfold Bd
  rw [h1, Nat.pow_succ]
  have := Nat.two_pow_pos (k * 9)
  omega
theorem xBin_ok {op : Operator} {a b : SV} {va vb : Value} {KK : SV → Prop} {Q : Value → Shared → Prop} (h : xBin op a b KK) (ha : VIs as a va) (hb : VIs as b vb)
    (hQ : ∀ sv v t, KK sv → VIs as sv v → Q v { s with toks := t }) : wpAny (model prog w) A (binaryOp op va vb) Q E s := by
  cases ha with
  | @I _ k _ h1 =>
    cases hb with
    | @I _ l _ h2 =>
      cases op with
      | Add => exact add_int (hQ _ _ _ h (.I (Bd.add h1 h2)))
      | Sub => exact sub_int (hQ _ _ _ h (.I (Bd.sub h1 h2)))
      | Mult =>
        cases hc : (Nat.ble k 1000 && Nat.ble l 1000) with
        | true =>
          simp only [xBin, hc] at h
          exact mul_int (hQ _ _ _ h (.I (Bd.mul h1 h2))) (Bd.mulOk h1 h2 hc)
        | false => simp only [xBin, hc] at h
      | Pow =>
        rename_i x _ y _
        cases hc : (decide (0 ≤ y ∧ y ≤ 9) && Nat.ble k 64) with
        | true =>
          simp only [xBin, hc] at h
          rw [Bool.and_eq_true] at hc
          have hn := of_decide_eq_true hc.1
          exact PyProof.Rows.pow_int_small hn.1 (Int.le_trans hn.2 (by decide)) (Bd.up h1 (Nat.le_of_ble_eq_true hc.2)) (hQ _ _ _ h (.I (Bd.pow h1 hn)))
        | false => simp only [xBin, hc] at h
      | _ => exact False.elim h
    | _ => exact False.elim h
  | _ => exact False.elim h
theorem xEqv_ok {h₀ : Heap} {L : Addr} {news : List (Addr × Obj)} {a b : SV} {va vb : Value} {o : List SO} {KK : Bool → Prop} (S : St w h₀ L news as o s.heap) (h : xEqv o a b KK) (ha : VIs as a va) (hb : VIs as b vb) :
    ∃ d e bs cs, Reads s.heap va d bs ∧ Reads s.heap vb e cs ∧ SeqAt.shaped d = true ∧ SeqAt.shaped e = true ∧ KK (PyData.eqv d e) := by
  obtain ⟨os, S⟩ := S
  unfold xEqv at h
  split at h
  · rename_i d e h1 h2
    split at h
    · rename_i hc
      rw [Bool.and_eq_true] at hc
      obtain ⟨_, r1⟩ := dat_reads S _ _ _ _ h1 ha
      obtain ⟨_, r2⟩ := dat_reads S _ _ _ _ h2 hb
      exact ⟨_, _, _, _, r1, r2, hc.1, hc.2, h⟩
    · cases h
  · cases h
theorem xCmp_ok {h₀ : Heap} {L : Addr} {news : List (Addr × Obj)} {op : CmpOp} {a b : SV} {va vb : Value} {o : List SO} {KK : Bool → Prop} {Q : Value → Shared → Prop} (hU : A.units + 64 < cLine) (S : St w h₀ L news as o s.heap) (h : xCmp op a b o KK) (ha : VIs as a va) (hb : VIs as b vb)
    (hQ : ∀ c, KK c → Q (.bool c) s) : wpAny (model prog w) A (compareOp op va vb) Q E s := by
  cases ha with
  | I =>
    cases hb with
    | I =>
      cases op with
      | Lt => exact lt_int (hQ _ h)
      | Gt => exact gt_int (hQ _ h)
      | LtE => exact le_int (hQ _ h)
      | GtE => exact ge_int (hQ _ h)
      | Eq => exact eq_int (hQ _ h)
      | NotEq => exact ne_int (hQ _ h)
      | _ => exact False.elim h
    | _ => exact False.elim h
  | B =>
    cases hb with
    | B => cases op with
      | NotEq => exact ne_bool (hQ _ h)
      | _ => exact False.elim h
    | _ => exact False.elim h
  | S =>
    cases hb with
    | S => cases op with
      | Eq => exact eq_str (hQ _ h)
      | _ => exact False.elim h
    | _ => exact False.elim h
  | N =>
    cases hb with
    | N => cases op with
      | Is => exact wpAny_is_self (by rfl) (hQ _ h)
      | _ => exact False.elim h
    | _ => exact False.elim h
  | V => exact False.elim h
  | R ea =>
    cases hb with
    | N => cases op with
      | Is => exact wpAny_is_other rfl (fun e => nomatch e) (hQ _ h)
      | _ => exact False.elim h
    | R eb => cases op with
      | Eq =>
        obtain ⟨_, _, _, _, r1, r2, s1, s2, k⟩ := xEqv_ok S h (.R ea) (.R eb)
        exact eq_dataH r1 r2 s1 s2 hU (hQ _ k)
      | NotEq =>
        obtain ⟨_, _, _, _, r1, r2, s1, s2, k⟩ := xEqv_ok (KK := fun b => KK (!b)) S h (.R ea) (.R eb)
        exact ne_dataH r1 r2 s1 s2 hU (hQ _ k)
      | _ => exact False.elim h
    | _ => exact False.elim h
end
theorem EsAre.none {w : World} {as : List Addr} : ∀ {xs : List (Str × SV)} {es : List DictEntry} {name : Str}, EsAre w as xs es → xs.lookup name = none → getL name es = some none
  | _, _, _, .nil, _ => rfl
  | _, _, name, .cons (x := y) (t := t) (v := v) (es := es) _ r, e => by
    rw [List.lookup_cons] at e
    cases h : (name == y) with
    | true => rw [h] at e; cases e
    | false =>
      rw [h] at e
      have g := r.none e
      have hh : ¬ (y == name) = true := fun q => by rw [eq_of_beq q, beq_self_eq_true] at h; cases h
      unfold getL at g ⊢
      rw [List.find?_cons_of_neg (by exact hh)]
      cases hf : List.find? (fun x => x.key.isStr name) es with
      | some q => rw [hf] at g; exact g
      | none =>
        rw [hf] at g
        simp only at g ⊢
        rw [List.any_cons]
        exact g
theorem VIs.handed {as : List Addr} {x : SV} {v : Value} : VIs as x v → handedIn v = true
  | .I _ => rfl
  | .B => rfl
  | .S => rfl
  | .N => rfl
  | .V e => e
  | .R _ => rfl
section
variable {prog : Program} {w : World} {A : Around} {E : Value → Shared → Prop} {K : Frag} {h₀ : Heap} {L a : Addr} {cn : Str} {cs : Scope} {ccd : Value} {cl : List (Str × Addr)} {news : List (Addr × Obj)} {p : Program} {loose : List Str} {mg mb : Str → Option Value} {C : Cx} {env : Env} {V : (Str → Option Value) → Str → Option Value}
noncomputable abbrev OkE (prog : Program) (w : World) (A : Around) (E : Value → Shared → Prop) (h₀ : Heap) (L : Addr) (news : List (Addr × Obj)) (env : Env) (cl : List (Str × Addr)) (V : (Str → Option Value) → Str → Option Value) (C : Cx) (n : Nat) : Prop :=
  ∀ e loc o KK, xE C loc n e o KK → ∀ as m s Q, Fr h₀ L s.heap m → LocOk loc as (V m) → Ci C cl as → St w h₀ L news as o s.heap → Kok w h₀ L news m as s KK Q → wpAny (model prog w) A (eval e env) Q E s
noncomputable abbrev OkEs (prog : Program) (w : World) (A : Around) (E : Value → Shared → Prop) (h₀ : Heap) (L : Addr) (news : List (Addr × Obj)) (env : Env) (cl : List (Str × Addr)) (V : (Str → Option Value) → Str → Option Value) (C : Cx) (n : Nat) : Prop :=
  ∀ es loc o KK, xEs C loc n es o KK → ∀ as m s Q pos, Fr h₀ L s.heap m → LocOk loc as (V m) → Ci C cl as → St w h₀ L news as o s.heap → KokL w h₀ L news m as s KK Q → wpAny (model prog w) A (spliced (backTo pos (starEach es env))) Q E s
noncomputable abbrev OkT (prog : Program) (w : World) (A : Around) (E : Value → Shared → Prop) (h₀ : Heap) (L : Addr) (news : List (Addr × Obj)) (env : Env) (cl : List (Str × Addr)) (V : (Str → Option Value) → Str → Option Value) (C : Cx) (n : Nat) : Prop :=
  ∀ e loc o KK, xT C loc n e o KK → ∀ as m s Q, Fr h₀ L s.heap m → LocOk loc as (V m) → Ci C cl as → St w h₀ L news as o s.heap → KokB w h₀ L news m as s KK Q → wpAny (model prog w) A (PySem.isTrue e env (eval e env)) Q E s
noncomputable abbrev NaOk (prog : Program) (w : World) (A : Around) (E : Value → Shared → Prop) (h₀ : Heap) (L : Addr) (news : List (Addr × Obj)) (env : Env) (cl : List (Str × Addr)) (V : (Str → Option Value) → Str → Option Value) (C : Cx) : Prop :=
  ∀ x pos loc o KK n, xE C loc (n + 1) (.Name x pos) o KK → ∀ as m s Q, Fr h₀ L s.heap m → LocOk loc as (V m) → Ci C cl as → St w h₀ L news as o s.heap → Kok w h₀ L news m as s KK Q → wpAny (model prog w) A (eval (.Name x pos) env) Q E s
theorem Kok.next {m : Str → Option Value} {as as' : List Addr} {s s' : Shared} {KK : SV → List SO → Prop} {Q : Value → Shared → Prop} (h : Kok w h₀ L news m as s KK Q) (e : Ext as as') (t : Same s s') : Kok w h₀ L news m as' s' KK Q :=
  fun sv o' as'' v s'' k e' F S q t' => h sv o' as'' v s'' k (e.trans e') F S q (t.trans t')
theorem KokB.next {m : Str → Option Value} {as as' : List Addr} {s s' : Shared} {KK : Bool → List SO → Prop} {Q : Bool → Shared → Prop} (h : KokB w h₀ L news m as s KK Q) (e : Ext as as') (t : Same s s') : KokB w h₀ L news m as' s' KK Q :=
  fun b o' as'' s'' k e' F S t' => h b o' as'' s'' k (e.trans e') F S (t.trans t')
theorem newTuple_ok {svs : List SV} {vs : List Value} {o : List SO} {as : List Addr} {m : Str → Option Value} {s : Shared} {KK : SV → List SO → Prop} {Q : Value → Shared → Prop} (F : Fr h₀ L s.heap m) (S : St w h₀ L news as o s.heap) (q : VsAre as svs vs) (hl : vs.length ≤ 1000)
    (h : KK (.R o.length) (o ++ [.tup svs])) (hQ : Kok w h₀ L news m as s KK Q) : wpAny (model prog w) A (newTuple vs) Q E s := by
  obtain ⟨os, S⟩ := S
  refine kup_newTuple F S.led (fun D h' F' N' l1 => ?_) (sizeLine_big hl)
  have S' := S.push N' l1 (x := .tup svs) (.tup (q.mono Ext.one))
  refine hQ _ _ _ _ _ h Ext.one F' ⟨_, S'⟩ (.R ?_) Same.mk'
  rw [S.all.len, ← S.len, List.getElem?_append_right (Nat.le_refl _), Nat.sub_self]
  rfl
theorem newList_ok {svs : List SV} {vs : List Value} {o : List SO} {as : List Addr} {m : Str → Option Value} {s : Shared} {KK : SV → List SO → Prop} {Q : Value → Shared → Prop} (F : Fr h₀ L s.heap m) (S : St w h₀ L news as o s.heap) (q : VsAre as svs vs) (hl : vs.length ≤ 1000)
    (h : KK (.R o.length) (o ++ [.lst svs])) (hQ : Kok w h₀ L news m as s KK Q) : wpAny (model prog w) A (newList vs) Q E s := by
  obtain ⟨os, S⟩ := S
  refine newList_K F S.led (fun D h' F' N' l1 => ?_) (sizeLine_big hl)
  have S' := S.push N' l1 (x := .lst svs) (.lst (q.mono Ext.one))
  refine hQ _ _ _ _ _ h Ext.one F' ⟨_, S'⟩ (.R ?_) Same.mk'
  rw [S.all.len, ← S.len, List.getElem?_append_right (Nat.le_refl _), Nat.sub_self]
  rfl
theorem xEs_ok {n : Nat} (ihE : OkE prog w A E h₀ L news env cl V C n) (ihEs : OkEs prog w A E h₀ L news env cl V C n) : OkEs prog w A E h₀ L news env cl V C (n + 1) := by
  intro es loc o KK h as m s Q pos F H I S hQ
  cases es with
  | nil => exact args_nil (hQ _ _ _ _ _ h Ext.refl F S .nil Same.refl)
  | cons e r =>
    cases e with
    | Starred x p =>
      exact absurd h (by intro h; cases n <;> exact h)
    | _ =>
      refine args_cons (ihE _ _ _ _ h as m s _ F H I S ?_) (by rfl)
      intro sv o1 as1 v s1 h1 x1 F1 S1 q1 t1
      refine ihEs _ _ _ _ h1 as1 m s1 _ pos F1 (H.mono x1) (I.mono x1) S1 ?_
      intro svs o2 as2 vs s2 h2 x2 F2 S2 q2 t2
      exact hQ _ _ _ _ _ h2 (x1.trans x2) F2 S2 (.cons (q1.mono x2) q2) (t1.trans t2)
end
theorem lookup_mem {α β : Type} [BEq α] [LawfulBEq α] : ∀ {l : List (α × β)} {x : α} {v : β}, l.lookup x = some v → (x, v) ∈ l
  | (y, u) :: r, x, v, h => by
    rw [List.lookup_cons] at h
    cases hy : (x == y) with
    | true =>
      rw [hy] at h
      cases h
      rw [eq_of_beq hy]
      exact .head _
    | false =>
      rw [hy] at h
      exact .tail _ (lookup_mem h)
structure EnvOk (env : Env) (cl : List (Str × Addr)) : Prop where
  kind : env.scope.kind = .function
  gl : env.globals = mainGlobals
  bi : env.builtins = builtinsNs
  ce : env.cells = cl
noncomputable def cloF (env : Env) (y : Str × NameKind) (cs : List (Str × Addr)) : Sem (ForInStep (List (Str × Addr))) :=
  if (y.2 == NameKind.free) = true then (do let a ← cellOf env y.1; pure (.yield ((y.1, a) :: cs))) else pure (.yield cs)
theorem closure_form {scope : Scope} {env : Env} : closureFor scope env = Bind.bind (forIn scope.names [] (cloF env) : Sem (List (Str × Addr))) (fun cs => pure cs) := by
  have e : (fun (x : Str × NameKind) (cs : List (Str × Addr)) => match x with
    | (name, kind) => (if (kind == NameKind.free) = true then (do let a ← cellOf env name; pure (.yield ((name, a) :: cs))) else pure (.yield cs) : Sem (ForInStep (List (Str × Addr))))) = cloF env := by
    funext y cs
    cases y
    rfl
  rw [← e]
  rfl
theorem clo_is {C : Cx} {env : Env} {cl : List (Str × Addr)} (he : env.cells = cl) (hc : ∀ x i, C.cidx.lookup x = some i → ∃ c, cl.lookup x = some c) : ∀ (names : List (Str × NameKind)) (l : List (Str × Nat)) (cs : List (Str × Addr)), freeIdx C names = some l → (∀ x c, cs.lookup x = some c → cl.lookup x = some c) →
    ∃ cs', (forIn names cs (cloF env) : Sem (List (Str × Addr))) = pure cs' ∧ (∀ x c, cs'.lookup x = some c → cl.lookup x = some c) ∧ (∀ x, (cs.lookup x).isSome = true ∨ (l.lookup x).isSome = true → (cs'.lookup x).isSome = true) ∧ ∀ x i, l.lookup x = some i → C.cidx.lookup x = some i
  | [], l, cs, h, hA => by
    cases h
    exact ⟨cs, rfl, hA, fun x hx => hx.resolve_right (fun q => nomatch q), fun _ _ q => nomatch q⟩
  | (n, k) :: r, l, cs, h, hA => by
    unfold freeIdx at h
    split at h
    · rename_i hk
      split at h
      · rename_i i l' h1 h2 h3
        cases h
        obtain ⟨c, e⟩ := hc n i h2
        obtain ⟨cs', e1, a, b, d⟩ := clo_is he hc r l' ((n, c) :: cs) h3 (fun x c' q => by
          rw [List.lookup_cons] at q
          cases hy : (x == n) with
          | true => rw [hy] at q; cases q; rw [eq_of_beq hy]; exact e
          | false => rw [hy] at q; exact hA x c' q)
        refine ⟨cs', ?_, a, fun x hx => b x ?_, fun x j q => ?_⟩
        · rw [List.forIn_cons, ← e1]
          unfold cloF cellOf
          rw [he]
          simp only [e, if_pos hk]
          rfl
        · rw [List.lookup_cons]
          rw [List.lookup_cons] at hx
          cases hy : (x == n) with
          | true => exact .inl rfl
          | false => rw [hy] at hx; exact hx
        · rw [List.lookup_cons] at q
          cases hy : (x == n) with
          | true => rw [hy] at q; cases q; rw [eq_of_beq hy]; exact h2
          | false => rw [hy] at q; exact d x j q
      · cases h
    · rename_i hk
      obtain ⟨cs', e1, a, b, d⟩ := clo_is he hc r l cs h hA
      refine ⟨cs', ?_, a, b, d⟩
      rw [List.forIn_cons, ← e1]
      unfold cloF
      simp only [hk]
      rfl
section
variable {prog : Program} {w : World} {A : Around} {K : Frag} {h₀ : Heap} {L : Addr} {cl : List (Str × Addr)} {news : List (Addr × Obj)} {p : Program} {loose : List Str} {mg mb : Str → Option Value} {C : Cx} {env : Env} {V : (Str → Option Value) → Str → Option Value}
theorem compCx_inv {C C' : Cx} {scope : Scope} {x : Str} (h : compCx C scope x = some C') : ∃ l, freeIdx C scope.names = some l ∧ C' = { C with names := relab (fun n => C.names.lookup n) scope.names, cidx := l } ∧ scope.kind = .function ∧ scope.names.lookup x = some .local ∧ ∀ y ∈ scope.names, y.2 ≠ .cell ∧ (y.2 = .local → scope.names.lookup y.1 = some .local) ∧ (y.1 == ("__debug__" : Str)) = false := by
  unfold compCx at h
  split at h
  · rename_i l h1 h2
    cases h
    simp only [Bool.and_eq_true, beq_iff_eq, List.all_eq_true] at h1
    refine ⟨l, h2, rfl, h1.1.1, h1.2, fun y hy => ?_⟩
    have := h1.1.2 y hy
    refine ⟨by simpa using this.1.1, fun e => ?_, by simpa using this.2⟩
    have h3 := this.1.2
    simpa [e] using h3
  · cases h
theorem relab_mem {κ : Str → Option NameKind} {x : Str} {k : NameKind} {names : List (Str × NameKind)} (h : (x, k) ∈ relab κ names) : ∃ k', (x, k') ∈ names := by
  obtain ⟨y, hy, e⟩ := List.mem_map.mp h
  obtain ⟨n, k'⟩ := y
  simp only at e
  split at e
  · cases e; exact ⟨_, hy⟩
  · cases e; exact ⟨_, hy⟩
theorem relab_is {scope : Scope} {env : Env} (hk : env.scope.kind = .function) (kd : env.kindOf = fun x => C.names.lookup x) : (relabel scope env).names = relab (fun n => C.names.lookup n) scope.names := by
  unfold relabel relab
  rw [hk, kd]
theorem comp_cx {C' : Cx} {scope : Scope} {x : Str} {cl' : List (Str × Addr)} {D : Addr} {news' : List (Addr × Obj)} (h : compCx C scope x = some C') (hE : EnvOk env cl) (hC : CxOk prog w A K h₀ L news env C mg) : CxOk prog w A K h₀ L news' (compEnvC scope cl' D env) C' mg := by
  obtain ⟨l, h1, rfl, h3, h4, h5⟩ := compCx_inv h
  have e : (compEnvC scope cl' D env).kindOf = fun x => (relab (fun n => C.names.lookup n) scope.names).lookup x := by
    funext y
    show (relabel scope env).names.lookup y = _
    rw [relab_is hE.kind hC.kd]
  refine ⟨fun y k hy => ⟨?_, ?_⟩, hC.gl, hC.at_, hC.hd, hC.gi, hC.sa, hC.po, hC.tk, e, hC.me, hC.cal⟩
  · rw [e]; exact hy
  · have hy' : (relab (fun n => C.names.lookup n) scope.names).lookup y = some k := hy
    obtain ⟨k', hm⟩ := relab_mem (lookup_mem hy')
    exact (h5 _ hm).2.2
theorem comp_name {E : Value → Shared → Prop} {scope : Scope} {cl' : List (Str × Addr)} {D : Addr} {oC : Obj} {m₂ : Str → Option Value} (hk : scope.kind = .function) (hE : EnvOk env cl) (X : K.In h₀) (T : TopRead p loose mg mb h₀) (hC : CxOk prog w A K h₀ L news (compEnvC scope cl' D env) C mg)
    (hD : (D, oC) ∈ news) (hN : LCg.NsObj oC m₂) : NaOk prog w A E h₀ L news (compEnvC scope cl' D env) cl' (fun _ => m₂) C := by
  have hk' : (compEnvC scope cl' D env).scope.kind = .function := hk
  intro x pos loc o KK n h as m s Q F H I S hQ
  have h : xName C loc x o KK := h
  unfold xName at h
  split at h
  · rename_i hn
    obtain ⟨h1, h2⟩ := hC.nm _ _ hn
    split at h
    · rename_i v hv
      obtain ⟨v', a1, a2⟩ := H _ _ hv
      have S2 := S
      obtain ⟨os, S'⟩ := S
      exact LCgL.ld_own S'.led (List.mem_append_right _ hD) hN a1 (hQ _ _ _ _ _ h Ext.refl F S2 a2 Same.refl) hk' h1 h2
    · cases h
  · rename_i hn
    obtain ⟨h1, h2⟩ := hC.nm _ _ hn
    split at h
    · rename_i i hi
      obtain ⟨c, c1, c2⟩ := I _ _ hi
      split at h
      · rename_i v hv
        have S2 := S
        obtain ⟨os, S'⟩ := S
        obtain ⟨ob, -, q, hm⟩ := S'.get c2 hv
        cases q with
        | cel q1 q2 => exact wpAny_Name (wpAny_loadName_cell hk' h1 c1 ⟨ob, S'.led.get hm, q2⟩ (hQ _ _ _ _ _ h Ext.refl F S2 q1 Same.refl)) h2
      · cases h
    · cases h
  · rename_i hn
    obtain ⟨h1, h2⟩ := hC.nm _ _ hn
    split at h
    · rename_i i hi hcd
      obtain ⟨c, c1, c2⟩ := I _ _ hi
      split at h
      · rename_i v hv
        have S2 := S
        obtain ⟨os, S'⟩ := S
        obtain ⟨ob, -, q, hm⟩ := S'.get c2 hv
        cases q with
        | cel q1 q2 => exact wpAny_Name (wpAny_loadName_free hk' h1 c1 ⟨ob, S'.led.get hm, q2⟩ (hQ _ _ _ _ _ h Ext.refl F S2 q1 Same.refl) hcd) h2
      · cases h
    · cases h
  · rename_i hn
    obtain ⟨h1, h2⟩ := hC.nm _ _ hn
    have hg : s.heap.Ns (compEnvC scope cl' D env).globals mg := by
      show s.heap.Ns env.globals mg
      rw [hE.gl]
      exact T.g.keeps F.keep
    split at h
    · rename_i qq hg'
      obtain ⟨b1, t, e⟩ := hC.gi _ _ hg'
      exact Name_function_global hk' h1 (loadGlobal_global hg e (hQ _ _ _ _ _ h Ext.refl F S (.I b1) Same.refl)) h2
    · split at h
      · rename_i v hv
        obtain ⟨g0, -, g1⟩ := hC.gl _ _ hv
        have hq := hQ _ _ _ _ _ h Ext.refl F S (.V g0) Same.refl
        rcases g1 with g1 | ⟨g1, g2, g3⟩
        · exact Name_function_global hk' h1 (loadGlobal_global hg (mg_of X T.g g1) hq) h2
        · refine Name_function_global hk' h1 (loadGlobal_builtin hg (mg_none_of X T.g g1) ?_ ((T.builtins x g3).trans g2) hq) h2
          show s.heap.Ns env.builtins mb
          rw [hE.bi]
          exact T.b.keeps F.keep
      · cases h
  · cases h
theorem zip_has {α β : Type} : ∀ {as : List α} {bs : List β} {a : α}, as.length = bs.length → a ∈ as → ∃ b, (a, b) ∈ as.zip bs
  | x :: xs, y :: ys, a, hl, h => by
    rcases List.mem_cons.mp h with rfl | h
    · exact ⟨y, .head _⟩
    · obtain ⟨b, hb⟩ := zip_has (Nat.succ.inj hl) h
      exact ⟨b, .tail _ hb⟩
/-- the turns of a block -/
theorem comp_turns {C' : Cx} {n : Nat} {scope : Scope} {x : Str} {elt : Expr} {cl' : List (Str × Addr)} {m : Str → Option Value} {s₀ : Shared} {ax : Addr} {its : List Value} {kk : Nat} {Fin : List Value → List (Addr × Obj) → Prop} {KK : List SV → List SO → Prop}
    (hE : EnvOk env cl) (hcx : compCx C scope x = some C') (X : K.In h₀) (T : TopRead p loose mg mb h₀) (hC : CxOk prog w A K h₀ L news env C mg)
    (ihA : ∀ news env cl V C E, NaOk prog w A E h₀ L news env cl V C → CxOk prog w A K h₀ L news env C mg → EnvOk env cl → OkE prog w A E h₀ L news env cl V C n) :
    ∀ (svs : List SV) (vs : List Value) (i : Nat) (ysv : List SV) (ys : List Value) (o : List SO) (as : List Addr) (os : List Obj) (h' : Heap), (∀ j, vs[j]? = its[i + j]?) → VsAre as svs vs → VsAre as ysv ys → Ci C' cl' as → xTurns (fun v o K => xE C' [(x, v)] n elt o K) svs ysv o KK → StO w h₀ L news as o os h' → (∀ p ∈ as.zip os ++ news, p.1 ≠ ax) →
      (∀ ysv' ys' o' as' os' h'', KK ysv' o' → Ext as as' → VsAre as' ysv' ys' → StO w h₀ L news as' o' os' h'' → (∀ p ∈ as'.zip os' ++ news, p.1 ≠ ax) → Fin ys' ((ax, listOf its.toArray kk) :: (as'.zip os' ++ news))) →
      LCg.CompRest prog w A h₀ L m env elt x scope cl' s₀ (LCg.SrcAt h₀ ax its.toArray) (fun i v => its.toArray[i]? = some v) Fin vs.length i ys ((ax, listOf its.toArray kk) :: (as.zip os ++ news)) := by
  obtain ⟨l, hl1, hl2, hsk, hxl, hall⟩ := compCx_inv hcx
  intro svs
  induction svs with
  | nil =>
    intro vs i ysv ys o as os h' hj q qy I x S hax fin
    cases q
    exact fin _ _ _ _ _ _ x Ext.refl qy S hax
  | cons sv r ih =>
    intro vs i ysv ys o as os h' hj q qy I xt S hax fin
    cases q with
    | cons q1 q2 =>
      rename_i v vr
      refine LCg.CompRest.succ ?_
      intro v' I' oI Cd oC D m₂ h tk E' hP hN hx F N off3 ne3
      have e : v' = v := by
        have h0 := hj 0
        have hP' : its[i]? = some v' := by simpa using hP
        rw [Nat.add_zero, hP'] at h0
        cases h0
        rfl
      subst e
      have o3 := LCg.Off3.mem off3
      have offA : ∀ a ∈ as, a ≠ I' ∧ a ≠ Cd ∧ a ≠ D := fun a ha => by
        obtain ⟨b, hb⟩ := zip_has S.len ha
        exact o3 (a, b) (.tail _ (List.mem_append_left _ hb))
      have axA : ax ∉ as := fun ha => by
        obtain ⟨b, hb⟩ := zip_has S.len ha
        exact hax (ax, b) (List.mem_append_left _ hb) rfl
      have S1 : StO w h₀ L ((I', oI) :: (Cd, oC) :: (D, LCg.lst ys) :: (ax, listOf its.toArray kk) :: news) as o os h := by
        refine ⟨S.all, S.len, fun p hp => N p ?_, S.nd, fun p hp hm => ?_⟩
        · simp only [List.mem_append, List.mem_cons] at hp ⊢
          rcases hp with hp | hp | hp | hp | hp | hp
          · exact .inr (.inr (.inr (.inr (.inl hp))))
          · exact .inl hp
          · exact .inr (.inl hp)
          · exact .inr (.inr (.inl hp))
          · exact .inr (.inr (.inr (.inl hp)))
          · exact .inr (.inr (.inr (.inr (.inr hp))))
        · rcases List.mem_cons.mp hp with rfl | hp
          · exact (offA _ hm).1 rfl
          · rcases List.mem_cons.mp hp with rfl | hp
            · exact (offA _ hm).2.1 rfl
            · rcases List.mem_cons.mp hp with rfl | hp
              · exact (offA _ hm).2.2 rfl
              · rcases List.mem_cons.mp hp with rfl | hp
                · exact axA hm
                · exact S.off p hp hm
      have hC2 := fun nw => comp_cx (cl' := cl') (D := Cd) (news' := nw) hcx hE hC
      refine ihA _ (compEnvC scope cl' Cd env) cl' (fun _ => m₂) C' E' (comp_name (news := _) hsk hE X T (hC2 _) (.tail _ (.head _)) hN) (hC2 _) ⟨hsk, hE.gl, hE.bi, rfl⟩ _ _ _ _ xt as m _ _ F ?_ I ⟨os, S1⟩ ?_
      · intro y sv' hy
        rw [List.lookup_cons] at hy
        cases hyx : (y == x) with
        | true =>
          rw [hyx] at hy
          cases hy
          exact ⟨_, (eq_of_beq hyx) ▸ hx, q1⟩
        | false =>
          rw [hyx] at hy
          cases hy
      · intro sv' o' as' y s' k' x' F' S' q' t'
        obtain ⟨os', S'⟩ := S'
        rw [t'.is]
        have ax' : ∀ p ∈ as'.zip os' ++ news, p.1 ≠ ax := fun p hp => by
          rcases List.mem_append.mp hp with hp | hp
          · intro e
            have hm := zip_fst hp
            exact S'.off (ax, listOf its.toArray kk) (.tail _ (.tail _ (.tail _ (.head _)))) (e ▸ hm)
          · exact hax p (List.mem_append_right _ hp)
        refine LCg.CompEnd.intro F' S'.led ((ax, listOf its.toArray kk) :: (as'.zip os' ++ news)) ?_ (LCg.Off3.of ?_) (.inr ⟨_, .head _, rfl, _, rfl⟩) ?_
        · intro p hp
          simp only [List.mem_append, List.mem_cons] at hp ⊢
          rcases hp with hp | hp | hp | hp | hp | hp
          · exact .inr (.inl hp)
          · exact .inr (.inr (.inl hp))
          · exact .inr (.inr (.inr (.inl hp)))
          · exact .inr (.inr (.inr (.inr (.inl hp))))
          · exact .inl hp
          · exact .inr (.inr (.inr (.inr (.inr hp))))
        · intro p hp
          rcases List.mem_cons.mp hp with rfl | hp
          · exact o3 _ (.head _)
          · rcases List.mem_append.mp hp with hp | hp
            · have hm := zip_fst hp
              exact ⟨fun e => S'.off (I', oI) (.head _) (e ▸ hm), fun e => S'.off (Cd, oC) (.tail _ (.head _)) (e ▸ hm), fun e => S'.off (D, LCg.lst ys) (.tail _ (.tail _ (.head _))) (e ▸ hm)⟩
            · exact o3 p (.tail _ (List.mem_append_right _ hp))
        · refine ih vr (i + 1) (ysv ++ [sv']) (ys ++ [y]) o' as' os' s'.heap (fun j => ?_) (q2.mono x') ((qy.mono x').append q') (fun y i hy => ?_) k' ⟨S'.all, S'.len, fun p hp => S'.led p ?_, S'.nd, fun p hp => S'.off p (.tail _ (.tail _ (.tail _ (.tail _ hp))))⟩ ax' ?_
          · have := hj (j + 1)
            rw [show i + 1 + j = i + (j + 1) by omega]
            exact this
          · obtain ⟨c, c1, c2⟩ := I y i hy
            exact ⟨c, c1, x'.at c2⟩
          · rcases List.mem_append.mp hp with hp | hp
            · exact List.mem_append_left _ hp
            · exact List.mem_append_right _ (.tail _ (.tail _ (.tail _ (.tail _ hp))))
          · intro ysv' ys' o'' as'' os'' h'' kq x'' qq SS hh
            exact fin _ _ _ _ _ _ kq (x'.trans x'') qq SS hh
theorem off1_mem {D : Addr} {l : List (Addr × Obj)} (h : LCg.Off1 D l) : ∀ p ∈ l, p.1 ≠ D := by
  induction l with
  | nil => exact fun _ hp => nomatch hp
  | cons q r ih =>
    obtain ⟨h1, h2⟩ := h
    intro p hp
    rcases List.mem_cons.mp hp with rfl | hp
    · exact h1
    · exact ih h2 p hp
theorem ci_comp {C' : Cx} {scope : Scope} {x : Str} {as : List Addr} (hE : EnvOk env cl) (hcx : compCx C scope x = some C') (I : Ci C cl as) : ∃ cl', closureFor scope env = pure cl' ∧ Ci C' cl' as := by
  obtain ⟨l, h1, rfl, h3, h4, h5⟩ := compCx_inv hcx
  obtain ⟨cs', e, a, b, d⟩ := clo_is hE.ce (fun x i h => by obtain ⟨c, e, -⟩ := I x i h; exact ⟨c, e⟩) scope.names l [] h1 (fun _ _ q => nomatch q)
  refine ⟨cs', ?_, fun y i hy => ?_⟩
  · rw [closure_form, e]
    rfl
  · obtain ⟨c, c1, c2⟩ := I y i (d y i hy)
    have hs := b y (.inr (by have hy' : l.lookup y = some i := hy; rw [hy']; rfl))
    obtain ⟨c', e'⟩ := Option.isSome_iff_exists.mp hs
    have := a y c' e'
    rw [c1] at this
    cases this
    exact ⟨c, e', c2⟩
theorem comp_src {C' : Cx} {n : Nat} {scope : Scope} {x : Str} {lp : Pos} {elt : Expr} {es : List Expr} {m : Str → Option Value} {KK : List SV → List SO → Prop} {E : Value → Shared → Prop} {loc : List (Str × SV)} {o : List SO} {as : List Addr} {s : Shared} {cl' : List (Str × Addr)} {Fin : Shared → List Value → List (Addr × Obj) → Prop}
    (hh : A.handled = none) (hE : EnvOk env cl) (hcx : compCx C scope x = some C') (X : K.In h₀) (T : TopRead p loose mg mb h₀) (hC : CxOk prog w A K h₀ L news env C mg)
    (ihA : ∀ news env cl V C E, NaOk prog w A E h₀ L news env cl V C → CxOk prog w A K h₀ L news env C mg → EnvOk env cl → OkE prog w A E h₀ L news env cl V C n)
    (ihEs : OkEs prog w A E h₀ L news env cl V C n) (hI : Ci C' cl' as)
    (h : xEs C loc n es o fun vs o1 => (match Nat.ble vs.length 1000 with
            | true => xTurns (fun v o K => xE C' [(x, v)] n elt o K) vs [] o1 KK
            | false => False))
    (F : Fr h₀ L s.heap m) (H : LocOk loc as (V m)) (I : Ci C cl as) (S : St w h₀ L news as o s.heap)
    (hFin : ∀ ysv' ys' o' as' os' h'' s2 q, KK ysv' o' → Ext as as' → VsAre as' ysv' ys' → StO w h₀ L news as' o' os' h'' → Same s s2 → Fin s2 ys' (q :: (as'.zip os' ++ news))) :
    wpAny (model prog w) A (eval (.List es lp) env) (LCg.CompSrc prog w A h₀ L m env elt x scope cl' Fin) E s := by
  refine List_ (ihEs _ _ _ _ h as m s _ _ F H I S ?_)
  intro svs o1 as1 vs s1 h1 x1 F1 S1 q1 t1
  split at h1
  case h_2 => cases h1
  rename_i hl
  have hl' : vs.length ≤ 1000 := q1.len ▸ Nat.le_of_ble_eq_true hl
  obtain ⟨os1, S1⟩ := S1
  refine newList_K F1 S1.led (fun D h' F' N' l1 => ?_) (sizeLine_big hl')
  refine LCg.CompSrc.ledger hh F' N' (.head _) (by simpa using sizeLine_big hl') (fun g => ?_)
  have hI1 : Ci C' cl' as1 := fun y i hy => by
    obtain ⟨c, c1, c2⟩ := hI y i hy
    exact ⟨c, c1, x1.at c2⟩
  have hsz : vs.toArray.size = vs.length := by simp
  rw [hsz]
  refine comp_turns hE hcx X T hC ihA svs vs 0 [] [] o1 as1 os1 _ (fun j => by rw [Nat.zero_add]) q1 .nil hI1 h1 S1 (fun p hp => Nat.ne_of_lt (l1 p hp)) ?_
  intro ysv' ys' o' as' os' h'' kq x' qq SS hne
  exact hFin _ _ _ _ _ _ _ _ kq (x1.trans x') qq SS ⟨t1.1, t1.2.1, t1.2.2⟩
/-- the list made stands at the end of the objects -/
theorem comp_end {as' : List Addr} {o' : List SO} {os' : List Obj} {ysv' : List SV} {ys' : List Value} {h'' h3 : Heap} {D' : Addr} {q : Addr × Obj} (SS : StO w h₀ L news as' o' os' h'') (qq : VsAre as' ysv' ys') (N3 : News h₀ L h3 ((D', LCg.lst ys') :: (q :: (as'.zip os' ++ news)))) (o3 : LCg.Off1 D' (q :: (as'.zip os' ++ news))) :
    St w h₀ L news (as' ++ [D']) (o' ++ [.lst ysv']) h3 ∧ VIs (as' ++ [D']) (.R o'.length) (.ref D') := by
  have o3' : ∀ p ∈ as'.zip os' ++ news, p.1 ≠ D' := fun p hp => off1_mem o3 p (.tail _ hp)
  have S2 : StO w h₀ L news as' o' os' h3 := StO.on SS (fun p hp => N3 p (.tail _ (.tail _ hp)))
  have q3 : OIs w (as' ++ [D']) (.lst ysv') (LCg.lst ys') := OIs.lst (vs := ys') (n := ys'.length) (qq.mono Ext.one)
  have N4 : News h₀ L h3 ((D', LCg.lst ys') :: (as'.zip os' ++ news)) := fun p hp => N3 p (by
    rcases List.mem_cons.mp hp with e | hp
    · rw [e]; exact .head _
    · exact .tail _ (.tail _ hp))
  have S3 := S2.pushN N4 o3' q3
  refine ⟨⟨_, S3⟩, .R ?_⟩
  rw [SS.all.len, ← SS.len, List.getElem?_append_right (Nat.le_refl _), Nat.sub_self]
  rfl
theorem comp_ok {C' : Cx} {n : Nat} {scope : Scope} {x : Str} {px lp pos : Pos} {elt : Expr} {es : List Expr} {m : Str → Option Value} {KK : SV → List SO → Prop} {E : Value → Shared → Prop} {Q : Value → Shared → Prop} {loc : List (Str × SV)} {o : List SO} {as : List Addr} {s : Shared}
    (hh : A.handled = none) (hE : EnvOk env cl) (hcx : compCx C scope x = some C') (X : K.In h₀) (T : TopRead p loose mg mb h₀) (hC : CxOk prog w A K h₀ L news env C mg)
    (ihA : ∀ news env cl V C E, NaOk prog w A E h₀ L news env cl V C → CxOk prog w A K h₀ L news env C mg → EnvOk env cl → OkE prog w A E h₀ L news env cl V C n)
    (ihEs : OkEs prog w A E h₀ L news env cl V C n)
    (h : xEs C loc n es o fun vs o1 => (match Nat.ble vs.length 1000 with
            | true => xTurns (fun v o K => xE C' [(x, v)] n elt o K) vs [] o1 fun ys o2 => KK (.R o2.length) (o2 ++ [.lst ys])
            | false => False))
    (F : Fr h₀ L s.heap m) (H : LocOk loc as (V m)) (I : Ci C cl as) (S : St w h₀ L news as o s.heap) (hQ : Kok w h₀ L news m as s KK Q) :
    wpAny (model prog w) A (eval (.ListComp elt [⟨.Name x px, .List es lp, [], 0⟩] scope pos) env) Q E s := by
  obtain ⟨cl', hcl, hI⟩ := ci_comp hE hcx I
  obtain ⟨l, hl1, hl2, hsk, hxl, hall⟩ := compCx_inv hcx
  refine LCg.ListComp_U F hcl (fun y hy => (hall y hy).1) hsk (fun y hy => (hall y hy).2.1) hxl ?_
  refine comp_src hh hE hcx X T hC ihA ihEs hI h F H I S ?_
  intro ysv' ys' o' as' os' h'' s2 q kq x' qq SS t2 D' h3 tk3 F3 N3 o3
  obtain ⟨a1, a2⟩ := comp_end SS qq N3 o3
  exact hQ _ _ _ _ _ kq (x'.trans Ext.one) F3 a1 a2 (t2.trans Same.mk')
theorem comp_assign {C' : Cx} {n : Nat} {scope : Scope} {x y : Str} {px py lp pos spos : Pos} {elt : Expr} {es : List Expr} {m : Str → Option Value} {KK : SV → List SO → Prop} {E : Value → Shared → Prop} {Q : Flow → Shared → Prop} {loc : List (Str × SV)} {o : List SO} {as : List Addr} {s : Shared}
    (hh : A.handled = none) (hE : EnvOk env cl) (hL : env.locals = L) (hcx : compCx C scope x = some C') (X : K.In h₀) (T : TopRead p loose mg mb h₀) (hC : CxOk prog w A K h₀ L news env C mg)
    (ihA : ∀ news env cl V C E, NaOk prog w A E h₀ L news env cl V C → CxOk prog w A K h₀ L news env C mg → EnvOk env cl → OkE prog w A E h₀ L news env cl V C n)
    (ihEs : OkEs prog w A E h₀ L news env cl V C n) (hy : env.kindOf y = some .local) (hsw : (py.line == pos.line && !(scope.names.any fun z => z.1 == y && (z.2 == .local || z.2 == .cell))) = true)
    (h : xEs C loc n es o fun vs o1 => (match Nat.ble vs.length 1000 with
            | true => xTurns (fun v o K => xE C' [(x, v)] n elt o K) vs [] o1 fun ys o2 => KK (.R o2.length) (o2 ++ [.lst ys])
            | false => False))
    (F : Fr h₀ L s.heap m) (H : LocOk loc as (V m)) (I : Ci C cl as) (S : St w h₀ L news as o s.heap)
    (hQ : ∀ sv o' as' v h' tk, KK sv o' → Ext as as' → Fr h₀ L h' (fun z => if z = y then some v else m z) → St w h₀ L news as' o' h' → VIs as' sv v → Q .next { s with heap := h', toks := tk }) :
    wpAny (model prog w) A (exec (.Assign [.Name y py] (.ListComp elt [⟨.Name x px, .List es lp, [], 0⟩] scope pos) spos) env) Q E s := by
  obtain ⟨cl', hcl, hI⟩ := ci_comp hE hcx I
  obtain ⟨l, hl1, hl2, hsk, hxl, hall⟩ := compCx_inv hcx
  have hsw' : swapsWith (.ListComp elt [⟨.Name x px, .List es lp, [], 0⟩] scope pos) (some (.Name y py)) spos.line env = pure true := by
    have hbk : env.blockKind = .function := by
      show (if env.scope.kind.isAnnotationScope = true then _ else env.scope.kind) = _
      rw [hE.kind]
      rfl
    have e : (env.blockKind == .function && env.kindOf y == some .local && py.line == pos.line && !(scope.names.any fun (z : Str × NameKind) => z.1 == y && (z.2 == .local || z.2 == .cell))) = true := by
      rw [Bool.and_eq_true] at hsw
      rw [hbk, hy, hsw.1, hsw.2]
      rfl
    show (pure (env.blockKind == .function && env.kindOf y == some .local && py.line == pos.line && !(scope.names.any fun (z : Str × NameKind) => z.1 == y && (z.2 == .local || z.2 == .cell))) : Sem Bool) = pure true
    rw [e]
  refine LCg.Assign_ListComp_U F hL hsw' hcl (fun y hy => (hall y hy).1) hsk (fun y hy => (hall y hy).2.1) hxl hy (by rw [hE.kind]; rfl) ?_
  refine comp_src hh hE hcx X T hC ihA ihEs hI h F H I S ?_
  intro ysv' ys' o' as' os' h'' s2 q kq x' qq SS t2 D' h3 tk3 F3 N3 o3
  obtain ⟨a1, a2⟩ := comp_end SS qq N3 o3
  rw [t2.is]
  exact hQ _ _ _ _ _ _ kq (x'.trans Ext.one) F3 a1 a2
end
section
variable {prog : Program} {w : World} {A : Around} {E : Value → Shared → Prop} {K : Frag} {h₀ : Heap} {L a : Addr} {cn : Str} {cs : Scope} {ccd : Value} {cl : List (Str × Addr)} {news : List (Addr × Obj)} {p : Program} {loose : List Str} {mg mb : Str → Option Value} {C : Cx} {env : Env} {V : (Str → Option Value) → Str → Option Value}
theorem meth_eval {env : Env} {v name : Str} {vp apos pos : Pos} (h : (apos.endLine == pos.line) = true) : ∃ pl, eval (.Call (.Attribute (.Name v vp) name apos) [] [] pos) env = (do
      let ov ← eval (.Name v vp) env
      standAt apos.atName
      let (f, first) ← holding [ov] (getMethod ov name pl)
      callWith pos f first (backTo pos (starEach [] env)) []) := by
  refine ⟨(do return (← importBound (.Name v vp) env).getD true), ?_⟩
  show (do
      let ov ← eval (.Name v vp) env
      standAt apos.atName
      methodCall (.Name v vp) name apos pos env ov 0 [] []) = _
  have e : ∀ ov, methodCall (.Name v vp) name apos pos env ov 0 [] [] = (do
      let (f, first) ← holding [ov] (getMethod ov name (do return (← importBound (.Name v vp) env).getD true))
      callWith pos f first (backTo pos (starEach [] env)) []) := by
    intro ov
    unfold methodCall methodCallPos
    rw [h]
    rfl
  simp only [e]
theorem ofNat_lo (k : Nat) : (-(2 ^ 63) : Int) ≤ Int.ofNat k := by
  have : Int.ofNat k = (k : Int) := rfl
  omega
theorem ofNat_hi {k : Nat} (h : k ≤ 1000) : Int.ofNat k < 2 ^ 63 := by
  have : Int.ofNat k = (k : Int) := rfl
  omega
theorem seqIndex_nat {k n : Nat} (h : k < n) : seqIndex? (Int.ofNat k) n = some k := by
  have e : Int.ofNat k = (k : Int) := rfl
  unfold seqIndex?
  rw [e]
  simp
  omega
theorem plain_star {env : Env} {e : Expr} {r : List Expr} (h : plainArgs (e :: r) = true) : starEach (e :: r) env = (false, eval e env) :: starEach r env ∧ plainArgs r = true := by
  cases e with
  | Starred x p => cases h
  | _ => exact ⟨rfl, h⟩
theorem plain_any {env : Env} {pos : Pos} : ∀ {es : List Expr}, plainArgs es = true → (backTo pos (starEach es env)).any (·.1) = false
  | [], _ => rfl
  | e :: r, h => by
    obtain ⟨h1, h2⟩ := plain_star (env := env) h
    have ih := plain_any (env := env) (pos := pos) h2
    rw [h1]
    show (false || (backTo pos (starEach r env)).any (·.1)) = false
    rw [ih]
    rfl
theorem callWith_ok {n : Nat} {env : Env} {es : List Expr} {g : Addr} {loc : List (Str × SV)} {o : List SO} {as : List Addr} {m : Str → Option Value} {s : Shared} {pos : Pos} {KK : SV → List SO → Prop} {Q : Value → Shared → Prop}
    (X : K.In h₀) (hkeep : keepIn K (.ref g) = true) (hcal : CalOk prog w A h₀ L news C.cal) (ihEs : OkEs prog w A E h₀ L news env cl V C n) (hpl : plainArgs es = true) (h : xEs C loc n es o fun vs o2 => C.cal (.ref g) vs o2 KK) (F : Fr h₀ L s.heap m) (H : LocOk loc as (V m)) (I : Ci C cl as) (S : St w h₀ L news as o s.heap)
    (hQ : Kok w h₀ L news m as s KK Q) : wpAny (model prog w) A (callWith pos (.ref g) [] (backTo pos (starEach es env)) []) Q E s := by
  cases es with
  | nil =>
    cases n with
    | zero => exact absurd h id
    | succ n => exact callWith_K0 (X.keeps F.keep) hkeep (hcal _ _ _ _ h as m s _ _ _ F S .nil hQ)
  | cons e r =>
    obtain ⟨p1, p2⟩ := plain_star (env := env) hpl
    refine callWith_K X hkeep (ihEs _ _ _ _ h as m s _ _ F H I S ?_) p1 (plain_any p2)
    intro svs o1 as1 vs s1 h1 x1 F1 S1 q1 t1
    exact ⟨X.keeps F1.keep, hcal _ _ _ _ h1 as1 m s1 _ _ _ F1 S1 q1 (hQ.next x1 t1)⟩
theorem name_ok (hk : cs.kind = .function) (X : K.In h₀) (T : TopRead p loose mg mb h₀) (hC : CxOk prog w A K h₀ L news (envX cn cs L a ccd cl) C mg) : NaOk prog w A E h₀ L news (envX cn cs L a ccd cl) cl (fun m => m) C := by
  intro x pos loc o KK n h as m s Q F H I S hQ
  have h : xName C loc x o KK := h
  unfold xName at h
  split at h
  · rename_i hn
    obtain ⟨h1, h2⟩ := hC.nm _ _ hn
    split at h
    · rename_i v hv
      obtain ⟨v', a1, a2⟩ := H _ _ hv
      exact nameX_L F a1 (hQ _ _ _ _ _ h Ext.refl F S a2 Same.refl) hk h1 h2
    · cases h
  · rename_i hn
    obtain ⟨h1, h2⟩ := hC.nm _ _ hn
    split at h
    · rename_i i hi
      obtain ⟨c, c1, c2⟩ := I _ _ hi
      split at h
      · rename_i v hv
        have S2 := S
        obtain ⟨os, S'⟩ := S
        obtain ⟨ob, -, q, hm⟩ := S'.get c2 hv
        cases q with
        | cel q1 q2 => exact nameX_C S'.led c1 hm q2 (hQ _ _ _ _ _ h Ext.refl F S2 q1 Same.refl) hk h1 h2
      · cases h
    · cases h
  · rename_i hn
    obtain ⟨h1, h2⟩ := hC.nm _ _ hn
    split at h
    · rename_i i hi hcd
      obtain ⟨c, c1, c2⟩ := I _ _ hi
      split at h
      · rename_i v hv
        have S2 := S
        obtain ⟨os, S'⟩ := S
        obtain ⟨ob, -, q, hm⟩ := S'.get c2 hv
        cases q with
        | cel q1 q2 => exact nameX_F S'.led c1 hm q2 (hQ _ _ _ _ _ h Ext.refl F S2 q1 Same.refl) hk h1 h2 hcd
      · cases h
    · cases h
  · rename_i hn
    obtain ⟨h1, h2⟩ := hC.nm _ _ hn
    split at h
    · rename_i qq hg
      obtain ⟨b1, t, e⟩ := hC.gi _ _ hg
      exact Name_function_global hk h1 (loadGlobal_global (env := envX cn cs L a ccd cl) (T.g.keeps F.keep) e (hQ _ _ _ _ _ h Ext.refl F S (.I b1) Same.refl)) h2
    · split at h
      · rename_i v hv
        obtain ⟨g0, -, g1⟩ := hC.gl _ _ hv
        have hq := hQ _ _ _ _ _ h Ext.refl F S (.V g0) Same.refl
        rcases g1 with g1 | ⟨g1, g2, g3⟩
        · exact nameX_K F X T g1 hq hk h1 h2
        · exact nameX_B F X T g1 g2 g3 hq hk h1 h2
      · cases h
  · cases h
theorem not_bool {M : Model} {A : Around} {b : Bool} {s : Shared} {Q E : Value → Shared → Prop} (h : Q (.bool (!b)) s) : wpAny M A (unaryOp .Not (.bool b)) Q E s := wpAny_holding (wpAny_bind (wpAny_truthy_bool (wpAny_pure h)))
theorem xE_ok (hNa : NaOk prog w A E h₀ L news env cl V C) (hh : A.handled = none) (hEv : EnvOk env cl) (T : TopRead p loose mg mb h₀) (X : K.In h₀) (hU : A.units + 64 < cLine) (hC : CxOk prog w A K h₀ L news env C mg) {n : Nat}
    (ihA : ∀ news env cl V C E, NaOk prog w A E h₀ L news env cl V C → CxOk prog w A K h₀ L news env C mg → EnvOk env cl → OkE prog w A E h₀ L news env cl V C n)
    (ihE : OkE prog w A E h₀ L news env cl V C n) (ihEs : OkEs prog w A E h₀ L news env cl V C n) (ihT : OkT prog w A E h₀ L news env cl V C n) : OkE prog w A E h₀ L news env cl V C (n + 1) := by
  intro e loc o KK h as m s Q F H I S hQ
  cases e with
  | Name x p =>
    exact hNa _ _ _ _ _ n h as m s _ F H I S hQ
  | Constant c k p =>
    cases c with
    | int i =>
      exact wpAny_Constant_int (hQ _ _ _ _ _ h Ext.refl F S (.I (Bd.lit _)) Same.mk')
    | str x =>
      exact Calls.Constant_str (hQ _ _ _ _ _ h Ext.refl F S .S Same.mk')
    | bool b =>
      exact Constant_bool (hQ _ _ _ _ _ h Ext.refl F S .B Same.refl)
    | none =>
      exact wpAny_Constant_none (hQ _ _ _ _ _ h Ext.refl F S .N Same.refl)
    | _ => exact False.elim h
  | BinOp l op r p =>
    -- two sides
    refine wpAny_BinOp (ihE _ _ _ _ h as m s _ F H I S ?_)
    intro sv o1 as1 v s1 h1 x1 F1 S1 q1 t1
    refine ihE _ _ _ _ h1 as1 m s1 _ F1 (H.mono x1) (I.mono x1) S1 ?_
    intro sv2 o2 as2 v2 s2 h2 x2 F2 S2 q2 t2
    refine xBin_ok h2 (q1.mono x2) q2 (fun sv3 v3 t3 h3 q3 => ?_)
    exact hQ _ _ _ _ _ h3 (x1.trans x2) F2 S2 q3 ((t1.trans t2).trans Same.mk')
  | UnaryOp op x p =>
    refine UnaryOp_ (ihE _ _ _ _ h as m s _ F H I S ?_)
    intro sv o1 as1 v s1 h1 x1 F1 S1 q1 t1
    split at h1
    · cases q1
      rename_i b1
      exact neg_int (hQ _ _ _ _ _ h1 x1 F1 S1 (.I (Bd.neg b1)) (t1.trans Same.mk'))
    · cases q1
      exact not_bool (hQ _ _ _ _ _ h1 x1 F1 S1 .B t1)
    · cases h1
  | Compare l ops rs p =>
    rcases ops with _ | ⟨op, _ | ⟨op2, ops⟩⟩
    · cases rs <;> exact False.elim h
    · rcases rs with _ | ⟨r, _ | ⟨r2, rs⟩⟩
      · exact False.elim h
      · skip
        obtain ⟨hb, h⟩ := xReq.out h
        have hb := (Bool.not_eq_true' _).mp hb
        · refine wpAny_Compare1 (ihE _ _ _ _ h as m s _ F H I S ?_) hb
          intro sv o1 as1 v s1 h1 x1 F1 S1 q1 t1
          refine ihE _ _ _ _ h1 as1 m s1 _ F1 (H.mono x1) (I.mono x1) S1 ?_
          intro sv2 o2 as2 v2 s2 h2 x2 F2 S2 q2 t2
          refine xCmp_ok hU S2 h2 (q1.mono x2) q2 (fun c h3 => ?_)
          exact hQ _ _ _ _ _ h3 (x1.trans x2) F2 S2 .B (t1.trans t2)
      · exact False.elim h
    · rcases rs with _ | ⟨r, _ | ⟨r2, rs⟩⟩ <;> exact False.elim h
  | Tuple es k p =>
    refine Tuple_ (ihEs _ _ _ _ h as m s _ _ F H I S ?_)
    intro svs o1 as1 vs s1 h1 x1 F1 S1 q1 t1
    split at h1
    · rename_i hl
      exact newTuple_ok F1 S1 q1 (q1.len ▸ Nat.le_of_ble_eq_true hl) h1 (hQ.next x1 t1)
    · cases h1
  | List es p =>
    refine List_ (ihEs _ _ _ _ h as m s _ _ F H I S ?_)
    intro svs o1 as1 vs s1 h1 x1 F1 S1 q1 t1
    split at h1
    · rename_i hl
      exact newList_ok F1 S1 q1 (q1.len ▸ Nat.le_of_ble_eq_true hl) h1 (hQ.next x1 t1)
    · cases h1
  | Subscript v ix p =>
    cases ix with
    | Constant c kk cp =>
      cases c with
      | int i =>
        cases i with
        | ofNat k =>
          -- an item
          refine Subscript_ (ihE _ _ _ _ h as m s _ F H I S ?_)
          intro sv o1 as1 v s1 h1 x1 F1 S1 q1 t1
          refine wpAny_Constant_int ?_
          have S1' := S1
          obtain ⟨os, S1⟩ := S1
          split at h1
          · cases q1
            rename_i ea
            split at h1
            · rename_i vs ho hk1
              have hkk := Nat.le_of_ble_eq_true hk1
              obtain ⟨ob, -, q, hm⟩ := S1.get ea ho
              cases q with
              | tup q =>
                split at h1
                · rename_i x hx
                  obtain ⟨v', e1, e2⟩ := q.at hx
                  have hlt := (List.getElem?_eq_some_iff.mp e1).1
                  refine item_tupleT (News.isTup S1.led hm) ?_ ?_ (seqIndex_nat hlt) e1 (hQ _ _ _ _ _ h1 x1 F1 S1' e2 (t1.trans Same.mk')) (by rfl)
                  · exact ofNat_lo _
                  · exact ofNat_hi hkk
                · cases h1
            · rename_i vs ho hk1
              have hkk := Nat.le_of_ble_eq_true hk1
              obtain ⟨ob, -, q, hm⟩ := S1.get ea ho
              cases q with
              | lst q =>
                split at h1
                · rename_i x hx
                  obtain ⟨v', e1, e2⟩ := q.at hx
                  refine item_made S1.led hm ?_ ?_ (by exact e1) (hQ _ _ _ _ _ h1 x1 F1 S1' e2 (t1.trans Same.mk')) (by rfl)
                  · exact Int.natCast_nonneg _
                  · exact ofNat_hi hkk
                · cases h1
            · cases h1
          · cases h1
        | negSucc k => exact False.elim h
      | _ => exact False.elim h
    | _ => exact False.elim h
  | Attribute v name p =>
    cases v with
    | Name v vp =>
      -- a field
      refine Attribute_Name_ (ihE _ _ _ _ h as m s _ F H I S ?_)
      intro sv o1 as1 v s1 h1 x1 F1 S1 q1 t1
      have S1' := S1
      obtain ⟨os, S1⟩ := S1
      split at h1
      · cases q1
        rename_i ea
        split at h1
        · rename_i c d ho
          split at h1
          · rename_i es hd hc
            rw [Bool.and_eq_true] at hc
            have hcc : c = C.cls := eq_of_beq hc.1
            subst hcc
            obtain ⟨a1, attr, a2, a3⟩ := hC.at_ _ hc.2
            split at h1
            · rename_i x hx
              obtain ⟨ob, -, q, hm⟩ := S1.get ea ho
              cases q with
              | inst ed =>
                obtain ⟨od, -, q', hm'⟩ := S1.get ed hd
                cases q' with
                | dic q' =>
                  obtain ⟨v', g1, g2⟩ := q'.get hx
                  exact get_own F1 X (InstAt.of_news S1.led hm hm') a1 hC.hd a2 a3 g1 g2.handed (hQ _ _ _ _ _ h1 x1 F1 S1' g2 (t1.trans Same.mk'))
            · cases h1
          · cases h1
        · cases h1
      · cases h1
    | _ => exact False.elim h
  | IfExp t b f p =>
    refine IfExp_ (ihT _ _ _ _ h as m s _ F H I S ?_)
    intro c o1 as1 s1 h1 x1 F1 S1 t1
    obtain ⟨o1, S1, h1⟩ := xIf_use h1 S1
    cases c with
    | true => exact ihE _ _ _ _ (h1.1 rfl) as1 m s1 _ F1 (H.mono x1) (I.mono x1) S1 (hQ.next x1 t1)
    | false => exact ihE _ _ _ _ (h1.2 rfl) as1 m s1 _ F1 (H.mono x1) (I.mono x1) S1 (hQ.next x1 t1)
  | BoolOp op es p =>
    rcases es with _ | ⟨e, _ | ⟨e2, es⟩⟩
    · exact False.elim h
    · skip
      exact BoolOp_one (ihE _ _ _ _ (by cases op <;> exact h) as m s _ F H I S hQ)
    · skip
      cases op with
      | And =>
        refine BoolOp_and (ihE _ _ _ _ h as m s _ F H I S ?_)
        intro sv o1 as1 v s1 h1 x1 F1 S1 q1 t1
        split at h1
        · rename_i c
          cases q1
          refine wpAny_truthy_bool ?_
          obtain ⟨o1, S1, h1⟩ := xIf_use h1 S1
          cases c with
          | true => exact ihE _ _ _ _ (h1.1 rfl) as1 m s1 _ F1 (H.mono x1) (I.mono x1) S1 (hQ.next x1 t1)
          | false => exact hQ _ _ _ _ _ (h1.2 rfl) x1 F1 S1 .B t1
        · cases h1
      | Or =>
        refine BoolOp_or (ihE _ _ _ _ h as m s _ F H I S ?_)
        intro sv o1 as1 v s1 h1 x1 F1 S1 q1 t1
        split at h1
        · rename_i c
          cases q1
          refine wpAny_truthy_bool ?_
          obtain ⟨o1, S1, h1⟩ := xIf_use h1 S1
          cases c with
          | true => exact hQ _ _ _ _ _ (h1.1 rfl) x1 F1 S1 .B t1
          | false => exact ihE _ _ _ _ (h1.2 rfl) as1 m s1 _ F1 (H.mono x1) (I.mono x1) S1 (hQ.next x1 t1)
        · cases h1
  | Call f args kws pos =>
    cases f with
    | Name f fp =>
      cases kws with
      | nil =>
        -- a call
        obtain ⟨v, hcal, h1⟩ := xOpt.out h
        clear h
        obtain ⟨hpl, h⟩ := xReq.out h1
        clear h1
        unfold callee at hcal
        split at hcal
        case h_2 => cases hcal
        rename_i hn hgi
        have hnm : ∀ (u : SV → List SO → Prop), u (.V v) o → xE C loc (n + 1) (.Name f fp) o u := fun u hu => by
          show xName C loc f o u
          unfold xName
          rw [hn]
          simp only
          rw [hgi]
          simp only
          rw [hcal]
          exact hu
        cases v with
        | ref g =>
          obtain ⟨g0, g2, g1⟩ := hC.gl _ _ hcal
          refine Call_ ?_ (by rfl)
          refine hNa f fp loc o (fun sv o' => sv = .V (.ref g) ∧ o' = o) n (hnm _ ⟨rfl, rfl⟩) as m s _ F H I S ?_
          intro sv o1 as1 v s1 h1 x1 F1 S1 q1 t1
          obtain ⟨rfl, rfl⟩ := h1
          cases q1
          exact callWith_ok X (g2 _ rfl) (hC.cal _) ihEs hpl h F1 (H.mono x1) (I.mono x1) S1 (hQ.next x1 t1)
        | type tn =>
          split at h
          case h_1 heq => cases heq
          case h_3 => exact False.elim h
          case h_2 heq =>
            cases heq
            cases args with
            | nil =>
              cases n with
              | zero => exact absurd h id
              | succ n => exact absurd h id
            | cons e r =>
              obtain ⟨p1, p2⟩ := plain_star (env := env) hpl
              refine Call_ ?_ (by rfl)
              refine hNa f fp loc o (fun sv o' => sv = .V (.type "int") ∧ o' = o) n (hnm _ ⟨rfl, rfl⟩) as m s _ F H I S ?_
              intro sv o1 as1 v s1 h1 x1 F1 S1 q1 t1
              obtain ⟨rfl, rfl⟩ := h1
              cases q1
              refine Pv.callWith_type1 (ihEs _ _ _ _ h as1 m s1 _ _ F1 (H.mono x1) (I.mono x1) S1 ?_) p1 (plain_any p2)
              intro sv2 o2 as2 v2 s2 h2 x2 F2 S2 q2 t2
              split at h2
              · cases q2 with
                | cons q2 q3 =>
                  cases q2; cases q3
                  refine call_int_bool ?_
                  exact hQ _ _ _ _ _ h2 (x1.trans x2) F2 S2 (.I (by unfold Bd; split <;> decide)) ((t1.trans t2).trans Same.mk')
              · cases h2
        | _ => exact False.elim h
      | cons _ _ => exact False.elim h
    | Attribute v name apos =>
      cases v with
      | Name v vp =>
        cases args with
        | nil =>
          cases kws with
          | nil =>
            -- a method
            obtain ⟨hline, h⟩ := xReq.out h
            obtain ⟨pl, hev⟩ := meth_eval (env := env) (v := v) (name := name) (vp := vp) hline
            refine MethodCall_ (ihE _ _ _ _ h as m s _ F H I S ?_) hev
            intro sv o1 as1 v s1 h1 x1 F1 S1 q1 t1
            have S1' := S1
            obtain ⟨os, S1⟩ := S1
            split at h1
            · cases q1
              rename_i ea
              split at h1
              · rename_i c d ho
                split at h1
                · rename_i es g hd hc hg
                  have hcc : c = C.cls := eq_of_beq hc
                  subst hcc
                  obtain ⟨a1, a2, a3, a4⟩ := hC.me _ _ hg
                  split at h1
                  · rename_i hx
                    obtain ⟨ob, -, q, hm⟩ := S1.get ea ho
                    cases q with
                    | inst ed =>
                      obtain ⟨od, -, q', hm'⟩ := S1.get ed hd
                      cases q' with
                      | dic q' =>
                        refine method_inst F1 X (InstAt.of_news S1.led hm hm') a1 a2 a3 (q'.none hx) ?_
                        exact callWith_K0 (X.keeps F1.keep) a4 (hC.cal _ _ _ _ _ h1 as1 m s1 _ _ _ F1 S1' (.cons (.R ea) .nil) (hQ.next x1 t1))
                  · cases h1
                · cases h1
              · cases h1
            · cases h1
          | cons _ _ => exact False.elim h
        | cons _ _ => exact False.elim h
      | _ => exact False.elim h
    | _ => exact False.elim h
  | ListComp elt gs scope p =>
    rcases gs with _ | ⟨⟨tg, it, ifs, ia⟩, _ | ⟨g2, gs⟩⟩
    · exact False.elim h
    · cases tg with
      | Name x xp =>
        cases it with
        | List es ep =>
          rcases ifs with _ | ⟨_, _⟩
          · rcases ia with (_ | ia) | ia
            · skip
              -- a list made of turns
              obtain ⟨C', hcx, h⟩ := xOpt.out h
              exact comp_ok hh hEv hcx X T hC ihA ihEs h F H I S hQ
            · exact False.elim h
            · exact False.elim h
          · exact False.elim h
        | _ => exact False.elim h
      | _ => exact False.elim h
    · cases tg <;> first
        | exact False.elim h
        | (cases it <;> first
            | exact False.elim h
            | (cases ifs <;> first | exact False.elim h | (cases ia <;> first | exact False.elim h | (rename_i a; cases a <;> exact False.elim h))))
  | _ => exact False.elim h
end
section
variable {prog : Program} {w : World} {A : Around} {E : Value → Shared → Prop} {K : Frag} {h₀ : Heap} {L a : Addr} {cn : Str} {cs : Scope} {ccd : Value} {cl : List (Str × Addr)} {news : List (Addr × Obj)} {p : Program} {loose : List Str} {mg mb : Str → Option Value} {C : Cx} {env : Env} {V : (Str → Option Value) → Str → Option Value}
theorem xT_ok (hU : A.units + 64 < cLine) {n : Nat} (ihE : OkE prog w A E h₀ L news env cl V C n) (ihT : OkT prog w A E h₀ L news env cl V C n) : OkT prog w A E h₀ L news env cl V C (n + 1) := by
  intro e loc o KK h as m s Q F H I S hQ
  have plainCase : ∀ {e' : Expr}, xE C loc n e' o (fun v o1 => (match v with | .B b => KK b o1 | _ => False)) → (isTrue e' env (eval e' env) = (do
      let v ← eval e' env
      standAt e'.pos
      holding [v] (truthy v))) → wpAny (model prog w) A (isTrue e' env (eval e' env)) Q E s := fun {e'} h he => by
    refine isTrue_plain (ihE _ _ _ _ h as m s _ F H I S ?_) he
    intro sv o1 as1 v s1 h1 x1 F1 S1 q1 t1
    cases q1 with
    | B => exact wpAny_truthy_bool (hQ _ _ _ _ h1 x1 F1 S1 t1)
    | _ => exact False.elim h1
  cases e with
  | Compare l ops rs p =>
    rcases ops with _ | ⟨op, _ | ⟨op2, ops⟩⟩
    · cases rs <;> exact False.elim h
    · rcases rs with _ | ⟨r, _ | ⟨r2, rs⟩⟩
      · exact False.elim h
      · obtain ⟨hb, h⟩ := xReq.out h
        have hb := (Bool.not_eq_true' _).mp hb
        refine wpAny_isTrue_Compare1 (ihE _ _ _ _ h as m s _ F H I S ?_) hb
        intro sv o1 as1 v s1 h1 x1 F1 S1 q1 t1
        refine ihE _ _ _ _ h1 as1 m s1 _ F1 (H.mono x1) (I.mono x1) S1 ?_
        intro sv2 o2 as2 v2 s2 h2 x2 F2 S2 q2 t2
        refine xCmp_ok hU S2 h2 (q1.mono x2) q2 (fun c h3 => wpAny_truthy_bool ?_)
        exact hQ _ _ _ _ h3 (x1.trans x2) F2 S2 (t1.trans t2)
      · exact False.elim h
    · rcases rs with _ | ⟨r, _ | ⟨r2, rs⟩⟩ <;> exact False.elim h
  | UnaryOp op x p =>
    cases op with
    | Not =>
      refine isTrue_not (ihT _ _ _ _ h as m s _ F H I S ?_)
      intro c o1 as1 s1 h1 x1 F1 S1 t1
      exact hQ _ _ _ _ h1 x1 F1 S1 t1
    | _ => exact False.elim h
  | BoolOp op es p =>
    cases op with
    | And =>
      cases es with
      | nil => exact isTrue_and_nil (hQ _ _ _ _ h Ext.refl F S Same.refl)
      | cons x r =>
        refine isTrue_and (ihT _ _ _ _ h as m s _ F H I S ?_)
        intro c o1 as1 s1 h1 x1 F1 S1 t1
        obtain ⟨o1, S1, h1⟩ := xIf_use h1 S1
        cases c with
        | true => exact (ihT _ _ _ _ (h1.1 rfl) as1 m s1 _ F1 (H.mono x1) (I.mono x1) S1 (hQ.next x1 t1))
        | false => exact hQ _ _ _ _ (h1.2 rfl) x1 F1 S1 t1
    | Or =>
      cases es with
      | nil => exact isTrue_or_nil (hQ _ _ _ _ h Ext.refl F S Same.refl)
      | cons x r =>
        refine isTrue_or (ihT _ _ _ _ h as m s _ F H I S ?_)
        intro c o1 as1 s1 h1 x1 F1 S1 t1
        obtain ⟨o1, S1, h1⟩ := xIf_use h1 S1
        cases c with
        | true => exact hQ _ _ _ _ (h1.1 rfl) x1 F1 S1 t1
        | false => exact (ihT _ _ _ _ (h1.2 rfl) as1 m s1 _ F1 (H.mono x1) (I.mono x1) S1 (hQ.next x1 t1))
  | Name x p => exact plainCase h rfl
  | Call f args kw p => exact plainCase h rfl
  | _ => exact False.elim h
theorem x_ok (hh : A.handled = none) (T : TopRead p loose mg mb h₀) (X : K.In h₀) (hU : A.units + 64 < cLine) : ∀ n news env cl V C E, NaOk prog w A E h₀ L news env cl V C → CxOk prog w A K h₀ L news env C mg → EnvOk env cl →
    OkE prog w A E h₀ L news env cl V C n ∧ OkEs prog w A E h₀ L news env cl V C n ∧ OkT prog w A E h₀ L news env cl V C n := by
  intro n
  induction n with
  | zero => exact fun _ _ _ _ _ _ _ _ _ => ⟨fun _ _ _ _ h => absurd h id, fun _ _ _ _ h => absurd h id, fun _ _ _ _ h => absurd h id⟩
  | succ n ih =>
    intro news env cl V C E hNa hC hE
    obtain ⟨i1, i2, i3⟩ := ih news env cl V C E hNa hC hE
    exact ⟨xE_ok hNa hh hE T X hU hC (fun a b c d e f x y z => (ih a b c d e f x y z).1) i1 i2 i3, xEs_ok i1 i2, xT_ok hU i1 i3⟩
end
noncomputable def noComp : Expr → Bool
  | .ListComp .. => false
  | .SetComp .. => false
  | .DictComp .. => false
  | _ => true
noncomputable def tNames : List Expr → Option (List Str)
  | [] => some []
  | .Name x _ :: r => (match tNames r with | some xs => some (x :: xs) | none => none)
  | _ => none
noncomputable def allKnown (C : Cx) : List Expr → Bool
  | [] => true
  | .Name x _ :: r => (match C.names.lookup x with | some _ => allKnown C r | none => false)
  | _ => false
/-- in which order a displayed tuple is stored: as it stands, or (two or three locals of one line) from behind -/
noncomputable def swapNames (κ : Str → Option NameKind) (ts : List Expr) : List Str := ts.filterMap fun | .Name id pos => (if (κ id == some .local && pos.line == (ts.head?.map (·.pos.line)).getD 0) = true then some id else none) | _ => none
noncomputable def swapK (κ : Str → Option NameKind) (ts vs : List Expr) : Option (Option (List Str)) :=
  if (!(ts.length == 2 || ts.length == 3) || vs.length != ts.length) = true then some none
  else if (vs.any fun | .Starred .. => true | _ => false) = true then some none
  else if ((swapNames κ ts).length != ts.length || (swapNames κ ts).eraseDups.length != (swapNames κ ts).length) = true then some none
  else if vs.all (foldedForSure 8) = true then some none
  else if vs.all (constantsAlone 8) = true then none
  else some (some (swapNames κ ts))
theorem swapK_is {env : Env} {ts vs : List Expr} {k k' : Nat} {p p' : Pos} {r : Option (List Str)} (hb : env.blockKind = .function) (h : swapK env.kindOf ts vs = some r) : swappedStores [.Tuple ts k p] (.Tuple vs k' p') env = pure r := by
  have hb' : (env.blockKind != .function) = false := by rw [hb]; rfl
  unfold swapK at h
  unfold swappedStores
  simp only [hb', Bool.or_false]
  split at h
  · rename_i h1
    cases h
    exact if_pos h1
  · rename_i h1
    refine (if_neg h1).trans ?_
    split at h
    · rename_i h2
      cases h
      exact if_pos h2
    · rename_i h2
      refine (if_neg h2).trans ?_
      split at h
      · rename_i h3
        cases h
        exact if_pos h3
      · rename_i h3
        refine (if_neg h3).trans ?_
        split at h
        · rename_i h4
          cases h
          exact if_pos h4
        · rename_i h4
          refine (if_neg h4).trans ?_
          split at h
          · cases h
          · rename_i h5
            cases h
            refine (if_neg h5).trans ?_
            rfl
noncomputable def xSto (C : Cx) (x : Str) (v : SV) (loc : List (Str × SV)) (o : List SO) (K : List (Str × SV) → List SO → Prop) : Prop := match C.names.lookup x with
  | some .local => K ((x, v) :: loc) o
  | some .cell => (match C.cidx.lookup x with
      | some i => (match o[i]? with | some (.cel _) => K loc (o.set i (.cel (some v))) | _ => False)
      | none => False)
  | _ => False
noncomputable def xBinds (C : Cx) : List Str → List SV → List (Str × SV) → List SO → (List (Str × SV) → List SO → Prop) → Prop
  | [], [], loc, o, K => K loc o
  | x :: xs, v :: vs, loc, o, K => xSto C x v loc o fun loc' o' => xBinds C xs vs loc' o' K
  | _, _, _, _, _ => False
noncomputable def xOrd (C : Cx) (ts : List Expr) : Expr → Option (Option (List Str))
  | .Tuple vs _ _ => swapK (fun x => C.names.lookup x) ts vs
  | _ => some none
/-- a dict with one more name -/
noncomputable def xPut (es : List (Str × SV)) (x : Str) (v : SV) : Option (List (Str × SV)) := match es.lookup x, Nat.ble es.length 500 with
  | none, true => some (es ++ [(x, v)])
  | _, _ => none
/-- one tuple taken apart -/
noncomputable def xPat (C : Cx) (xs : List Str) (v : SV) (loc : List (Str × SV)) (o : List SO) (KK : List (Str × SV) → List SO → Prop) : Prop := match v with
  | .R j => (match o[j]? with
      | some (.tup vs) => (match Nat.beq xs.length vs.length with
          | true => xBinds C xs vs loc o KK
          | false => False)
      | _ => False)
  | _ => False
/-- a loop over the things of a display -/
noncomputable def xLoop (f : SV → List (Str × SV) → List SO → (List (Str × SV) → List SO → Prop) → Prop) : List SV → List (Str × SV) → List SO → (List (Str × SV) → List SO → Prop) → Prop
  | [], loc, o, K => K loc o
  | v :: r, loc, o, K => f v loc o fun loc' o' => xLoop f r loc' o' K
noncomputable def xBr (b : Bool) (P Q : Prop) : Prop := match b with | true => P | false => Q
theorem xBr.t {b : Bool} {P Q : Prop} (h : xBr b P Q) (e : b = true) : P := by subst e; exact h
theorem xBr.f {b : Bool} {P Q : Prop} (h : xBr b P Q) (e : b = false) : Q := by subst e; exact h
noncomputable def xMay {α : Type} (a : Option α) (f : α → Prop) (Q : Prop) : Prop := match a with | some x => f x | none => Q
theorem xMay.s {α : Type} {a : Option α} {f : α → Prop} {Q : Prop} (h : xMay a f Q) {x : α} (e : a = some x) : f x := by subst e; exact h
theorem xMay.n {α : Type} {a : Option α} {f : α → Prop} {Q : Prop} (h : xMay a f Q) (e : a = none) : Q := by subst e; exact h
noncomputable def isLC : Expr → Bool
  | .ListComp _ _ _ _ => true
  | _ => false
noncomputable def tupN? : Expr → Option (List Str)
  | .Tuple ts _ _ => tNames ts
  | _ => none
/-- targets of two tuples, a block's list on the other side -/
noncomputable def nest? (ts : List Expr) (e : Expr) : Option (List Str × List Str) := match ts with
  | [a, b] => (match isLC e with
      | true => (match tupN? a with
          | some x => (match tupN? b with | some y => some (x, y) | none => none)
          | none => none)
      | false => none)
  | _ => none
theorem isLC_inv {e : Expr} (h : isLC e = true) : ∃ elt gs sc p, e = .ListComp elt gs sc p := by
  cases e with
  | ListComp a b c d => exact ⟨_, _, _, _, rfl⟩
  | _ => cases h
theorem tupN_inv {e : Expr} {xs : List Str} (h : tupN? e = some xs) : ∃ ts k p, e = .Tuple ts k p ∧ tNames ts = some xs := by
  cases e with
  | Tuple a b c => exact ⟨_, _, _, rfl, h⟩
  | _ => cases h
theorem nest_inv {ts : List Expr} {e : Expr} {x y : List Str} (h : nest? ts e = some (x, y)) : isLC e = true ∧ ∃ a b, ts = [a, b] ∧ tupN? a = some x ∧ tupN? b = some y := by
  rcases ts with _ | ⟨a, _ | ⟨b, _ | ⟨c, r⟩⟩⟩
  · cases h
  · cases h
  · have h' : (match isLC e with
      | true => (match tupN? a with
          | some x => (match tupN? b with | some y => some (x, y) | none => none)
          | none => none)
      | false => none) = some (x, y) := h
    cases h1 : isLC e with
    | false => rw [h1] at h'; cases h'
    | true =>
      cases h2 : tupN? a with
      | none => rw [h1, h2] at h'; cases h'
      | some x' =>
        cases h3 : tupN? b with
        | none => rw [h1, h2, h3] at h'; cases h'
        | some y' =>
          rw [h1, h2, h3] at h'
          cases h'
          exact ⟨rfl, _, _, rfl, h2, h3⟩
  · cases h
/-- a name bound to a block's list -/
noncomputable def compA (C : Cx) (n : Nat) (loc : List (Str × SV)) (x : Str) (px : Pos) (e : Expr) (o : List SO) (K : SV → List SO → Prop) : Prop := match e with
  | .ListComp elt [⟨.Name y _, .List es _, [], 0⟩] scope pos => xReq (C.names.lookup x == some NameKind.local) (xReq (px.line == pos.line && !(scope.names.any fun z => z.1 == x && (z.2 == .local || z.2 == .cell))) (xOpt (compCx C scope y) fun C' => xEs C loc n es o fun vs o1 => (match Nat.ble vs.length 1000 with
      | true => xTurns (fun v o K => xE C' [(y, v)] n elt o K) vs [] o1 fun ys o2 => K (.R o2.length) (o2 ++ [.lst ys])
      | false => False)))
  | _ => False
noncomputable def xS (C : Cx) : Nat → List Stmt → List (Str × SV) → List SO → (SV → List SO → Prop) → (List (Str × SV) → List SO → Prop) → Prop
  | 0, _, _, _, _, _ => False
  | n + 1, sts, loc, o, ret, nxt => frEs loc fun loc => frOs o fun o => match sts with
    | [] => nxt loc o
    | .Return (some e) _ :: _ => xE C loc n e o ret
    | .If t b f _ :: r => xT C loc n t o fun c o1 => xIf c o1 (fun o1 => xS C n b loc o1 ret fun loc' o2 => xS C n r loc' o2 ret nxt) (fun o1 => xS C n f loc o1 ret fun loc' o2 => xS C n r loc' o2 ret nxt)
    | .Expr (.Call (.Attribute (.Name y yp) nm apos) [e] [] pos) _ :: r => xReq ((nm == Str.ofString "append") && (apos.endLine == pos.line) && plainArgs [e]) (xE C loc n (.Name y yp) o fun v o1 => (match v with
            | .R i => (match o1[i]? with
                | some (.lst _) => xEs C loc n [e] o1 fun xs o2 => (match xs, o2[i]? with
                    | [x], some (.lst vs) => (match Nat.ble vs.length 1000 with | true => xS C n r loc (o2.set i (.lst (vs ++ [x]))) ret nxt | false => False)
                    | _, _ => False)
                | _ => False)
            | _ => False))
    | .For (.Name x _) (.List es _) body [] _ :: r => xReq (C.names.lookup x == some NameKind.local) (xEs C loc n es o fun vs o1 => (match Nat.ble vs.length 1000 with
            | true => xLoop (fun v loc o nxt => xS C n body ((x, v) :: loc) o ret nxt) vs loc o1 fun loc' o2 => xS C n r loc' o2 ret nxt
            | false => False))
    | .Assign [t] e _ :: r => (match t with
        | .Name x px => xBr (noComp e) (xE C loc n e o fun v o1 => xSto C x v loc o1 fun loc' o2 => xS C n r loc' o2 ret nxt) (compA C n loc x px e o fun v o2 => xS C n r ((x, v) :: loc) o2 ret nxt)
        | .Tuple ts _ _ => xMay (nest? ts e) (fun xy => xE C loc n e o fun v o1 => (match v with
                | .R i => (match o1[i]? with
                    | some (.lst [u, v]) => xPat C xy.1 u loc o1 fun loc' o' => xPat C xy.2 v loc' o' fun l2 o2 => xS C n r l2 o2 ret nxt
                    | _ => False)
                | _ => False))
            (xReq (noComp e) (xOpt (tNames ts) fun xs => xOpt (xOrd C ts e) fun q => xE C loc n e o fun v o1 => (match v with
                | .R i => (match o1[i]? with
                    | some (.tup vs) => (match q with
                        | none => xReq (Nat.beq xs.length vs.length) (xBinds C xs vs loc o1 fun loc' o2 => xS C n r loc' o2 ret nxt)
                        | some ys => xReq (Nat.beq ys.length vs.length) (xBinds C ys.reverse vs.reverse loc o1 fun loc' o2 => xS C n r loc' o2 ret nxt))
                    | _ => False)
                | _ => False)))
        | .Attribute (.Name y yp) attr _ => xReq (noComp e && C.att.contains attr) (xE C loc n e o fun v o1 => xE C loc n (.Name y yp) o1 fun s o2 => (match s with
            | .R i => (match o2[i]? with
                | some (.inst c d) => (match o2[d]?, (c == C.cls) with
                    | some (.dic es), true => (match xPut es attr v with
                        | some es' => xS C n r loc (o2.set d (.dic es')) ret nxt
                        | none => False)
                    | _, _ => False)
                | _ => False)
            | _ => False))
        | _ => False)
    | _ => False
/-- a run's conditions, their lists plain -/
noncomputable def xB (C : Cx) (n : Nat) (sts : List Stmt) (loc : List (Str × SV)) (o : List SO) (ret : SV → List SO → Prop) (nxt : List (Str × SV) → List SO → Prop) : Prop := match sts with
    | [] => nxt loc o
    | .Return (some e) _ :: _ => xE C loc n e o ret
    | .If t b f _ :: r => xT C loc n t o fun c o1 => xIf c o1 (fun o1 => xS C n b loc o1 ret fun loc' o2 => xS C n r loc' o2 ret nxt) (fun o1 => xS C n f loc o1 ret fun loc' o2 => xS C n r loc' o2 ret nxt)
    | .Expr (.Call (.Attribute (.Name y yp) nm apos) [e] [] pos) _ :: r => xReq ((nm == Str.ofString "append") && (apos.endLine == pos.line) && plainArgs [e]) (xE C loc n (.Name y yp) o fun v o1 => (match v with
            | .R i => (match o1[i]? with
                | some (.lst _) => xEs C loc n [e] o1 fun xs o2 => (match xs, o2[i]? with
                    | [x], some (.lst vs) => (match Nat.ble vs.length 1000 with | true => xS C n r loc (o2.set i (.lst (vs ++ [x]))) ret nxt | false => False)
                    | _, _ => False)
                | _ => False)
            | _ => False))
    | .For (.Name x _) (.List es _) body [] _ :: r => xReq (C.names.lookup x == some NameKind.local) (xEs C loc n es o fun vs o1 => (match Nat.ble vs.length 1000 with
            | true => xLoop (fun v loc o nxt => xS C n body ((x, v) :: loc) o ret nxt) vs loc o1 fun loc' o2 => xS C n r loc' o2 ret nxt
            | false => False))
    | .Assign [t] e _ :: r => (match t with
        | .Name x px => xBr (noComp e) (xE C loc n e o fun v o1 => xSto C x v loc o1 fun loc' o2 => xS C n r loc' o2 ret nxt) (compA C n loc x px e o fun v o2 => xS C n r ((x, v) :: loc) o2 ret nxt)
        | .Tuple ts _ _ => xMay (nest? ts e) (fun xy => xE C loc n e o fun v o1 => (match v with
                | .R i => (match o1[i]? with
                    | some (.lst [u, v]) => xPat C xy.1 u loc o1 fun loc' o' => xPat C xy.2 v loc' o' fun l2 o2 => xS C n r l2 o2 ret nxt
                    | _ => False)
                | _ => False))
            (xReq (noComp e) (xOpt (tNames ts) fun xs => xOpt (xOrd C ts e) fun q => xE C loc n e o fun v o1 => (match v with
                | .R i => (match o1[i]? with
                    | some (.tup vs) => (match q with
                        | none => xReq (Nat.beq xs.length vs.length) (xBinds C xs vs loc o1 fun loc' o2 => xS C n r loc' o2 ret nxt)
                        | some ys => xReq (Nat.beq ys.length vs.length) (xBinds C ys.reverse vs.reverse loc o1 fun loc' o2 => xS C n r loc' o2 ret nxt))
                    | _ => False)
                | _ => False)))
        | .Attribute (.Name y yp) attr _ => xReq (noComp e && C.att.contains attr) (xE C loc n e o fun v o1 => xE C loc n (.Name y yp) o1 fun s o2 => (match s with
            | .R i => (match o2[i]? with
                | some (.inst c d) => (match o2[d]?, (c == C.cls) with
                    | some (.dic es), true => (match xPut es attr v with
                        | some es' => xS C n r loc (o2.set d (.dic es')) ret nxt
                        | none => False)
                    | _, _ => False)
                | _ => False)
            | _ => False))
        | _ => False)
    | _ => False
theorem xS_xB {C : Cx} {n : Nat} {sts : List Stmt} {loc : List (Str × SV)} {o : List SO} {ret : SV → List SO → Prop} {nxt : List (Str × SV) → List SO → Prop} (h : xS C (n + 1) sts loc o ret nxt) : xB C n sts loc o ret nxt := by
  have h : frEs loc (fun loc => frOs o fun o => xB C n sts loc o ret nxt) := h
  rw [frEs_eq, frOs_eq] at h
  exact h
theorem noComp_no {e : Expr} {t : Expr} {line : Nat} {env : Env} (h : noComp e = true) : swapsWith e (some t) line env = pure false := by
  cases e <;> first | rfl | cases h
theorem each_name {x : Str} {p : Pos} {r : List Expr} {env : Env} : assignEach (.Name x p :: r) env = (false, assign (.Name x p) env) :: assignEach r env := rfl
theorem tNames_inv {e : Expr} {r : List Expr} {xs : List Str} (h : tNames (e :: r) = some xs) : ∃ x p ys, e = .Name x p ∧ tNames r = some ys ∧ xs = x :: ys := by
  cases e with
  | Name x p =>
    have h' : (match tNames r with | some xs => some (x :: xs) | none => none) = some xs := h
    split at h'
    · rename_i ys e
      exact ⟨x, p, ys, rfl, e, (Option.some.inj h').symm⟩
    · cases h'
  | _ => exact absurd h (fun q => nomatch q)
theorem tNames_len {env : Env} (ts : List Expr) : ∀ {xs : List Str}, tNames ts = some xs → (assignEach ts env).length = xs.length := by
  induction ts with
  | nil =>
    intro xs h
    have : xs = [] := (Option.some.inj h).symm
    subst this
    rfl
  | cons e r ih =>
    intro xs h
    obtain ⟨x, p, ys, he, h1, h2⟩ := tNames_inv h
    subst he h2
    rw [each_name, List.length_cons, ih h1, List.length_cons]
theorem tNames_star {env : Env} (ts : List Expr) : ∀ {xs : List Str}, tNames ts = some xs → (assignEach ts env).findIdx? (·.1) = none := by
  induction ts with
  | nil => exact fun _ => rfl
  | cons e r ih =>
    intro xs h
    obtain ⟨x, p, ys, he, h1, h2⟩ := tNames_inv h
    subst he h2
    rw [each_name, List.findIdx?_cons, ih h1]
    rfl
theorem EsAre.append {w : World} {as : List Addr} {x : Str} {sv : SV} {v : Value} {t : Tok} : ∀ {xs : List (Str × SV)} {es : List DictEntry}, EsAre w as xs es → VIs as sv v → EsAre w as (xs ++ [(x, sv)]) (es ++ [kv w x t v])
  | _, _, .nil, q => .cons q .nil
  | _, _, .cons a r, q => .cons a (r.append q)
theorem EsAre.put {w : World} {as : List Addr} {name : Str} {hsh : Int} {key : Value} {v : Value} : ∀ {xs : List (Str × SV)} {es : List DictEntry}, EsAre w as xs es → xs.lookup name = Option.none → putL name hsh key v es = es ++ [⟨hsh, key, v⟩]
  | _, _, .nil, _ => rfl
  | _, _, .cons (x := y) (t := t) (v := v') (es := es) _ r, e => by
    rw [List.lookup_cons] at e
    cases h : (name == y) with
    | true => rw [h] at e; cases e
    | false =>
      rw [h] at e
      have hh : ¬ (y == name) = true := fun q => by rw [eq_of_beq q, beq_self_eq_true] at h; cases h
      have e' : putL name hsh key v (kv w y t v' :: es) = if (y == name) = true then ⟨(kv w y t v').hash, (kv w y t v').key, v⟩ :: es else kv w y t v' :: putL name hsh key v es := rfl
      rw [e', if_neg hh, r.put e]
      rfl
theorem EsAre.len {w : World} {as : List Addr} : ∀ {xs : List (Str × SV)} {es : List DictEntry}, EsAre w as xs es → xs.length = es.length
  | _, _, .nil => rfl
  | _, _, .cons _ r => congrArg (· + 1) r.len
theorem zip_split2 {α β : Type} : ∀ {as : List α} {bs : List β} {i : Nat} {a : α} {b : β}, as.Nodup → as[i]? = some a → bs[i]? = some b →
    ∃ pre post, as.zip bs = pre ++ (a, b) :: post ∧ (∀ b', as.zip (bs.set i b') = pre ++ (a, b') :: post) ∧ (∀ p ∈ pre, p.1 ≠ a) ∧ (∀ p ∈ post, p.1 ≠ a)
  | x :: xs, y :: ys, 0, _, _, hn, e, e' => by
    cases e; cases e'
    refine ⟨[], xs.zip ys, rfl, fun _ => rfl, (fun _ h => nomatch h), fun p hp q => ?_⟩
    have := zip_fst hp
    rw [q] at this
    exact (List.nodup_cons.mp hn).1 this
  | x :: xs, y :: ys, i + 1, a, _, hn, e, e' => by
    obtain ⟨pre, post, h1, h2, h3, h4⟩ := zip_split2 (List.nodup_cons.mp hn).2 (i := i) e e'
    refine ⟨(x, y) :: pre, post, ?_, fun b' => ?_, fun p hp q => ?_, h4⟩
    · show (x, y) :: xs.zip ys = _
      rw [h1]; rfl
    · show (x, y) :: xs.zip (ys.set i b') = _
      rw [h2]; rfl
    · rcases List.mem_cons.mp hp with rfl | hp
      · have hx : x = a := q
        have hm := List.mem_of_getElem? (i := i) (l := xs) e
        exact (List.nodup_cons.mp hn).1 (hx ▸ hm)
      · exact h3 p hp q
theorem updF_of {a : Addr} {o : Obj} : ∀ {pre r : List (Addr × Obj)}, (∀ p ∈ pre, p.1 ≠ a) → (∀ p ∈ r, p.1 ≠ a) → UpdF a o (pre ++ (a, o) :: r) (fun o' => pre ++ (a, o') :: r)
  | [], _, _, hr => .head hr
  | q :: t, _, hp, hr => .tail (hp q (.head _)) (updF_of (fun p hp' => hp p (.tail _ hp')) hr)
theorem StO.updF {w : World} {h₀ : Heap} {L : Addr} {news : List (Addr × Obj)} {as : List Addr} {objs : List SO} {os : List Obj} {h : Heap} {i : Nat} {a : Addr} {o : Obj} (s : StO w h₀ L news as objs os h) (ea : as[i]? = some a) (eo : os[i]? = some o) : ∃ g, UpdF a o (as.zip os ++ news) g ∧ ∀ o', g o' = as.zip (os.set i o') ++ news := by
  obtain ⟨pre, post, h1, h2, h3, h4⟩ := zip_split2 s.nd ea eo
  have hp : ∀ p ∈ post ++ news, p.1 ≠ a := fun p hp => by
    rcases List.mem_append.mp hp with hp | hp
    · exact h4 p hp
    · exact fun q => s.off p hp (q ▸ List.mem_of_getElem? ea)
  refine ⟨fun o' => pre ++ (a, o') :: (post ++ news), ?_, fun o' => ?_⟩
  · rw [h1, List.append_assoc]
    exact updF_of h3 hp
  · rw [h2, List.append_assoc]
    rfl
section
variable {prog : Program} {w : World} {A : Around} {E : Value → Shared → Prop} {K : Frag} {h₀ : Heap} {L a : Addr} {cn : Str} {cs : Scope} {ccd : Value} {cl : List (Str × Addr)} {news : List (Addr × Obj)} {p : Program} {loose : List Str} {mg mb : Str → Option Value} {C : Cx}
/-- what goes on behind a store -/
noncomputable def Kos (w : World) (h₀ : Heap) (L : Addr) (news : List (Addr × Obj)) (as : List Addr) (s : Shared) (KK : List (Str × SV) → List SO → Prop) (Q : Shared → Prop) : Prop :=
  ∀ loc' o' as' s' m', KK loc' o' → Ext as as' → Fr h₀ L s'.heap m' → LocOk loc' as' m' → St w h₀ L news as' o' s'.heap → Same s s' → Q s'
theorem Kos.next {as as' : List Addr} {s s' : Shared} {KK : List (Str × SV) → List SO → Prop} {Q : Shared → Prop} (h : Kos w h₀ L news as s KK Q) (e : Ext as as') (t : Same s s') : Kos w h₀ L news as' s' KK Q :=
  fun loc' o' as'' s'' m' k e' F H S t' => h loc' o' as'' s'' m' k (e.trans e') F H S (t.trans t')
theorem sto_ok (hk : cs.kind = .function) (hC : CxOk prog w A K h₀ L news (envX cn cs L a ccd cl) C mg) {M : Model} {x : Str} {sv : SV} {v : Value} {loc : List (Str × SV)} {o : List SO} {KK : List (Str × SV) → List SO → Prop} {as : List Addr} {m : Str → Option Value} {s : Shared} {Q : Unit → Shared → Prop}
    (h : xSto C x sv loc o KK) (F : Fr h₀ L s.heap m) (H : LocOk loc as m) (I : Ci C cl as) (S : St w h₀ L news as o s.heap) (q : VIs as sv v) (hQ : Kos w h₀ L news as s KK (Q ())) : wpAny M A (storeName (envX cn cs L a ccd cl) x v) Q E s := by
  unfold xSto at h
  obtain ⟨os, S⟩ := S
  split at h
  · rename_i hn
    obtain ⟨h1, -⟩ := hC.nm _ _ hn
    exact storeX_L F S.led (fun h' F' N' => hQ _ _ _ _ _ h Ext.refl F' (H.store q) ⟨os, S.on N'⟩ Same.mk') hk h1
  · rename_i hn
    obtain ⟨h1, -⟩ := hC.nm _ _ hn
    split at h
    · rename_i i hi
      obtain ⟨c, c1, c2⟩ := I _ _ hi
      split at h
      · rename_i sv0 hv
        obtain ⟨ob, eo, q0, hm⟩ := S.get c2 hv
        obtain ⟨g, U, hg⟩ := S.updF c2 eo
        have hd : ∃ v₀, ob.data = .cell v₀ := by
          cases q0 with
          | cel _ e => exact ⟨_, e⟩
          | cel0 e => exact ⟨_, e⟩
        obtain ⟨v₀, hd⟩ := hd
        refine storeX_C F S.led c1 U hd (fun h' o' F' N' d' => ?_) hk h1
        rw [hg] at N'
        exact hQ _ _ _ _ _ h Ext.refl F' H ⟨_, S.set N' (.cel q d')⟩ Same.mk'
      · cases h
    · cases h
  · cases h
theorem binds_names (hk : cs.kind = .function) (hC : CxOk prog w A K h₀ L news (envX cn cs L a ccd cl) C mg) {M : Model} {Q : Unit → Shared → Prop} : ∀ {xs : List Str} {svs : List SV} {vs : List Value} {loc : List (Str × SV)} {o : List SO} {KK : List (Str × SV) → List SO → Prop} {as : List Addr} {m : Str → Option Value} {s : Shared},
    xBinds C xs svs loc o KK → Fr h₀ L s.heap m → LocOk loc as m → Ci C cl as → St w h₀ L news as o s.heap → VsAre as svs vs → Kos w h₀ L news as s KK (Q ()) → wpAny M A (assignInOrder (xs.map fun n => bindName (envX cn cs L a ccd cl) n) vs) Q E s
  | [], _, _, _, _, _, _, _, _, h, F, H, _, S, .nil, hQ => assignInOrder_nil (hQ _ _ _ _ _ h Ext.refl F H S Same.refl)
  | x :: xs, _, _, _, _, _, _, _, _, h, F, H, I, S, .cons q r, hQ => by
    refine assignInOrder_cons (bindName_ (sto_ok hk hC h F H I S q ?_))
    intro loc' o' as' s' m' h' x' F' H' S' t'
    exact binds_names hk hC h' F' H' (I.mono x') S' (r.mono x') (hQ.next x' t')
  | [], _, _, _, _, _, _, _, _, h, _, _, _, _, .cons _ _, _ => absurd h id
  | _ :: _, _, _, _, _, _, _, _, _, h, _, _, _, _, .nil, _ => absurd h id
theorem binds_each (hk : cs.kind = .function) (hC : CxOk prog w A K h₀ L news (envX cn cs L a ccd cl) C mg) {M : Model} {Q : Unit → Shared → Prop} (ts : List Expr) : ∀ {xs : List Str} {svs : List SV} {vs : List Value} {loc : List (Str × SV)} {o : List SO} {KK : List (Str × SV) → List SO → Prop} {as : List Addr} {m : Str → Option Value} {s : Shared},
    tNames ts = some xs → xBinds C xs svs loc o KK → Fr h₀ L s.heap m → LocOk loc as m → Ci C cl as → St w h₀ L news as o s.heap → VsAre as svs vs → Kos w h₀ L news as s KK (Q ()) → wpAny M A (assignInOrder ((assignEach ts (envX cn cs L a ccd cl)).map (·.2)) vs) Q E s := by
  induction ts with
  | nil =>
    intro xs svs vs loc o KK as m s ht h F H I S q hQ
    have : xs = [] := (Option.some.inj ht).symm
    subst this
    cases q with
    | nil => exact assignInOrder_nil (hQ _ _ _ _ _ h Ext.refl F H S Same.refl)
    | cons _ _ => exact absurd h id
  | cons e r ih =>
    intro xs svs vs loc o KK as m s ht h F H I S q hQ
    obtain ⟨x, px, ys, he, h1, h2⟩ := tNames_inv ht
    subst he h2
    cases q with
    | nil => exact absurd h id
    | cons q q' =>
      rw [each_name, List.map_cons]
      refine assignInOrder_cons (PyProof.Rows.assign_Name (sto_ok hk hC h F H I S q ?_))
      intro loc' o' as' s' m' h' x' F' H' S' t'
      exact ih h1 h' F' H' (I.mono x') S' (q'.mono x') (hQ.next x' t')
end
section
variable {prog : Program} {w : World} {A : Around} {E : Value → Shared → Prop} {K : Frag} {h₀ : Heap} {L a : Addr} {cn : Str} {cs : Scope} {ccd : Value} {cl : List (Str × Addr)} {news : List (Addr × Obj)} {p : Program} {loose : List Str} {mg mb : Str → Option Value} {C : Cx} {env : Env}
theorem StO.add {as : List Addr} {o : List SO} {os : List Obj} {h h' : Heap} {l : List (Addr × Obj)} (S : StO w h₀ L news as o os h) (N : ∀ p ∈ l ++ (as.zip os ++ news), h'.get? p.1 = some p.2 ∧ p.1 ≠ L ∧ h₀.get? p.1 = none) (off : ∀ p ∈ l, p.1 ∉ as) : StO w h₀ L (l ++ news) as o os h' := by
  refine ⟨S.all, S.len, fun p hp => N p ?_, S.nd, fun p hp => ?_⟩
  · simp only [List.mem_append] at hp ⊢
    rcases hp with hp | hp | hp
    · exact .inr (.inl hp)
    · exact .inl hp
    · exact .inr (.inr hp)
  · rcases List.mem_append.mp hp with hp | hp
    · exact off p hp
    · exact S.off p hp
theorem StO.less {as : List Addr} {o : List SO} {os : List Obj} {h : Heap} {l : List (Addr × Obj)} (S : StO w h₀ L (l ++ news) as o os h) : StO w h₀ L news as o os h :=
  ⟨S.all, S.len, fun p hp => S.led p (by
    rcases List.mem_append.mp hp with hp | hp
    · exact List.mem_append_left _ hp
    · exact List.mem_append_right _ (List.mem_append_right _ hp)), S.nd, fun p hp => S.off p (List.mem_append_right _ hp)⟩
theorem loop_rest {n : Nat} {x : Str} {body : List Stmt} {ret : SV → List SO → Prop} {KK : List (Str × SV) → List SO → Prop} {Q : Flow → Shared → Prop} {s : Shared} {I ax : Addr} {lo : Obj} (hL : env.locals = L)
    (ihS : ∀ news loc o nxt, xS C n body loc o ret nxt → ∀ as m s (Q : Flow → Shared → Prop), Fr h₀ L s.heap m → LocOk loc as m → Ci C cl as → St w h₀ L news as o s.heap →
      (∀ sv o' as' v s' m', ret sv o' → Ext as as' → Fr h₀ L s'.heap m' → St w h₀ L news as' o' s'.heap → VIs as' sv v → Same s s' → Q (.ret v) s') → Kos w h₀ L news as s nxt (Q .next) → wpAny (model prog w) A (execs body env) Q E s) :
    ∀ (svs : List SV) (vs : List Value) (loc : List (Str × SV)) (o : List SO) (as : List Addr) (os : List Obj) (h' : Heap) (m : Str → Option Value), VsAre as svs vs → xLoop (fun v loc o nxt => xS C n body ((x, v) :: loc) o ret nxt) svs loc o KK → LocOk loc as m → Ci C cl as → StO w h₀ L news as o os h' →
      (∀ p ∈ as.zip os ++ news, p.1 ≠ ax ∧ p.1 ≠ I) → ax ≠ I →
      (∀ sv o' as' v s' m', ret sv o' → Ext as as' → Fr h₀ L s'.heap m' → St w h₀ L news as' o' s'.heap → VIs as' sv v → Same s s' → Q (.ret v) s') →
      (∀ loc' o' as' m' h'' tk, KK loc' o' → Ext as as' → Fr h₀ L h'' m' → LocOk loc' as' m' → St w h₀ L news as' o' h'' → Q .next { s with heap := h'', toks := tk }) →
      ListRest prog w A E h₀ env x body Q s I (ax, lo) vs m ((ax, lo) :: (as.zip os ++ news)) := by
  subst hL
  intro svs
  induction svs with
  | nil =>
    intro vs loc o as os h' m q k H Ii S hne hax hR fin
    cases q
    refine ListRest.zero fun h tk F N => fin _ _ _ _ _ _ k Ext.refl F H ⟨os, S.on fun p hp => N p (.tail _ hp)⟩
  | cons sv r ih =>
    intro vs loc o as os h' m q k H Ii S hne hax hR fin
    cases q with
    | cons q1 q2 =>
      refine ListRest.succ ?_
      intro it h tk hit F N
      have S1 : StO w h₀ env.locals ([(I, it), (ax, lo)] ++ news) as o os h := S.add (fun p hp => N p hp) (fun p hp hm => by
        obtain ⟨b, hb⟩ := zip_has S.len hm
        have := hne _ (List.mem_append_left _ hb)
        rcases List.mem_cons.mp hp with rfl | hp
        · exact this.2 rfl
        · cases List.mem_singleton.mp hp
          exact this.1 rfl)
      refine ihS _ _ _ _ k as _ _ _ F (H.store q1) Ii ⟨os, S1⟩ ?_ ?_
      · intro sv' o' as' v' s' m' k' x' F' S' q' t'
        obtain ⟨os', S'⟩ := S'
        exact hR _ _ _ _ _ _ k' x' F' ⟨os', S'.less⟩ q' ⟨t'.1, t'.2.1, t'.2.2⟩
      · intro loc' o' as' s' m' k' x' F' H' S' t'
        obtain ⟨os', S'⟩ := S'
        rw [t'.is]
        have hne' : ∀ p ∈ as'.zip os' ++ news, p.1 ≠ ax ∧ p.1 ≠ I := fun p hp => by
          rcases List.mem_append.mp hp with hp | hp
          · have hm := zip_fst hp
            exact ⟨fun e => S'.off (ax, lo) (.tail _ (.head _)) (e ▸ hm), fun e => S'.off (I, it) (.head _) (e ▸ hm)⟩
          · exact hne p (List.mem_append_right _ hp)
        refine UnrEnd.intro F' S'.led ((ax, lo) :: (as'.zip os' ++ news)) ?_ ?_ ⟨.head _, ?_⟩
        · intro p hp
          rcases List.mem_cons.mp hp with rfl | hp
          · exact List.mem_append_right _ (.head _)
          · rcases List.mem_cons.mp hp with rfl | hp
            · exact List.mem_append_right _ (.tail _ (.head _))
            · rcases List.mem_append.mp hp with hp | hp
              · exact List.mem_append_left _ hp
              · exact List.mem_append_right _ (.tail _ (.tail _ hp))
        · intro p hp
          rcases List.mem_cons.mp hp with rfl | hp
          · exact hax
          · exact (hne' p hp).2
        · exact ih _ _ _ _ _ _ _ (q2.mono x') k' H' (fun y i hy => by
            obtain ⟨c, c1, c2⟩ := Ii y i hy
            exact ⟨c, c1, x'.at c2⟩) S'.less hne' hax (fun sv' o'' as'' v' s'' m'' k'' x'' => hR sv' o'' as'' v' s'' m'' k'' (x'.trans x'')) (fun loc'' o'' as'' m'' h'' tk'' k'' x'' => fin loc'' o'' as'' m'' h'' tk'' k'' (x'.trans x''))
end
section
variable {prog : Program} {w : World} {A : Around} {E : Value → Shared → Prop} {K : Frag} {h₀ : Heap} {L a : Addr} {cn : Str} {cs : Scope} {ccd : Value} {cl : List (Str × Addr)} {news : List (Addr × Obj)} {p : Program} {loose : List Str} {mg mb : Str → Option Value} {C : Cx} {env : Env} {V : (Str → Option Value) → Str → Option Value}
theorem meth_eval1 {env : Env} {v name : Str} {vp apos pos : Pos} {e : Expr} (h : (apos.endLine == pos.line) = true) (hs : starEach [e] env = [(false, eval e env)]) : ∃ pl, eval (.Call (.Attribute (.Name v vp) name apos) [e] [] pos) env = (do
      let ov ← eval (.Name v vp) env
      standAt apos.atName
      let (f, first) ← holding [ov] (getMethod ov name pl)
      callWith pos f first (backTo pos (starEach [e] env)) []) := by
  refine ⟨(do return (← importBound (.Name v vp) env).getD true), ?_⟩
  show (do
      let ov ← eval (.Name v vp) env
      standAt apos.atName
      methodCall (.Name v vp) name apos pos env ov 1 (backTo pos (starEach [e] env)) []) = _
  rw [hs]
  have e' : ∀ ov, methodCall (.Name v vp) name apos pos env ov 1 (backTo pos [(false, eval e env)]) [] = (do
      let (f, first) ← holding [ov] (getMethod ov name (do return (← importBound (.Name v vp) env).getD true))
      callWith pos f first (backTo pos [(false, eval e env)]) []) := by
    intro ov
    unfold methodCall methodCallPos
    rw [h]
    rfl
  simp only [e']
theorem append_ok {n : Nat} {y : Str} {yp apos pos : Pos} {e : Expr} {loc : List (Str × SV)} {o : List SO} {as : List Addr} {m : Str → Option Value} {s : Shared} {Q : Value → Shared → Prop} {KK : List SO → Prop}
    (ihE : OkE prog w A E h₀ L news env cl V C n) (ihEs : OkEs prog w A E h₀ L news env cl V C n) (hline : (apos.endLine == pos.line) = true) (hpl : plainArgs [e] = true)
    (h : xE C loc n (.Name y yp) o fun v o1 => (match v with
            | .R i => (match o1[i]? with
                | some (.lst _) => xEs C loc n [e] o1 fun xs o2 => (match xs, o2[i]? with
                    | [x], some (.lst vs) => (match Nat.ble vs.length 1000 with | true => KK (o2.set i (.lst (vs ++ [x]))) | false => False)
                    | _, _ => False)
                | _ => False)
            | _ => False)) (F : Fr h₀ L s.heap m) (H : LocOk loc as (V m)) (I : Ci C cl as) (S : St w h₀ L news as o s.heap)
    (hQ : ∀ v o' as' s', KK o' → Ext as as' → Fr h₀ L s'.heap m → St w h₀ L news as' o' s'.heap → Same s s' → Q v s') :
    wpAny (model prog w) A (eval (.Call (.Attribute (.Name y yp) (Str.ofString "append") apos) [e] [] pos) env) Q E s := by
  obtain ⟨p1, p2⟩ := plain_star (env := env) hpl
  obtain ⟨pl, hev⟩ := meth_eval1 (env := env) (v := y) (name := Str.ofString "append") (vp := yp) (e := e) hline p1
  refine MethodCall_ (ihE _ _ _ _ h as m s _ F H I S ?_) hev
  intro sv o1 as1 v s1 h1 x1 F1 S1 q1 t1
  have S1' := S1
  obtain ⟨os, S1⟩ := S1
  split at h1
  case h_2 => cases h1
  rename_i i
  cases q1
  rename_i D ea
  split at h1
  case h_2 => cases h1
  rename_i hs
  obtain ⟨ob, -, q, hm⟩ := S1.get ea hs
  cases q with
  | lst q =>
    refine listMethod_K S1.led hm PySem.F.slot_list_append PySem.F.type_list_append ?_
    have key : ∀ Q' ps, KokL w h₀ L news m as1 s1 (fun xs o2 => (match xs, o2[i]? with
                    | [x], some (.lst vs) => (match Nat.ble vs.length 1000 with | true => KK (o2.set i (.lst (vs ++ [x]))) | false => False)
                    | _, _ => False)) Q' → wpAny (model prog w) A (spliced (backTo ps (starEach [e] env))) Q' E s1 := fun Q' ps hq => ihEs _ _ _ _ h1 as1 m s1 _ ps F1 (H.mono x1) (I.mono x1) S1' hq
    rw [p1] at key ⊢
    refine callWith_builtin rfl (evalArgs_plain (key _ _ ?_))
    intro svs o2 as2 vs s2 h2 x2 F2 S2 q2 t2
    obtain ⟨os2, S2⟩ := S2
    split at h2
    case h_2 => cases h2
    rename_i hs2
    split at h2
    case h_2 => cases h2
    rename_i hl
    have hl' := Nat.le_of_ble_eq_true hl
    cases q2 with
    | cons q2 q3 =>
      cases q3
      obtain ⟨ob2, eo, q', hm2⟩ := S2.get (x2.at ea) hs2
      cases q' with
      | lst q' =>
        refine append_K F2 S2.led (S2.upd (x2.at ea) eo) (fun h' F' N' => ?_) ?_
        · refine hQ _ _ _ _ h2 (x1.trans x2) F' ⟨_, S2.set N' ?_⟩ ((t1.trans t2).trans ⟨rfl, rfl, rfl⟩)
          rw [List.push_toArray]
          exact .lst (q'.append q2)
        · rw [List.size_toArray, ← q'.len]
          exact sizeLine_big hl'
end
section
variable {prog : Program} {w : World} {A : Around} {E : Value → Shared → Prop} {K : Frag} {h₀ : Heap} {L a : Addr} {cn : Str} {cs : Scope} {ccd : Value} {cl : List (Str × Addr)} {news : List (Addr × Obj)} {mg mb : Str → Option Value} {C : Cx}
theorem pat_ok (hk : cs.kind = .function) (hh : A.handled = none) (hC : CxOk prog w A K h₀ L news (envX cn cs L a ccd cl) C mg) {Q : Unit → Shared → Prop} {ts : List Expr} {k : Nat} {p : Pos} {xs : List Str} {sv : SV} {v : Value} {loc : List (Str × SV)} {o : List SO} {KK : List (Str × SV) → List SO → Prop} {as : List Addr} {m : Str → Option Value} {s : Shared}
    (ht : tNames ts = some xs) (h : xPat C xs sv loc o KK) (F : Fr h₀ L s.heap m) (H : LocOk loc as m) (I : Ci C cl as) (S : St w h₀ L news as o s.heap) (q : VIs as sv v) (hQ : Kos w h₀ L news as s KK (Q ())) :
    wpAny (model prog w) A (assign (.Tuple ts k p) (envX cn cs L a ccd cl) v) Q E s := by
  unfold xPat at h
  split at h
  · cases q
    rename_i ea
    split at h
    · rename_i vs hv
      split at h
      · rename_i hl
        have hl' := Nat.eq_of_beq_eq_true hl
        obtain ⟨os, S⟩ := S
        obtain ⟨ob, -, q, hm⟩ := S.get ea hv
        cases q with
        | tup q =>
          refine unpackN_ F S.led (News.isTup S.led hm) hh ?_ (tNames_star _ ht) (fun h' F' N' => ?_)
          · rw [tNames_len _ ht, hl', q.len]; simp
          · exact binds_each hk hC _ ht h F' H I ⟨os, S.on N'⟩ q fun loc' o' as' s' m' k' x' F2 H2 S2 t2 => hQ _ _ _ _ _ k' x' F2 H2 S2 (Same.mk'.trans t2)
      · cases h
    · cases h
  · cases h
theorem nest_ok (hk : cs.kind = .function) (hh : A.handled = none) (hC : CxOk prog w A K h₀ L news (envX cn cs L a ccd cl) C mg) {Q : Unit → Shared → Prop} {ts₁ ts₂ : List Expr} {k k₁ k₂ : Nat} {p p₁ p₂ : Pos} {xs₁ xs₂ : List Str} {sv : SV} {v : Value} {loc : List (Str × SV)} {o : List SO} {KK : List (Str × SV) → List SO → Prop} {as : List Addr} {m : Str → Option Value} {s : Shared}
    (ht₁ : tNames ts₁ = some xs₁) (ht₂ : tNames ts₂ = some xs₂) (h : match sv with
      | .R i => (match o[i]? with
        | some (.lst [u, v]) => xPat C xs₁ u loc o fun loc' o' => xPat C xs₂ v loc' o' KK
        | _ => False)
      | _ => False) (F : Fr h₀ L s.heap m) (H : LocOk loc as m) (I : Ci C cl as) (S : St w h₀ L news as o s.heap) (q : VIs as sv v) (hQ : Kos w h₀ L news as s KK (Q ())) :
    wpAny (model prog w) A (assign (.Tuple [.Tuple ts₁ k₁ p₁, .Tuple ts₂ k₂ p₂] k p) (envX cn cs L a ccd cl) v) Q E s := by
  split at h
  · cases q
    rename_i ea
    split at h
    · rename_i u v hv
      obtain ⟨os, S⟩ := S
      obtain ⟨ob, -, q, hm⟩ := S.get ea hv
      cases q with
      | lst q =>
        cases q with
        | cons q1 q =>
          cases q with
          | cons q2 q =>
            cases q
            refine kun_list F S.led ⟨_, (S.led _ hm).1, rfl, _, rfl⟩ hh (by rfl) (by rfl) (fun h' F' N' => ?_)
            refine assignInOrder_cons (pat_ok (k := k₁) (p := p₁) hk hh hC ht₁ h F' H I ⟨os, S.on N'⟩ q1 ?_)
            intro loc' o' as' s' m' k' x' F2 H2 S2 t2
            refine assignInOrder_cons (pat_ok (k := k₂) (p := p₂) hk hh hC ht₂ k' F2 H2 (I.mono x') S2 (q2.mono x') ?_)
            intro loc'' o'' as'' s'' m'' k'' x'' F3 H3 S3 t3
            exact assignInOrder_nil (hQ _ _ _ _ _ k'' (x'.trans x'') F3 H3 S3 ((Same.mk'.trans t2).trans t3))
    · cases h
  · cases h
end
theorem noComp_sole {e t : Expr} {line : Nat} {env : Env} (h : noComp e = true) : swapsWithSole [t] e line env = pure false := noComp_no h
theorem VsAre.rev {as : List Addr} {xs : List SV} {vs : List Value} (h : VsAre as xs vs) : VsAre as xs.reverse vs.reverse := by
  induction h with
  | nil => exact .nil
  | cons a _ ih =>
    rw [List.reverse_cons, List.reverse_cons]
    exact ih.append a
theorem xOrd_none {C : Cx} {env : Env} {ts : List Expr} {e : Expr} {k : Nat} {p : Pos} (hb : env.blockKind = .function) (kd : env.kindOf = fun x => C.names.lookup x) {r : Option (List Str)} (h : xOrd C ts e = some r) : swappedStores [.Tuple ts k p] e env = pure r := by
  cases e with
  | Tuple vs k' p' =>
    have h' : swapK (fun x => C.names.lookup x) ts vs = some r := h
    rw [← kd] at h'
    exact swapK_is hb h'
  | _ =>
    have h' : some none = some r := h
    cases h'
    rfl
theorem compA_out {C : Cx} {x : Str} {px : Pos} {e : Expr} {n : Nat} {loc : List (Str × SV)} {o : List SO} {K : SV → List SO → Prop} (h : compA C n loc x px e o K) : ∃ elt y yp es ep scope pos, e = .ListComp elt [⟨.Name y yp, .List es ep, [], 0⟩] scope pos ∧ C.names.lookup x = some .local ∧ (px.line == pos.line && !(scope.names.any fun z => z.1 == x && (z.2 == .local || z.2 == .cell))) = true ∧ ∃ C', compCx C scope y = some C' ∧
      xEs C loc n es o fun vs o1 => (match Nat.ble vs.length 1000 with
                        | true => xTurns (fun v o K => xE C' [(y, v)] n elt o K) vs [] o1 fun ys o2 => K (.R o2.length) (o2 ++ [.lst ys])
                        | false => False) := by
  cases e with
  | ListComp elt gs scope p =>
    rcases gs with _ | ⟨⟨tg, it, ifs, ia⟩, _ | ⟨g2, gs⟩⟩
    · exact False.elim h
    · cases tg with
      | Name y yp =>
        cases it with
        | List es ep =>
          rcases ifs with _ | ⟨_, _⟩
          · rcases ia with (_ | ia) | ia
            · obtain ⟨h0, h⟩ := xReq.out h
              obtain ⟨h1, h⟩ := xReq.out h
              obtain ⟨C', h2, h⟩ := xOpt.out h
              exact ⟨_, _, _, _, _, _, _, rfl, eq_of_beq h0, h1, C', h2, h⟩
            · exact False.elim h
            · exact False.elim h
          · exact False.elim h
        | _ => exact False.elim h
      | _ => exact False.elim h
    · cases tg <;> first
        | exact False.elim h
        | (cases it <;> first
            | exact False.elim h
            | (cases ifs <;> first | exact False.elim h | (cases ia <;> first | exact False.elim h | (rename_i a; cases a <;> exact False.elim h))))
  | _ => exact False.elim h
section
variable {prog : Program} {w : World} {A : Around} {E : Value → Shared → Prop} {K : Frag} {h₀ : Heap} {L a : Addr} {cn : Str} {cs : Scope} {ccd : Value} {cl : List (Str × Addr)} {news : List (Addr × Obj)} {p : Program} {loose : List Str} {mg mb : Str → Option Value} {C : Cx}
noncomputable def Kor (w : World) (h₀ : Heap) (L : Addr) (news : List (Addr × Obj)) (as : List Addr) (s : Shared) (KK : SV → List SO → Prop) (Q : Flow → Shared → Prop) : Prop :=
  ∀ sv o' as' v s' m', KK sv o' → Ext as as' → Fr h₀ L s'.heap m' → St w h₀ L news as' o' s'.heap → VIs as' sv v → Same s s' → Q (.ret v) s'
theorem Kor.next {as as' : List Addr} {s s' : Shared} {KK : SV → List SO → Prop} {Q : Flow → Shared → Prop} (h : Kor w h₀ L news as s KK Q) (e : Ext as as') (t : Same s s') : Kor w h₀ L news as' s' KK Q :=
  fun sv o' as'' v s'' m' k e' F S q t' => h sv o' as'' v s'' m' k (e.trans e') F S q (t.trans t')
theorem CxOk.any {env : Env} {news news' : List (Addr × Obj)} (h : CxOk prog w A K h₀ L news env C mg) : CxOk prog w A K h₀ L news' env C mg := ⟨h.nm, h.gl, h.at_, h.hd, h.gi, h.sa, h.po, h.tk, h.kd, h.me, h.cal⟩
theorem xS_ok (hk : cs.kind = .function) (X : K.In h₀) (T : TopRead p loose mg mb h₀) (hU : A.units + 64 < cLine) (hh : A.handled = none) (hP : PassesOwn (model prog w) A (envX cn cs L a ccd cl) E) (hC₀ : CxOk prog w A K h₀ L news (envX cn cs L a ccd cl) C mg) : ∀ n news sts loc o ret nxt, xS C n sts loc o ret nxt →
    ∀ as m s Q, Fr h₀ L s.heap m → LocOk loc as m → Ci C cl as → St w h₀ L news as o s.heap → Kor w h₀ L news as s ret Q → Kos w h₀ L news as s nxt (Q .next) → wpAny (model prog w) A (execs sts (envX cn cs L a ccd cl)) Q E s := by
  have hb : (envX cn cs L a ccd cl).blockKind = .function := by
    show (if cs.kind.isAnnotationScope = true then _ else cs.kind) = _
    rw [hk]
    rfl
  intro n
  induction n with
  | zero => exact fun _ _ _ _ _ _ h => absurd h id
  | succ n ih =>
    intro news sts loc o ret nxt h as m s Q F H I S hR hN
    have hC : CxOk prog w A K h₀ L news (envX cn cs L a ccd cl) C mg := hC₀.any
    obtain ⟨iE, iEs, iT⟩ := x_ok hh T X hU n news _ cl (fun m => m) C E (name_ok hk X T hC) hC ⟨hk, rfl, rfl, rfl⟩
    have h := xS_xB h
    cases sts with
    | nil => exact wpAny_execs_nil (hN _ _ _ _ _ h Ext.refl F H S Same.refl)
    | cons st r =>
    cases st with
    | Return v p =>
      cases v with
      | none => exact False.elim h
      | some e =>
        refine wpAny_execs_cons (wpAny_Return_some (iE _ _ _ _ h as m s _ F H I S ?_))
        intro sv o1 as1 v s1 h1 x1 F1 S1 q1 t1
        exact hR _ _ _ _ _ _ h1 x1 F1 S1 q1 t1
    | If t b f p =>
      refine wpAny_execs_cons (wpAny_If (iT _ _ _ _ h as m s _ F H I S ?_))
      intro c o1 as1 s1 h1 x1 F1 S1 t1
      obtain ⟨o1, S1, h1⟩ := xIf_use h1 S1
      cases c with
      | true =>
        refine ih _ _ _ _ _ _ (h1.1 rfl) as1 m s1 _ F1 (H.mono x1) (I.mono x1) S1 (hR.next x1 t1) ?_
        intro loc' o2 as2 s2 m2 h2 x2 F2 H2 S2 t2
        exact ih _ _ _ _ _ _ h2 as2 m2 s2 _ F2 H2 (I.mono (x1.trans x2)) S2 (hR.next (x1.trans x2) (t1.trans t2)) (hN.next (x1.trans x2) (t1.trans t2))
      | false =>
        refine ih _ _ _ _ _ _ (h1.2 rfl) as1 m s1 _ F1 (H.mono x1) (I.mono x1) S1 (hR.next x1 t1) ?_
        intro loc' o2 as2 s2 m2 h2 x2 F2 H2 S2 t2
        exact ih _ _ _ _ _ _ h2 as2 m2 s2 _ F2 H2 (I.mono (x1.trans x2)) S2 (hR.next (x1.trans x2) (t1.trans t2)) (hN.next (x1.trans x2) (t1.trans t2))
    | Expr e p =>
      cases e with
      | Call f args kws pos =>
        cases f with
        | Attribute v nm apos =>
          cases v with
          | Name y yp =>
            rcases args with _ | ⟨e, _ | ⟨e2, args⟩⟩
            · exact False.elim h
            · cases kws with
              | nil =>
                obtain ⟨hc, hq⟩ := xReq.out h
                clear h
                rw [Bool.and_eq_true, Bool.and_eq_true] at hc
                have hnm := eq_of_beq hc.1.1
                subst hnm
                refine wpAny_execs_cons (wpAny_Expr_any (append_ok (V := fun m => m) (KK := fun o' => xS C n r loc o' ret nxt) iE iEs hc.1.2 hc.2 hq F H I S ?_) ?hi)
                case hi =>
                  show (cs.kind == ScopeKind.module && _) = false
                  rw [hk]
                  rfl
                intro v o' as' s' k' x' F' S' t'
                exact ih _ _ _ _ _ _ k' as' m s' _ F' (H.mono x') (I.mono x') S' (hR.next x' t') (hN.next x' t')
              | cons _ _ => exact False.elim h
            · exact False.elim h
          | _ => exact False.elim h
        | _ => exact False.elim h
      | _ => exact False.elim h
    | For tg it body orelse p =>
      cases tg with
      | Name x xp =>
        cases it with
        | List es ep =>
          cases orelse with
          | nil =>
            obtain ⟨hx, h⟩ := xReq.out h
            have hx := eq_of_beq hx
            have hkx := (hC.nm _ _ hx).1
            refine wpAny_execs_cons (For_invV h₀ hkx ?_ ?_ (by intro _; rfl) hP)
            · show (cs.kind == ScopeKind.class || (cs.kind == ScopeKind.module && L != mainGlobals)) = false
              rw [hk]
              rfl
            · refine List_ (iEs _ _ _ _ h as m s _ _ F H I S ?_)
              intro svs o1 as1 vs s1 h1 x1 F1 S1 q1 t1
              split at h1
              · rename_i hl
                have hl' : vs.length ≤ 1000 := q1.len ▸ Nat.le_of_ble_eq_true hl
                obtain ⟨os1, S1⟩ := S1
                refine newList_K F1 S1.led (fun D h' F' N' l1 => ?_) (sizeLine_big hl')
                refine iter_listUnr hh F' N' (.head _) rfl rfl (fun I' hlt => ?_)
                refine loop_rest (ret := ret) rfl (fun news loc o nxt hb as m s Q F H I S hR hN => ih news _ _ _ _ _ hb as m s Q F H I S hR hN) svs vs loc o1 as1 os1 _ m q1 h1 (H.mono x1) (I.mono x1) S1 (fun p hp => ⟨Nat.ne_of_lt (l1 p hp), Nat.ne_of_lt (hlt p (.tail _ hp))⟩) (Nat.ne_of_lt (hlt _ (.head _))) ?_ ?_
                · intro sv o' as' v s' m' k' x' F2 S2 q2 t2
                  exact hR _ _ _ _ _ _ k' (x1.trans x') F2 S2 q2 (t1.trans ⟨t2.1, t2.2.1, t2.2.2⟩)
                · intro loc' o' as' m' h'' tk k' x' F2 H2 S2
                  have t3 : Same s { s1 with heap := h'', toks := tk } := t1.trans Same.mk'
                  exact ih _ _ _ _ _ _ k' as' m' _ _ F2 H2 (I.mono (x1.trans x')) S2 (hR.next (x1.trans x') t3) (hN.next (x1.trans x') t3)
              · cases h1
          | cons _ _ => exact False.elim h
        | _ => exact False.elim h
      | _ => exact False.elim h
    | Assign ts e p =>
      rcases ts with _ | ⟨t, _ | ⟨t2, ts⟩⟩
      · exact False.elim h
      · cases t with
        | Name x px =>
          cases hn : noComp e with
          | true =>
            have h := xBr.t h hn
            refine wpAny_execs_cons (wpAny_Assign_Name (iE _ _ _ _ h as m s _ F H I S ?_) (noComp_no hn))
            intro sv o1 as1 v s1 h1 x1 F1 S1 q1 t1
            refine sto_ok hk hC h1 F1 (H.mono x1) (I.mono x1) S1 q1 ?_
            intro loc' o2 as2 s2 m2 h2 x2 F2 H2 S2 t2
            exact ih _ _ _ _ _ _ h2 as2 m2 s2 _ F2 H2 (I.mono (x1.trans x2)) S2 (hR.next (x1.trans x2) (t1.trans t2)) (hN.next (x1.trans x2) (t1.trans t2))
          | false =>
            have h := xBr.f h hn
            obtain ⟨elt, y, yp, es, ep, scope, pos, he, hy, hsw, C', hcx, hq⟩ := compA_out h
            clear h
            subst he
            refine wpAny_execs_cons (comp_assign (KK := fun v o2 => xS C n r ((x, v) :: loc) o2 ret nxt) hh ⟨hk, rfl, rfl, rfl⟩ rfl hcx X T hC (fun a b c d e f x y z => (x_ok hh T X hU n a b c d e f x y z).1) iEs (hC.nm _ _ hy).1 hsw hq F H I S ?_)
            intro sv o' as' v h' tk k' x' F' S' q'
            exact ih _ _ _ _ _ _ k' as' _ _ _ F' ((H.mono x').store q') (I.mono x') S' (hR.next x' Same.mk') (hN.next x' Same.mk')
        | Tuple ts k tp =>
          cases hz : nest? ts e with
          | some xy =>
            obtain ⟨xs1, xs2⟩ := xy
            have hq := xMay.s h hz
            clear h
            obtain ⟨hlc, a1, b1, rfl, ha, hb'⟩ := nest_inv hz
            obtain ⟨elt, gs, sc, lp, rfl⟩ := isLC_inv hlc
            obtain ⟨ts1, k1, p1, rfl, ht1⟩ := tupN_inv ha
            obtain ⟨ts2, k2, p2, rfl, ht2⟩ := tupN_inv hb'
            refine wpAny_execs_cons (Assign_Tuple (iE _ _ _ _ hq as m s _ F H I S ?_) (by rfl) (by rfl))
            intro sv o1 as1 v s1 h1 x1 F1 S1 q1 t1
            refine nest_ok hk hh hC ht1 ht2 h1 F1 (H.mono x1) (I.mono x1) S1 q1 ?_
            intro loc' o2 as2 s2 m2 h2 x2 F2 H2 S2 t2
            exact ih _ _ _ _ _ _ h2 as2 m2 s2 _ F2 H2 (I.mono (x1.trans x2)) S2 (hR.next (x1.trans x2) (t1.trans t2)) (hN.next (x1.trans x2) (t1.trans t2))
          | none =>
            have h := xMay.n h hz
            obtain ⟨hn, h⟩ := xReq.out h
            obtain ⟨xs, ht, h⟩ := xOpt.out h
            obtain ⟨q0, ho, h⟩ := xOpt.out h
            have key : ∀ {Qf : Value → Shared → Prop}, (∀ svs vs o1 as1 D s1, (match q0 with
                    | none => xReq (Nat.beq xs.length svs.length) (xBinds C xs svs loc o1 fun loc' o2 => xS C n r loc' o2 ret nxt)
                    | some ys => xReq (Nat.beq ys.length svs.length) (xBinds C ys.reverse svs.reverse loc o1 fun loc' o2 => xS C n r loc' o2 ret nxt)) → Ext as as1 → Fr h₀ L s1.heap m → St w h₀ L news as1 o1 s1.heap → VsAre as1 svs vs → s1.heap.IsTuple D vs.toArray → Same s s1 → Qf (.ref D) s1) → wpAny (model prog w) A (eval e (envX cn cs L a ccd cl)) Qf E s := by
              intro Qf hq
              refine iE _ _ _ _ h as m s _ F H I S ?_
              intro sv o1 as1 v s1 h1 x1 F1 S1 q1 t1
              cases q1 with
              | @R i D ea =>
                simp only at h1
                split at h1
                · rename_i vs hv
                  have S1' := S1
                  obtain ⟨os, S1⟩ := S1
                  obtain ⟨ob, -, q, hm⟩ := S1.get ea hv
                  cases q with
                  | tup q => exact hq _ _ _ _ _ _ h1 x1 F1 S1' q (News.isTup S1.led hm) t1
                · cases h1
              | _ => exact False.elim h1
            cases q0 with
            | none =>
              refine wpAny_execs_cons (Assign_Tuple (key ?_) (noComp_sole hn) (xOrd_none hb hC.kd ho))
              intro svs vs o1 as1 v s1 h1 x1 F1 S1 q ht' t1
              obtain ⟨hl, h1⟩ := xReq.out h1
              have hl' := Nat.eq_of_beq_eq_true hl
              obtain ⟨os, S1⟩ := S1
              refine unpackN_ F1 S1.led ht' hh ?_ (tNames_star _ ht) (fun h' F' N' => ?_)
              · rw [tNames_len _ ht, hl', q.len]; simp
              · refine binds_each hk hC _ ht h1 F' (H.mono x1) (I.mono x1) ⟨os, S1.on N'⟩ q ?_
                intro loc' o2 as2 s2 m2 h2 x2 F2 H2 S2 t2
                have t3 := (t1.trans Same.mk').trans t2
                exact ih _ _ _ _ _ _ h2 as2 m2 s2 _ F2 H2 (I.mono (x1.trans x2)) S2 (hR.next (x1.trans x2) t3) (hN.next (x1.trans x2) t3)
            | some ys =>
              refine wpAny_execs_cons (Assign_Tuple_swapped (key ?_) (noComp_sole hn) (xOrd_none hb hC.kd ho))
              intro svs vs o1 as1 v s1 h1 x1 F1 S1 q ht' t1
              obtain ⟨hl, h1⟩ := xReq.out h1
              have hl' := Nat.eq_of_beq_eq_true hl
              obtain ⟨os, S1⟩ := S1
              refine unpackItemsN_ F1 S1.led ht' hh ?_ (fun h' F' N' => ?_)
              · rw [hl', q.len]; simp
              · refine binds_names hk hC h1 F' (H.mono x1) (I.mono x1) ⟨os, S1.on N'⟩ q.rev ?_
                intro loc' o2 as2 s2 m2 h2 x2 F2 H2 S2 t2
                have t3 := (t1.trans Same.mk').trans t2
                exact ih _ _ _ _ _ _ h2 as2 m2 s2 _ F2 H2 (I.mono (x1.trans x2)) S2 (hR.next (x1.trans x2) t3) (hN.next (x1.trans x2) t3)
        | Attribute v attr ap =>
          cases v with
          | Name y yp =>
            obtain ⟨hc, h⟩ := xReq.out h
            rw [Bool.and_eq_true] at hc
            obtain ⟨hn, ha⟩ := hc
            refine wpAny_execs_cons (plainObj_wpAny_Assign_Attribute (iE _ _ _ _ h as m s _ F H I S ?_) (noComp_no hn))
            intro sv o1 as1 v s1 h1 x1 F1 S1 q1 t1
            refine iE _ _ _ _ h1 as1 m s1 _ F1 (H.mono x1) (I.mono x1) S1 ?_
            intro sv2 o2 as2 v2 s2 h2 x2 F2 S2 q2 t2
            cases q2 with
            | @R i D ea =>
              simp only at h2
              split at h2
              · rename_i c d ho
                split at h2
                · rename_i es hd hc
                  have hcc : c = C.cls := eq_of_beq hc
                  subst hcc
                  split at h2
                  · rename_i es' hp
                    unfold xPut at hp
                    split at hp
                    · rename_i hx hl
                      cases hp
                      have hl' := Nat.le_of_ble_eq_true hl
                      obtain ⟨os, S2⟩ := S2
                      obtain ⟨ob, -, q, hm⟩ := S2.get ea ho
                      cases q with
                      | inst ed =>
                        obtain ⟨od, eo, q', hm'⟩ := S2.get ed hd
                        cases q' with
                        | dic q' =>
                          have g0 := q'.none hx
                          refine set_dict F2 X S2.led (InstAt.of_news S2.led hm hm') rfl hC.sa hC.po (hC.tk _ ha) hC.hd (by rw [g0]; rfl) (by rw [q'.put hx]) (S2.upd ed eo) ?_ (fun h' F' N' => ?_)
                          · have := q'.len
                            rw [List.length_append]
                            show _ + 1 ≤ 1000
                            omega
                          · exact ih _ _ _ _ _ _ h2 as2 m _ _ F' (H.mono (x1.trans x2)) (I.mono (x1.trans x2)) ⟨_, S2.set N' (.dic (q'.append (q1.mono x2)))⟩ (hR.next (x1.trans x2) ((t1.trans t2).trans Same.mk')) (hN.next (x1.trans x2) ((t1.trans t2).trans Same.mk'))
                    · cases hp
                  · cases h2
                · cases h2
              · cases h2
            | _ => exact False.elim h2
          | _ => exact False.elim h
        | _ => exact False.elim h
      · exact False.elim h
    | _ => exact False.elim h
end
noncomputable abbrev KK (w : World) : Frag := hd.heap_39 w.params
noncomputable def fnIn? (K : Frag) (f : Addr) : Option FuncData := match K.lookup f with
  | some ⟨_, _, .func fd, _⟩ => some fd
  | _ => none
noncomputable def bodyIn (K : Frag) (f : Addr) : List Stmt := match fnIn? K f with
  | some fd => (match fd.body with | .stmts b => b | _ => [])
  | none => []
noncomputable def scopeIn (K : Frag) (f : Addr) : Scope := match fnIn? K f with
  | some fd => fd.scope
  | none => ⟨.function, [], false, false, []⟩
noncomputable def parsIn (K : Frag) (f : Addr) : List Str := match fnIn? K f with
  | some fd => fd.params.args.map (·.arg)
  | none => []
noncomputable abbrev Spec := List SV → List SO → (SV → List SO → Prop) → Prop
/-- what a call does, told by the run's conditions -/
noncomputable def SpOk (w : World) (d u : Nat) (f : Addr) (Sp : Spec) : Prop :=
  ∀ (mean : ExcName → Option Value) (mg mb : Str → Option Value) (dp un : Nat) (gd : Option (List Code)) (cn : Str) (cs : Scope) (L a : Addr) (ccd : Value) (cl : List (Str × Addr)) (outer : List Env) (A₀ : Around) (base h₀ : Heap) (m : Str → Option Value) (s : Shared) (Q E : Value → Shared → Prop) (news : List (Addr × Obj)) (as : List Addr) (svs : List SV) (o : List SO) (KR : SV → List SO → Prop) (vs : List Value),
    GlobS mg mb base → Below A₀ base outer h₀ → Fr h₀ L s.heap m → (KK w).In h₀ → Top hd.view_39 (looseW hd.view_39 [Str.ofString "SHARP"]) mean mg mb h₀ → cs.kind = .function →
    dp + d < recursionLimit → un + u < cLine → St w h₀ L news as o s.heap → VsAre as svs vs → Sp svs o KR → Kok w h₀ L news m as s KR Q →
    wpAny (model PySem.Challenge.rw_xm0692_01.row.prog w) (ktrTop dp un gd cn cs L a ccd cl outer) (call (.ref f) vs) Q E s
theorem SpOk.weak {w : World} {d u : Nat} {f : Addr} {Sp Sp' : Spec} (h : SpOk w d u f Sp) (hs : ∀ svs o KR, Sp' svs o KR → Sp svs o KR) : SpOk w d u f Sp' :=
  fun mean mg mb dp un gd cn cs L a ccd cl outer A₀ base h₀ m s Q E news as svs o KR vs hG B F X T hk hd' hu S q k hQ => h mean mg mb dp un gd cn cs L a ccd cl outer A₀ base h₀ m s Q E news as svs o KR vs hG B F X T hk hd' hu S q (hs _ _ _ k) hQ
noncomputable def calOf (specs : List (Addr × Spec)) : Value → List SV → List SO → (SV → List SO → Prop) → Prop
  | .ref f, svs, o, KR => (match specs.lookup f with | some Sp => Sp svs o KR | none => False)
  | _, _, _, _ => False
/-- the text's part of what a run may use -/
structure Tx (w : World) (C : Cx) : Prop where
  dbg : ∀ x k, C.names.lookup x = some k → (x == ("__debug__" : Str)) = false
  gl : ∀ x v, C.glob.lookup x = some v → handedIn v = true ∧ (∀ g, v = .ref g → keepIn (KK w) v = true) ∧ (nsIn (KK w) mainGlobals x = some (some v) ∨ (nsIn (KK w) mainGlobals x = some none ∧ bootBuiltins x = some v ∧ x ≠ ("__name__" : Str)))
  at_ : ∀ x, C.att.contains x = true → plainGet (KK w) C.cls x = true ∧ ∃ attr, findIn (KK w) (.ref C.cls) x = some attr ∧ noGet (KK w) attr = true
  hd : hasDictIn (KK w) C.cls = true
  sa : findIn (KK w) (.ref C.cls) (Str.ofString "__setattr__") = some (some (.builtin "object.__setattr__"))
  po : plainOver (KK w) C.cls = true
  tk : ∀ x, C.att.contains x = true → takerIn (KK w) C.cls x = some none
  me : ∀ x g, C.met.lookup x = some g → plainGet (KK w) C.cls x = true ∧ findIn (KK w) (.ref C.cls) x = some (some (.ref g)) ∧ isFn (KK w) (.ref g) = true ∧ keepIn (KK w) (.ref g) = true
inductive Prs (as : List Addr) : List (Str × SV) → List (Str × Value) → Prop
  | nil : Prs as [] []
  | cons {x sv v r r'} : VIs as sv v → Prs as r r' → Prs as ((x, sv) :: r) ((x, v) :: r')
theorem Prs.snoc {as : List Addr} {x : Str} {sv : SV} {v : Value} : ∀ {l : List (Str × SV)} {l' : List (Str × Value)}, Prs as l l' → VIs as sv v → Prs as (l ++ [(x, sv)]) (l' ++ [(x, v)])
  | _, _, .nil, q => .cons q .nil
  | _, _, .cons a r, q => .cons a (r.snoc q)
theorem Prs.rev {as : List Addr} {l : List (Str × SV)} {l' : List (Str × Value)} (h : Prs as l l') : Prs as l.reverse l'.reverse := by
  induction h with
  | nil => exact .nil
  | cons a _ ih =>
    rw [List.reverse_cons, List.reverse_cons]
    exact ih.snoc a
theorem Prs.zip {as : List Addr} : ∀ {xs : List Str} {svs : List SV} {vs : List Value}, VsAre as svs vs → Prs as (xs.zip svs) (xs.zip vs)
  | [], _, _, _ => .nil
  | _ :: _, _, _, .nil => .nil
  | _ :: _, _, _, .cons q r => .cons q (Prs.zip r)
theorem Prs.loc {as : List Addr} : ∀ {l : List (Str × SV)} {l' : List (Str × Value)}, Prs as l l' → LocOk l as (fun y => l'.lookup y)
  | _, _, .nil => fun _ _ h => nomatch h
  | _, _, .cons (x := x) (v := v) (r' := r') q r => fun y sv h => by
    rw [List.lookup_cons] at h
    have e : List.lookup y ((x, v) :: r') = match y == x with | true => some v | false => List.lookup y r' := List.lookup_cons ..
    cases hy : (y == x) with
    | true =>
      rw [hy] at h e
      cases h
      exact ⟨v, e, q⟩
    | false =>
      rw [hy] at h e
      obtain ⟨v', a, b⟩ := r.loc y sv h
      exact ⟨v', e.trans a, b⟩
noncomputable def gints : List (Str × (Int × Nat)) := [(Str.ofString "SHARP", (18446744073709551616, 65))]
theorem gint_ok {mg mb : Str → Option Value} {h : Heap} (G : GlobS mg mb h) {x : Str} {q : Int × Nat} (e : gints.lookup x = some q) : Bd q.2 q.1 ∧ ∃ t, mg x = some (.int q.1 t) := by
  have e' : (match x == Str.ofString "SHARP" with | true => some ((18446744073709551616 : Int), (65 : Nat)) | false => none) = some q := e
  cases hx : (x == Str.ofString "SHARP") with
  | false => rw [hx] at e'; cases e'
  | true =>
    rw [hx] at e'
    cases e'
    refine ⟨by unfold Bd; decide, ?_⟩
    obtain ⟨v, hv, hd⟩ := G.bound (Str.ofString "SHARP", PyData.int 18446744073709551616) (.head _)
    rw [eq_of_beq hx]
    have hd' := hd h
    cases hd'
    exact ⟨_, hv⟩
/-- a def of the text, its body run -/
theorem SpOk.of_body {w : World} {d u : Nat} {f : Addr} {C : Cx} {specs : List (Addr × Spec)} {n : Nat} {body : List Stmt} {xs : List Str} {name qual : Str} {params : Arguments} {scope : Scope} {dV kV doc pm cdv ct oc : Value} {an od : Option Addr} {osl : Array (Option Value)}
    (ho : (KK w).lookup f = some ⟨oc, od, .func (fnOf name qual params body scope dV kV doc pm an cdv ct), osl⟩) (hcd : codeIn (KK w) cdv qual = true)
    (hbind : ∀ (s : Shared) (vs : List Value), vs.length = xs.length → BindsTo s (fnOf name qual params body scope dV kV doc pm an cdv ct) ⟨vs, []⟩ (xs.zip vs))
    (hloc : (xs.all fun x => scope.names.lookup x == some .local) = true) (hco : scope.isCoroutine = false) (hgen : scope.isGenerator = false) (hk' : scope.kind = .function) (hcell : (scope.names.all fun x => x.2 != .cell) = true)
    (hT : Tx w C) (hnm : C.names = scope.names) (hci : C.cidx = []) (hcal : C.cal = calOf specs) (hgi : C.gint = gints) (hsp : ∀ f Sp, specs.lookup f = some Sp → SpOk w d u f Sp) :
    SpOk w (d + 1) (u + 70) f (fun svs o KR => match Nat.beq xs.length svs.length with | true => xS C n body (xs.zip svs).reverse o KR fun _ o' => KR .N o' | false => False) := by
  intro mean mg mb dp un gd cn cs L a ccd cl outer A₀ base h₀ m s Q E news as svs o KR vs hG B F X T hk hd' hu S q k hQ
  split at k
  case h_2 => cases k
  rename_i hl
  have hl := Nat.eq_of_beq_eq_true hl
  obtain ⟨os, S⟩ := S
  refine wpAny_call ?_
  refine code_def B F X S.led T rfl rfl hk ho hcd (Nat.lt_of_le_of_lt (Nat.le_add_right dp (d + 1)) hd') (hbind s vs (q.len.symm.trans hl.symm)) ?_ ?_ hco hgen hk' (fun x hx => by have := List.all_eq_true.mp hcell x hx; simpa using this)
  · intro y hy
    have := (List.of_mem_zip hy).1
    have h2 := List.all_eq_true.mp hloc _ this
    simpa using h2
  · intro g L' h₁ FG F' N' B' X' T'
    have hU' : ((ktrTop dp un gd cn cs L a ccd cl outer).deeper (envOf qual scope L' f cdv)).units + 64 < cLine := by
      rw [units_deeper]
      show un + 3 + 64 < cLine
      omega
    have hC : CxOk PySem.Challenge.rw_xm0692_01.row.prog w ((ktrTop dp un gd cn cs L a ccd cl outer).deeper (envOf qual scope L' f cdv)) (KK w) g L' news (envX qual scope L' f cdv []) C mg := by
      refine ⟨fun x k hx => ⟨?_, hT.dbg x k hx⟩, hT.gl, hT.at_, hT.hd, (fun x q hq => gint_ok hG (hgi ▸ hq)), hT.sa, hT.po, hT.tk, ?_, hT.me, ?_⟩
      · rw [hnm] at hx; exact hx
      · rw [hnm]; rfl
      · rw [hcal]
        intro news' fv svs' o' KR' h' as' m' s' vs' Q' E' F2 S2 q2 hQ2
        unfold calOf at h'
        split at h'
        · split at h'
          · rename_i Sp hs
            exact hsp _ _ hs mean mg mb (dp + 1) (un + 3) gd qual scope L' f cdv [] (envX cn cs L a ccd cl :: outer) _ base g m' s' Q' E' news' as' svs' o' KR' vs' hG B' F2 X' T' hk' (by omega) (by omega) S2 q2 h' hQ2
          · cases h'
        · cases h'
    have P : Prs as (xs.zip svs).reverse (xs.zip vs).reverse := (Prs.zip q).rev
    refine xS_ok (E := _) (K := KK w) (news := news) (C := C) (cl := []) hk' X' (topRead_of T') hU' rfl (by passes_own) hC n _ _ _ _ _ _ k as _ _ _ F' P.loc ?_ ⟨os, S.on N'⟩ ?_ ?_
    · intro x i hx
      rw [hci] at hx
      cases hx
    · intro sv o' as' v s' m' k' x' F2 S2 q2 t2
      obtain ⟨os2, S2⟩ := S2
      exact leaveK_ F2 S2.led (fun F3 N3 => hQ _ _ _ _ _ k' x' F3 ⟨_, S2.on N3⟩ q2 (Same.mk'.trans t2))
    · intro loc' o' as' s' m' k' x' F2 H2 S2 t2
      obtain ⟨os2, S2⟩ := S2
      exact leaveK_ F2 S2.led (fun F3 N3 => hQ _ _ _ _ _ k' x' F3 ⟨_, S2.on N3⟩ .N (Same.mk'.trans t2))
noncomputable abbrev bodyOf (w : World) (f : Addr) : List Stmt := bodyIn (KK w) f
noncomputable abbrev scopeOf (w : World) (f : Addr) : Scope := scopeIn (KK w) f
noncomputable def globs : List (Str × Value) := [(Str.ofString "root_floor", .ref 53), (Str.ofString "nearest_root_share", .ref 60), (Str.ofString "nearest_share", .ref 67), (Str.ofString "way_of", .ref 74), (Str.ofString "moved_by", .ref 81), (Str.ofString "turned_about", .ref 88), (Str.ofString "square_of", .ref 95), (Str.ofString "normal_of", .ref 102), (Str.ofString "Corner", .ref 145), (Str.ofString "is_at_least_root", .ref 156), (Str.ofString "is_within_limit", .ref 163), (Str.ofString "tip_of", .ref 170), (Str.ofString "bevel_spots", .ref 177), (Str.ofString "miter_spots", .ref 184), (Str.ofString "join_spots", .ref 191), (Str.ofString "_law_take", .ref 205), (Str.ofString "_law_one", .ref 212), (Str.ofString "_law_root", .ref 219), (Str.ofString "_law_at_least", .ref 226), (Str.ofString "_law_near", .ref 233), (Str.ofString "_law_way", .ref 240), (Str.ofString "_law_crossing", .ref 245), (Str.ofString "_law_corner_right", .ref 250), (Str.ofString "int", .type "int")]
noncomputable def atts : List Str := [Str.ofString "spot", Str.ofString "first", Str.ofString "second", Str.ofString "half", Str.ofString "turn", Str.ofString "straight", Str.ofString "one", Str.ofString "other"]
noncomputable def mets : List (Str × Addr) := [(Str.ofString "is_straight", 135), (Str.ofString "squares", 142)]
noncomputable def cx (names : List (Str × NameKind)) (cidx : List (Str × Nat)) (specs : List (Addr × Spec)) : Cx := { names, cidx, glob := globs, gint := gints, cls := 145, att := atts, met := mets, cal := calOf specs }
theorem kfill (w : World) : PySem.Challenge.rw_xm0692_01 = PySem.Challenge.rw_xm0692_01 ∧ hd.heap_39 w.params = hd.heap_39 w.params := by
  k_fill
  exact ⟨rfl, rfl⟩
noncomputable abbrev GlOk (w : World) (y : Str × Value) : Prop := handedIn y.2 = true ∧ (∀ g, y.2 = .ref g → keepIn (KK w) y.2 = true) ∧ (nsIn (KK w) mainGlobals y.1 = some (some y.2) ∨ (nsIn (KK w) mainGlobals y.1 = some none ∧ bootBuiltins y.1 = some y.2 ∧ y.1 ≠ ("__name__" : Str)))
theorem gl_ref {w : World} {x : Str} {a : Addr} (h1 : keepIn (KK w) (.ref a) = true) (h2 : nsIn (KK w) mainGlobals x = some (some (.ref a))) : GlOk w (x, .ref a) := ⟨rfl, fun _ _ => h1, .inl h2⟩
theorem all_cons {α : Type} {P : α → Prop} {a : α} {l : List α} (h : P a) (h' : ∀ y ∈ l, P y) : ∀ y ∈ a :: l, P y := fun y hy => by
  rcases List.mem_cons.mp hy with rfl | hy
  · exact h
  · exact h' y hy
theorem all_nil {α : Type} {P : α → Prop} : ∀ y ∈ ([] : List α), P y := fun _ h => nomatch h
theorem g0_ (w : World) : keepIn (hd.heap_39 w.params) (.ref 53) = true := by k_is
theorem n0_ (w : World) : nsIn (hd.heap_39 w.params) mainGlobals (Str.ofString "root_floor") = some (some (.ref 53)) := by k_is
theorem g1_ (w : World) : keepIn (hd.heap_39 w.params) (.ref 60) = true := by k_is
theorem n1_ (w : World) : nsIn (hd.heap_39 w.params) mainGlobals (Str.ofString "nearest_root_share") = some (some (.ref 60)) := by k_is
theorem g2_ (w : World) : keepIn (hd.heap_39 w.params) (.ref 67) = true := by k_is
theorem n2_ (w : World) : nsIn (hd.heap_39 w.params) mainGlobals (Str.ofString "nearest_share") = some (some (.ref 67)) := by k_is
theorem g3_ (w : World) : keepIn (hd.heap_39 w.params) (.ref 74) = true := by k_is
theorem n3_ (w : World) : nsIn (hd.heap_39 w.params) mainGlobals (Str.ofString "way_of") = some (some (.ref 74)) := by k_is
theorem g4_ (w : World) : keepIn (hd.heap_39 w.params) (.ref 81) = true := by k_is
theorem n4_ (w : World) : nsIn (hd.heap_39 w.params) mainGlobals (Str.ofString "moved_by") = some (some (.ref 81)) := by k_is
theorem g5_ (w : World) : keepIn (hd.heap_39 w.params) (.ref 88) = true := by k_is
theorem n5_ (w : World) : nsIn (hd.heap_39 w.params) mainGlobals (Str.ofString "turned_about") = some (some (.ref 88)) := by k_is
theorem g6_ (w : World) : keepIn (hd.heap_39 w.params) (.ref 95) = true := by k_is
theorem n6_ (w : World) : nsIn (hd.heap_39 w.params) mainGlobals (Str.ofString "square_of") = some (some (.ref 95)) := by k_is
theorem g7_ (w : World) : keepIn (hd.heap_39 w.params) (.ref 102) = true := by k_is
theorem n7_ (w : World) : nsIn (hd.heap_39 w.params) mainGlobals (Str.ofString "normal_of") = some (some (.ref 102)) := by k_is
theorem g8_ (w : World) : keepIn (hd.heap_39 w.params) (.ref 145) = true := by k_is
theorem n8_ (w : World) : nsIn (hd.heap_39 w.params) mainGlobals (Str.ofString "Corner") = some (some (.ref 145)) := by k_is
theorem g9_ (w : World) : keepIn (hd.heap_39 w.params) (.ref 156) = true := by k_is
theorem n9_ (w : World) : nsIn (hd.heap_39 w.params) mainGlobals (Str.ofString "is_at_least_root") = some (some (.ref 156)) := by k_is
theorem g10_ (w : World) : keepIn (hd.heap_39 w.params) (.ref 163) = true := by k_is
theorem n10_ (w : World) : nsIn (hd.heap_39 w.params) mainGlobals (Str.ofString "is_within_limit") = some (some (.ref 163)) := by k_is
theorem g11_ (w : World) : keepIn (hd.heap_39 w.params) (.ref 170) = true := by k_is
theorem n11_ (w : World) : nsIn (hd.heap_39 w.params) mainGlobals (Str.ofString "tip_of") = some (some (.ref 170)) := by k_is
theorem g12_ (w : World) : keepIn (hd.heap_39 w.params) (.ref 177) = true := by k_is
theorem n12_ (w : World) : nsIn (hd.heap_39 w.params) mainGlobals (Str.ofString "bevel_spots") = some (some (.ref 177)) := by k_is
theorem g13_ (w : World) : keepIn (hd.heap_39 w.params) (.ref 184) = true := by k_is
theorem n13_ (w : World) : nsIn (hd.heap_39 w.params) mainGlobals (Str.ofString "miter_spots") = some (some (.ref 184)) := by k_is
theorem g14_ (w : World) : keepIn (hd.heap_39 w.params) (.ref 191) = true := by k_is
theorem n14_ (w : World) : nsIn (hd.heap_39 w.params) mainGlobals (Str.ofString "join_spots") = some (some (.ref 191)) := by k_is
theorem g15_ (w : World) : keepIn (hd.heap_39 w.params) (.ref 205) = true := by k_is
theorem n15_ (w : World) : nsIn (hd.heap_39 w.params) mainGlobals (Str.ofString "_law_take") = some (some (.ref 205)) := by k_is
theorem g16_ (w : World) : keepIn (hd.heap_39 w.params) (.ref 212) = true := by k_is
theorem n16_ (w : World) : nsIn (hd.heap_39 w.params) mainGlobals (Str.ofString "_law_one") = some (some (.ref 212)) := by k_is
theorem g17_ (w : World) : keepIn (hd.heap_39 w.params) (.ref 219) = true := by k_is
theorem n17_ (w : World) : nsIn (hd.heap_39 w.params) mainGlobals (Str.ofString "_law_root") = some (some (.ref 219)) := by k_is
theorem g18_ (w : World) : keepIn (hd.heap_39 w.params) (.ref 226) = true := by k_is
theorem n18_ (w : World) : nsIn (hd.heap_39 w.params) mainGlobals (Str.ofString "_law_at_least") = some (some (.ref 226)) := by k_is
theorem g19_ (w : World) : keepIn (hd.heap_39 w.params) (.ref 233) = true := by k_is
theorem n19_ (w : World) : nsIn (hd.heap_39 w.params) mainGlobals (Str.ofString "_law_near") = some (some (.ref 233)) := by k_is
theorem g20_ (w : World) : keepIn (hd.heap_39 w.params) (.ref 240) = true := by k_is
theorem n20_ (w : World) : nsIn (hd.heap_39 w.params) mainGlobals (Str.ofString "_law_way") = some (some (.ref 240)) := by k_is
theorem g21_ (w : World) : keepIn (hd.heap_39 w.params) (.ref 245) = true := by k_is
theorem n21_ (w : World) : nsIn (hd.heap_39 w.params) mainGlobals (Str.ofString "_law_crossing") = some (some (.ref 245)) := by k_is
theorem g22_ (w : World) : keepIn (hd.heap_39 w.params) (.ref 250) = true := by k_is
theorem n22_ (w : World) : nsIn (hd.heap_39 w.params) mainGlobals (Str.ofString "_law_corner_right") = some (some (.ref 250)) := by k_is
theorem n_int (w : World) : nsIn (hd.heap_39 w.params) mainGlobals (Str.ofString "int") = some none := by k_is
theorem b_int : bootBuiltins (Str.ofString "int") = some (.type "int") := by boot_fast
theorem tx_glob (w : World) : ∀ y ∈ globs, GlOk w y :=
  all_cons (gl_ref (g0_ w) (n0_ w)) (all_cons (gl_ref (g1_ w) (n1_ w)) (all_cons (gl_ref (g2_ w) (n2_ w)) (all_cons (gl_ref (g3_ w) (n3_ w)) (all_cons (gl_ref (g4_ w) (n4_ w)) (all_cons (gl_ref (g5_ w) (n5_ w)) (all_cons (gl_ref (g6_ w) (n6_ w)) (all_cons (gl_ref (g7_ w) (n7_ w)) (all_cons (gl_ref (g8_ w) (n8_ w)) (all_cons (gl_ref (g9_ w) (n9_ w)) (all_cons (gl_ref (g10_ w) (n10_ w)) (all_cons (gl_ref (g11_ w) (n11_ w)) (all_cons (gl_ref (g12_ w) (n12_ w)) (all_cons (gl_ref (g13_ w) (n13_ w)) (all_cons (gl_ref (g14_ w) (n14_ w)) (all_cons (gl_ref (g15_ w) (n15_ w)) (all_cons (gl_ref (g16_ w) (n16_ w)) (all_cons (gl_ref (g17_ w) (n17_ w)) (all_cons (gl_ref (g18_ w) (n18_ w)) (all_cons (gl_ref (g19_ w) (n19_ w)) (all_cons (gl_ref (g20_ w) (n20_ w)) (all_cons (gl_ref (g21_ w) (n21_ w)) (all_cons (gl_ref (g22_ w) (n22_ w)) (all_cons ⟨rfl, fun _ h => Value.noConfusion h, .inr ⟨n_int w, b_int, by decide⟩⟩ all_nil)))))))))))))))))))))))
noncomputable abbrev AtOk (w : World) (x : Str) : Prop := plainGet (KK w) 145 x = true ∧ (∃ attr, findIn (KK w) (.ref 145) x = some attr ∧ noGet (KK w) attr = true) ∧ takerIn (KK w) 145 x = some none
theorem a0_ (w : World) : plainGet (hd.heap_39 w.params) 145 (Str.ofString "spot") = true ∧ (∃ attr, findIn (hd.heap_39 w.params) (.ref 145) (Str.ofString "spot") = some attr ∧ noGet (hd.heap_39 w.params) attr = true) ∧ takerIn (hd.heap_39 w.params) 145 (Str.ofString "spot") = some none := ⟨by k_is, ⟨_, by k_is, by k_is⟩, by k_is⟩
theorem a1_ (w : World) : plainGet (hd.heap_39 w.params) 145 (Str.ofString "first") = true ∧ (∃ attr, findIn (hd.heap_39 w.params) (.ref 145) (Str.ofString "first") = some attr ∧ noGet (hd.heap_39 w.params) attr = true) ∧ takerIn (hd.heap_39 w.params) 145 (Str.ofString "first") = some none := ⟨by k_is, ⟨_, by k_is, by k_is⟩, by k_is⟩
theorem a2_ (w : World) : plainGet (hd.heap_39 w.params) 145 (Str.ofString "second") = true ∧ (∃ attr, findIn (hd.heap_39 w.params) (.ref 145) (Str.ofString "second") = some attr ∧ noGet (hd.heap_39 w.params) attr = true) ∧ takerIn (hd.heap_39 w.params) 145 (Str.ofString "second") = some none := ⟨by k_is, ⟨_, by k_is, by k_is⟩, by k_is⟩
theorem a3_ (w : World) : plainGet (hd.heap_39 w.params) 145 (Str.ofString "half") = true ∧ (∃ attr, findIn (hd.heap_39 w.params) (.ref 145) (Str.ofString "half") = some attr ∧ noGet (hd.heap_39 w.params) attr = true) ∧ takerIn (hd.heap_39 w.params) 145 (Str.ofString "half") = some none := ⟨by k_is, ⟨_, by k_is, by k_is⟩, by k_is⟩
theorem a4_ (w : World) : plainGet (hd.heap_39 w.params) 145 (Str.ofString "turn") = true ∧ (∃ attr, findIn (hd.heap_39 w.params) (.ref 145) (Str.ofString "turn") = some attr ∧ noGet (hd.heap_39 w.params) attr = true) ∧ takerIn (hd.heap_39 w.params) 145 (Str.ofString "turn") = some none := ⟨by k_is, ⟨_, by k_is, by k_is⟩, by k_is⟩
theorem a5_ (w : World) : plainGet (hd.heap_39 w.params) 145 (Str.ofString "straight") = true ∧ (∃ attr, findIn (hd.heap_39 w.params) (.ref 145) (Str.ofString "straight") = some attr ∧ noGet (hd.heap_39 w.params) attr = true) ∧ takerIn (hd.heap_39 w.params) 145 (Str.ofString "straight") = some none := ⟨by k_is, ⟨_, by k_is, by k_is⟩, by k_is⟩
theorem a6_ (w : World) : plainGet (hd.heap_39 w.params) 145 (Str.ofString "one") = true ∧ (∃ attr, findIn (hd.heap_39 w.params) (.ref 145) (Str.ofString "one") = some attr ∧ noGet (hd.heap_39 w.params) attr = true) ∧ takerIn (hd.heap_39 w.params) 145 (Str.ofString "one") = some none := ⟨by k_is, ⟨_, by k_is, by k_is⟩, by k_is⟩
theorem a7_ (w : World) : plainGet (hd.heap_39 w.params) 145 (Str.ofString "other") = true ∧ (∃ attr, findIn (hd.heap_39 w.params) (.ref 145) (Str.ofString "other") = some attr ∧ noGet (hd.heap_39 w.params) attr = true) ∧ takerIn (hd.heap_39 w.params) 145 (Str.ofString "other") = some none := ⟨by k_is, ⟨_, by k_is, by k_is⟩, by k_is⟩
theorem tx_att (w : World) : ∀ x ∈ atts, AtOk w x :=
  all_cons (a0_ w) (all_cons (a1_ w) (all_cons (a2_ w) (all_cons (a3_ w) (all_cons (a4_ w) (all_cons (a5_ w) (all_cons (a6_ w) (all_cons (a7_ w) (all_nil))))))))
noncomputable abbrev MeOk (w : World) (y : Str × Addr) : Prop := plainGet (KK w) 145 y.1 = true ∧ findIn (KK w) (.ref 145) y.1 = some (some (.ref y.2)) ∧ isFn (KK w) (.ref y.2) = true ∧ keepIn (KK w) (.ref y.2) = true
theorem m0_ (w : World) : plainGet (hd.heap_39 w.params) 145 (Str.ofString "is_straight") = true ∧ findIn (hd.heap_39 w.params) (.ref 145) (Str.ofString "is_straight") = some (some (.ref 135)) ∧ isFn (hd.heap_39 w.params) (.ref 135) = true ∧ keepIn (hd.heap_39 w.params) (.ref 135) = true := ⟨by k_is, by k_is, by k_is, by k_is⟩
theorem m1_ (w : World) : plainGet (hd.heap_39 w.params) 145 (Str.ofString "squares") = true ∧ findIn (hd.heap_39 w.params) (.ref 145) (Str.ofString "squares") = some (some (.ref 142)) ∧ isFn (hd.heap_39 w.params) (.ref 142) = true ∧ keepIn (hd.heap_39 w.params) (.ref 142) = true := ⟨by k_is, by k_is, by k_is, by k_is⟩
theorem tx_met (w : World) : ∀ x ∈ mets, MeOk w x :=
  all_cons (m0_ w) (all_cons (m1_ w) (all_nil))
theorem h_sa (w : World) : findIn (hd.heap_39 w.params) (.ref 145) (Str.ofString "__setattr__") = some (some (.builtin "object.__setattr__")) := by k_is
theorem h_po (w : World) : plainOver (hd.heap_39 w.params) 145 = true ∧ hasDictIn (hd.heap_39 w.params) 145 = true := ⟨by k_is, by k_is⟩
theorem contains_mem {l : List Str} {x : Str} (h : l.contains x = true) : x ∈ l := List.contains_iff_mem.mp h
theorem dbg_all {names : List (Str × NameKind)} (h : (names.all fun y => !(y.1 == ("__debug__" : Str))) = true) : ∀ x k, names.lookup x = some k → (x == ("__debug__" : Str)) = false := fun x k e => by
  have := List.all_eq_true.mp h _ (lookup_mem e)
  simpa using this
theorem tx_ok {w : World} {names : List (Str × NameKind)} {cidx : List (Str × Nat)} {specs : List (Addr × Spec)} (h : (names.all fun y => !(y.1 == ("__debug__" : Str))) = true) : Tx w (cx names cidx specs) where
  dbg := dbg_all h
  gl x v e := tx_glob w (x, v) (lookup_mem e)
  at_ x e := ⟨(tx_att w x (contains_mem e)).1, (tx_att w x (contains_mem e)).2.1⟩
  hd := (h_po w).2
  sa := h_sa w
  po := (h_po w).1
  tk x e := (tx_att w x (contains_mem e)).2.2
  me x g e := tx_met w (x, g) (lookup_mem e)
/-- one entry taken out of what is known -/
theorem StO.out {w : World} {h₀ : Heap} {L : Addr} {news : List (Addr × Obj)} {as : List Addr} {objs : List SO} {os : List Obj} {h : Heap} {i : Nat} {a : Addr} {o : Obj} (s : StO w h₀ L news as objs os h) (ea : as[i]? = some a) (eo : os[i]? = some o) :
    ∃ rest, News h₀ L h ((a, o) :: rest) ∧ (∀ p ∈ rest, p.1 ≠ a) ∧ (∀ (h' : Heap) o', News h₀ L h' ((a, o') :: rest) → News h₀ L h' (as.zip (os.set i o') ++ news)) ∧ ∀ p ∈ as.zip os ++ news, p.1 ≠ a → p ∈ rest := by
  obtain ⟨pre, post, h1, h2, h3, h4⟩ := zip_split2 s.nd ea eo
  refine ⟨pre ++ (post ++ news), fun p hp => s.led p ?_, fun p hp => ?_, fun h' o' N p hp => N p ?_, fun p hp hne => ?_⟩
  · rw [h1]
    simp only [List.mem_append, List.mem_cons] at hp ⊢
    rcases hp with hp | hp | hp | hp
    · exact .inl (.inr (.inl hp))
    · exact .inl (.inl hp)
    · exact .inl (.inr (.inr hp))
    · exact .inr hp
  · simp only [List.mem_append] at hp
    rcases hp with hp | hp | hp
    · exact h3 p hp
    · exact h4 p hp
    · exact fun q => s.off p hp (q ▸ List.mem_of_getElem? ea)
  · rw [h2] at hp
    simp only [List.mem_append, List.mem_cons] at hp ⊢
    rcases hp with (hp | hp | hp) | hp
    · exact .inr (.inl hp)
    · exact .inl hp
    · exact .inr (.inr (.inl hp))
    · exact .inr (.inr (.inr hp))
  · rw [h1] at hp
    simp only [List.mem_append, List.mem_cons] at hp ⊢
    rcases hp with (hp | hp | hp) | hp
    · exact .inl hp
    · rw [hp] at hne; exact absurd rfl hne
    · exact .inr (.inl hp)
    · exact .inr (.inr hp)
noncomputable def spTake : Spec := fun svs o KR => match svs with
  | [.R i, .I top _] => (match o[i]?, decide (0 < top ∧ top < 2 ^ 31) with
      | some (.src _), true => ∀ v, 0 ≤ v → v < top → KR (.I v 31) o
      | _, _ => False)
  | _ => False
theorem set_same {α : Type} : ∀ {l : List α} {i : Nat} {x : α}, l[i]? = some x → l.set i x = l
  | _ :: _, 0, _, e => by cases e; rfl
  | y :: r, i + 1, x, e => by
    show y :: r.set i x = y :: r
    rw [set_same (l := r) (i := i) e]
theorem sp_take (w : World) : SpOk w 2 16 205 spTake := by
  intro mean mg mb dp un gd cn cs L a ccd cl outer A₀ base h₀ m s Q E news as svs o KR vs hG B F X T hk hd' hu S q k hQ
  unfold spTake at k
  split at k
  · rename_i i top kk
    split at k
    · rename_i bs0 hs hd2
      have hd3 := of_decide_eq_true hd2
      cases q with
      | cons q1 q =>
        cases q with
        | cons q2 q =>
          cases q
          cases q1
          cases q2
          rename_i ea _ _
          obtain ⟨os, S⟩ := S
          obtain ⟨ob, eo, q, hm⟩ := S.get ea hs
          cases q with
          | src ha hb hb2 =>
            obtain ⟨rest, N, hne, back, -⟩ := S.out ea eo
            refine c_take dp un gd cn cs a ccd cl outer A₀ base h₀ L m s Q E B F X N T hk ⟨ha, hb, hb2, hd3.1, hd3.2, hne⟩ hd' hu ?_
            intro v a' b' t ta' tb' h' tk' hv hv2 ha' hb' hb2' F' N'
            have S' := S.set (back h' _ N') (x := .src bs0) (.src ha' hb' hb2')
            rw [set_same hs] at S'
            exact hQ _ _ _ _ _ (k v hv hv2) Ext.refl F' ⟨_, S'⟩ (.I (by unfold Bd; omega)) Same.mk'
    · cases k
  · cases k
/-- the ints of a list that holds ints alone, and a bound of their bits -/
noncomputable def ints? : List SV → Option (List Int × Nat)
  | [] => some ([], 0)
  | .I x k :: r => (match ints? r with | some p => some (x :: p.1, k + p.2) | none => none)
  | _ => none
noncomputable def eachOf (KR : SV → List SO → Prop) (o : List SO) : List SV → Prop
  | [] => True
  | v :: r => KR v o ∧ eachOf KR o r
noncomputable def spOne : Spec := fun svs o KR => match svs with
  | [.R i, .R j] => (match o[i]?, o[j]? with
      | some (.src _), some (.lst vs) => (match vs, Nat.ble vs.length 1000 with
          | _ :: _, true => (match ints? vs with
              | some p => ∀ x ∈ p.1, KR (.I x p.2) o
              | none => eachOf KR o vs)
          | _, _ => False)
      | _, _ => False)
  | _ => False
theorem VsAre.mem {as : List Addr} : ∀ {xs : List SV} {vs : List Value} {v : Value}, VsAre as xs vs → v ∈ vs → ∃ x ∈ xs, VIs as x v
  | _, _, _, .nil, h => nomatch h
  | _, _, _, .cons a r, h => by
    rcases List.mem_cons.mp h with rfl | h
    · exact ⟨_, .head _, a⟩
    · obtain ⟨x, hx, q⟩ := r.mem h
      exact ⟨x, .tail _ hx, q⟩
theorem ints_mem {as : List Addr} : ∀ {xs : List SV} {vs : List Value} {v : Value} {p : List Int × Nat}, ints? xs = some p → VsAre as xs vs → v ∈ vs → ∃ x ∈ p.1, VIs as (.I x p.2) v
  | [], _, _, _, _, .nil, h => nomatch h
  | u :: r, _, _, _, hp, .cons a q, h => by
    cases u with
    | I x k =>
      have hp' : (match ints? r with | some p => some (x :: p.1, k + p.2) | none => none) = some _ := hp
      cases hr : ints? r with
      | none => rw [hr] at hp'; cases hp'
      | some p' =>
        rw [hr] at hp'
        cases hp'
        rcases List.mem_cons.mp h with rfl | h
        · cases a with
          | I b => exact ⟨x, .head _, .I (b.up (Nat.le_add_right _ _))⟩
        · obtain ⟨y, hy, b⟩ := ints_mem hr q h
          refine ⟨y, .tail _ hy, ?_⟩
          cases b with
          | I b => exact .I (b.up (Nat.le_add_left _ _))
    | _ => cases hp
theorem each_mem {KR : SV → List SO → Prop} {o : List SO} {x : SV} {vs : List SV} (h : eachOf KR o vs) (hx : x ∈ vs) : KR x o := by
  induction hx with
  | head _ => exact h.1
  | tail _ _ ih => exact ih h.2
theorem sp_one (w : World) : SpOk w 4 32 212 spOne := by
  intro mean mg mb dp un gd cn cs L a ccd cl outer A₀ base h₀ m s Q E news as svs o KR vs hG B F X T hk hd' hu S q k hQ
  unfold spOne at k
  split at k
  · rename_i i j
    split at k
    · rename_i bs0 us hs hj
      split at k
      · rename_i u1 ur hl
        cases q with
        | cons q1 q =>
          cases q with
          | cons q2 q =>
            cases q
            cases q1
            cases q2
            rename_i ea1 _ ea2
            obtain ⟨os, S⟩ := S
            obtain ⟨ob, eo, q, hm⟩ := S.get ea1 hs
            obtain ⟨ob2, eo2, q2, hm2⟩ := S.get ea2 hj
            cases q with
            | src ha hb hb2 =>
              cases q2 with
              | lst q2 =>
                obtain ⟨rest, N, hne, back, into⟩ := S.out ea1 eo
                rename_i a1 a2 _ _ _ _ _ vs2 n2
                have hlt : i < as.length := (List.getElem?_eq_some_iff.mp ea1).1
                have hij : a2 ≠ a1 := fun e => by
                  have := (List.getElem?_inj hlt S.nd).mp (ea1.trans (e ▸ ea2).symm)
                  subst this
                  rw [hs] at hj
                  cases hj
                have hin := into _ hm2 hij
                have N2 : News h₀ L s.heap ((a1, listOf _ _) :: (a2, listOf vs2.toArray n2) :: rest) := fun p hp => by
                  rcases List.mem_cons.mp hp with rfl | hp
                  · exact N _ (.head _)
                  · rcases List.mem_cons.mp hp with rfl | hp
                    · exact N _ (.tail _ hin)
                    · exact N _ (.tail _ hp)
                have hl2 := Nat.le_of_ble_eq_true hl
                have hlen := q2.len
                refine c_one dp un gd cn cs a ccd cl outer A₀ base h₀ L m s Q E B F X N2 T hk ⟨ha, hb, hb2, ?_, ?_, ?_⟩ hd' hu ?_
                · rw [← hlen]; exact Nat.succ_pos _
                · rw [← hlen]; exact Nat.lt_of_le_of_lt hl2 (by decide)
                · intro p hp
                  rcases List.mem_cons.mp hp with rfl | hp
                  · exact hij
                  · exact hne p hp
                intro v a' b' ta' tb' h' tk' hv ha' hb' hb2' F' N'
                have S' := S.set (back h' _ (fun p hp => by
                  rcases List.mem_cons.mp hp with rfl | hp
                  · exact N' _ (.head _)
                  · exact N' _ (.tail _ (.tail _ hp)))) (x := .src bs0) (.src ha' hb' hb2')
                rw [set_same hs] at S'
                split at k
                · rename_i hp
                  obtain ⟨x, hx, qv⟩ := ints_mem hp q2 hv
                  exact hQ _ _ _ _ _ (k x hx) Ext.refl F' ⟨_, S'⟩ qv Same.mk'
                · obtain ⟨sv, hsv, qv⟩ := q2.mem hv
                  exact hQ _ _ _ _ _ (each_mem k hsv) Ext.refl F' ⟨_, S'⟩ qv Same.mk'
      · cases k
    · cases k
  · cases k
noncomputable def spI1 (pre : Int → Prop) (g : Int → Int) (b : Nat) : Spec := fun svs o KR => match svs with
  | [.I n _] => pre n ∧ KR (.I (g n) b) o
  | _ => False
noncomputable def spI2 (pre : Int → Int → Prop) (g : Int → Int → Int) (bits : Nat → Nat → Nat) : Spec := fun svs o KR => match svs with
  | [.I x k, .I y l] => pre x y ∧ KR (.I (g x y) (bits k l)) o
  | _ => False
noncomputable def spB3 (pre : Int → Int → Int → Prop) (g : Int → Int → Int → Bool) : Spec := fun svs o KR => match svs with
  | [.I x _, .I y _, .I z _] => pre x y z ∧ KR (.B (g x y z)) o
  | _ => False
theorem sp_i1 {w : World} {f : Addr} {k b : Nat} {pre : Int → Prop} {g : Int → Int} (C : ∀ (mean : ExcName → Option Value) (mg mb : Str → Option Value) (news : List (Addr × Obj)) (n : Int) (t : Tok), Cl k w mean mg mb f news (pre n) [.int n t] (RetI news (g n))) (hb : ∀ n, pre n → Bd b (g n)) : SpOk w k (8 * k) f (spI1 pre g b) := by
  intro mean mg mb dp un gd cn cs L a ccd cl outer A₀ base h₀ m s Q E news as svs o KR vs hG B F X T hk hd' hu S q kk hQ
  unfold spI1 at kk
  split at kk
  · cases q with
    | cons q1 q =>
      cases q
      cases q1
      obtain ⟨os, S⟩ := S
      refine C mean mg mb _ _ _ dp un gd cn cs a ccd cl outer A₀ base h₀ L m s Q E B F X S.led T hk kk.1 hd' hu ?_
      intro t h' tk' F' N'
      exact hQ _ _ _ _ _ kk.2 Ext.refl F' ⟨os, S.on N'⟩ (.I (hb _ kk.1)) Same.mk'
  · cases kk
theorem sp_i2 {w : World} {f : Addr} {k : Nat} {bits : Nat → Nat → Nat} {pre : Int → Int → Prop} {g : Int → Int → Int} (C : ∀ (mean : ExcName → Option Value) (mg mb : Str → Option Value) (news : List (Addr × Obj)) (x y : Int) (t u : Tok), Cl k w mean mg mb f news (pre x y) [.int x t, .int y u] (RetI news (g x y))) (hb : ∀ x k y l, Bd k x → Bd l y → pre x y → Bd (bits k l) (g x y)) : SpOk w k (8 * k) f (spI2 pre g bits) := by
  intro mean mg mb dp un gd cn cs L a ccd cl outer A₀ base h₀ m s Q E news as svs o KR vs hG B F X T hk hd' hu S q kk hQ
  unfold spI2 at kk
  split at kk
  · cases q with
    | cons q1 q =>
      cases q with
      | cons q2 q =>
        cases q
        cases q1
        rename_i b1
        cases q2
        rename_i b2
        obtain ⟨os, S⟩ := S
        refine C mean mg mb _ _ _ _ _ dp un gd cn cs a ccd cl outer A₀ base h₀ L m s Q E B F X S.led T hk kk.1 hd' hu ?_
        intro t h' tk' F' N'
        exact hQ _ _ _ _ _ kk.2 Ext.refl F' ⟨os, S.on N'⟩ (.I (hb _ _ _ _ b1 b2 kk.1)) Same.mk'
  · cases kk
theorem sp_b3 {w : World} {f : Addr} {k : Nat} {pre : Int → Int → Int → Prop} {g : Int → Int → Int → Bool} (C : ∀ (mean : ExcName → Option Value) (mg mb : Str → Option Value) (news : List (Addr × Obj)) (x y z : Int) (t u v : Tok), Cl k w mean mg mb f news (pre x y z) [.int x t, .int y u, .int z v] (RetB news (g x y z))) : SpOk w k (8 * k) f (spB3 pre g) := by
  intro mean mg mb dp un gd cn cs L a ccd cl outer A₀ base h₀ m s Q E news as svs o KR vs hG B F X T hk hd' hu S q kk hQ
  unfold spB3 at kk
  split at kk
  · cases q with
    | cons q1 q =>
      cases q with
      | cons q2 q =>
        cases q with
        | cons q3 q =>
          cases q
          cases q1
          cases q2
          cases q3
          obtain ⟨os, S⟩ := S
          refine C mean mg mb _ _ _ _ _ _ _ dp un gd cn cs a ccd cl outer A₀ base h₀ L m s Q E B F X S.led T hk kk.1 hd' hu ?_
          intro h' tk' F' N'
          exact hQ _ _ _ _ _ kk.2 Ext.refl F' ⟨os, S.on N'⟩ .B Same.mk'
  · cases kk
/-! the sizes of what comes back -/
theorem near_abs {t b : Int} (hb : 0 < b) : (near t b).natAbs ≤ t.natAbs + 1 := by
  have key : ∀ {u : Int}, 0 ≤ u → 0 ≤ (2 * u + b).fdiv (2 * b) ∧ (2 * u + b).fdiv (2 * b) ≤ u + 1 := by
    intro u hu
    obtain ⟨f1, f2⟩ := fdiv_facts (a := 2 * u + b) (b := 2 * b) (by omega)
    have f0 := fdiv_nonneg (a := 2 * u + b) (b := 2 * b) (by omega) (by omega)
    generalize (2 * u + b).fdiv (2 * b) = q at *
    refine ⟨f0, ?_⟩
    apply Int.not_lt.mp
    intro h
    have h1 : (u + 2) * (2 * b) ≤ q * (2 * b) := Int.mul_le_mul_of_nonneg_right (by omega) (by omega)
    have h2 : (u + 2) * (2 * b) = 2 * (u * b) + 4 * b := by grind
    have h3 : u * 1 ≤ u * b := Int.mul_le_mul_of_nonneg_left (by omega) hu
    omega
  unfold near
  split
  · have := key (u := -t) (by omega)
    omega
  · have := key (u := t) (by omega)
    omega
theorem near_bd {t b : Int} {k : Nat} (hb : 0 < b) (h : Bd k t) : Bd (k + 1) (near t b) := by
  have := near_abs (t := t) hb
  unfold Bd at *
  rw [Nat.pow_succ]
  omega
theorem lnear_bd {t b : Int} {k : Nat} (hb : b ≠ 0) (h : Bd k t) : Bd (k + 1) (lnear t b) := by
  unfold lnear
  split
  · exact near_bd (by omega) (by rw [Int.zero_sub]; exact Bd.neg h)
  · exact near_bd (by omega) h
theorem isq_bd {n : Int} (h : 0 ≤ n ∧ n < 2 ^ 200) : Bd 101 (isq n) := by
  have := isq_bound h.1 h.2
  unfold Bd
  omega
noncomputable def spRoot : Spec := spI1 (fun n => 0 ≤ n ∧ n < 2 ^ 200) isq 101
theorem sp_root (w : World) : SpOk w 2 16 53 spRoot := sp_i1 (fun _ _ _ _ _ _ => c_root_floor) fun _ h => isq_bd h
noncomputable def spNear : Spec := spI2 (fun _ b => 0 < b ∧ b < 2 ^ 200) near fun k _ => k + 1
theorem sp_near (w : World) : SpOk w 2 16 67 spNear := sp_i2 (fun _ _ _ _ _ _ _ _ => c_nearest_share) fun _ _ _ _ h _ hp => near_bd hp.1 h
noncomputable def spLnear : Spec := spI2 (fun _ b => b ≠ 0 ∧ -(2 ^ 200) < b ∧ b < 2 ^ 200) lnear fun k _ => k + 1
theorem sp_lnear (w : World) : SpOk w 2 16 233 spLnear := sp_i2 (fun _ _ _ _ _ _ _ _ => c_law_near) fun _ _ _ _ h _ hp => lnear_bd hp.1 h
noncomputable def spAtl : Spec := spB3 (fun l f s => -(2 ^ 100) < l ∧ l < 2 ^ 100 ∧ -(2 ^ 100) < f ∧ f < 2 ^ 100 ∧ -(2 ^ 100) < s ∧ s < 2 ^ 100) atLeast
theorem sp_atl (w : World) : SpOk w 2 16 156 spAtl := sp_b3 fun _ _ _ _ _ _ _ _ _ _ => c_at_least
noncomputable def spLatl : Spec := spB3 (fun _ f s => -(2 ^ 30) < f ∧ f < 2 ^ 30 ∧ 0 ≤ s ∧ s < 2 ^ 100) atLeast
theorem sp_latl (w : World) : SpOk w 4 32 226 spLatl := sp_b3 fun _ _ _ _ _ _ _ _ _ _ => c_law_at_least
noncomputable def spNRoot : Spec := spI2 (fun t b => (-(2 ^ 60) < t ∧ t < 2 ^ 60 ∧ 0 < b ∧ b < 2 ^ 200) ∧ ∃ l : Int, 0 < l ∧ b = l * l) nearRoot fun k _ => k + 1
theorem sp_nroot (w : World) : SpOk w 4 32 60 spNRoot := sp_i2 (k := 4) (fun mean mg mb news x y t u => by
  intro dp un gd cn cs a ccd cl outer A₀ base h₀ L m s Q E B F X N T hk hp
  exact c_nearest_root_share dp un gd cn cs a ccd cl outer A₀ base h₀ L m s Q E B F X N T hk hp.1) fun x k y l h _ hp => by
  obtain ⟨l, h0, e⟩ := hp.2
  rw [e, nearRoot_near h0]
  exact near_bd h0 h
/-- a class of the text made: its dict, itself, its __init__ run -/
theorem SpOk.of_cls {w : World} {d u : Nat} {c f : Addr} {C : Cx} {specs : List (Addr × Spec)} {n : Nat} {body : List Stmt} {xs : List Str} {name qual : Str} {params : Arguments} {scope : Scope} {dV kV doc pm cdv ct oc : Value} {an od : Option Addr} {osl : Array (Option Value)}
    (hm : makesIn (KK w) c = true) (hi : findIn (KK w) (.ref c) "__init__" = some (some (.ref f))) (hf : isFn (KK w) (.ref f) = true)
    (ho : (KK w).lookup f = some ⟨oc, od, .func (fnOf name qual params body scope dV kV doc pm an cdv ct), osl⟩) (hcd : codeIn (KK w) cdv qual = true)
    (hbind : ∀ (s : Shared) (vs : List Value), vs.length = xs.length → BindsTo s (fnOf name qual params body scope dV kV doc pm an cdv ct) ⟨vs, []⟩ (xs.zip vs))
    (hloc : (xs.all fun x => scope.names.lookup x == some .local) = true) (hco : scope.isCoroutine = false) (hgen : scope.isGenerator = false) (hk' : scope.kind = .function) (hcell : (scope.names.all fun x => x.2 != .cell) = true)
    (hT : Tx w C) (hnm : C.names = scope.names) (hci : C.cidx = []) (hcal : C.cal = calOf specs) (hgi : C.gint = gints) (hsp : ∀ f Sp, specs.lookup f = some Sp → SpOk w d u f Sp) :
    SpOk w (d + 2) (u + 71) c (fun svs o KR => match Nat.beq xs.length (svs.length + 1) with | true => xS C n body (xs.zip (.R (o.length + 1) :: svs)).reverse (o ++ [.dic []] ++ [.inst c o.length]) (fun _ _ => False) (fun _ o' => KR (.R (o.length + 1)) o') | false => False) := by
  intro mean mg mb dp un gd cn cs L a ccd cl outer A₀ base h₀ m s Q E news as svs o KR vs hG B F X T hk hd' hu S q k hQ
  split at k
  case h_2 => cases k
  rename_i hl
  have hl := Nat.eq_of_beq_eq_true hl
  obtain ⟨os, S⟩ := S
  refine call_cls F X S.led hm hi hf ?_
  intro x dx h' F0 N0 l1 l2
  have S1 : StO w h₀ L news (as ++ [dx]) (o ++ [.dic []]) (os ++ [dictOf [] 0]) h' := S.push (fun p hp => N0 p (.tail _ hp)) l1 (.dic .nil)
  have hx1 : ∀ p ∈ (as ++ [dx]).zip (os ++ [dictOf [] 0]) ++ news, p.1 < x := fun p hp => by
    rw [zip_snoc S.len] at hp
    simp only [List.mem_append, List.mem_cons, List.not_mem_nil, or_false] at hp
    rcases hp with (hp | hp) | hp
    · exact Nat.lt_trans (l1 p (List.mem_append_left _ hp)) l2
    · rw [hp]; exact l2
    · exact Nat.lt_trans (l1 p (List.mem_append_right _ hp)) l2
  have ed : (as ++ [dx])[o.length]? = some dx := by
    rw [S.all.len, ← S.len, List.getElem?_append_right (Nat.le_refl _), Nat.sub_self]
    rfl
  have S2 : StO w h₀ L news (as ++ [dx] ++ [x]) (o ++ [.dic []] ++ [.inst c o.length]) (os ++ [dictOf [] 0] ++ [instObj c dx]) h' := S1.push (fun p hp => N0 p (by
    rw [zip_snoc S.len] at hp
    simp only [List.mem_append, List.mem_cons, List.not_mem_nil, or_false] at hp ⊢
    rcases hp with hp | (hp | hp) | hp
    · exact .inl hp
    · exact .inr (.inr (.inl hp))
    · exact .inr (.inl hp)
    · exact .inr (.inr (.inr hp)))) hx1 (.inst (Ext.one.at ed))
  have ex : (as ++ [dx] ++ [x])[o.length + 1]? = some x := by
    have e : o.length + 1 = (as ++ [dx]).length := by rw [List.length_append, S.all.len, ← S.len]; rfl
    rw [e, List.getElem?_append_right (Nat.le_refl _), Nat.sub_self]
    rfl
  have xt : Ext as (as ++ [dx] ++ [x]) := Ext.one.trans Ext.one
  have q2 : VsAre (as ++ [dx] ++ [x]) (.R (o.length + 1) :: svs) (.ref x :: vs) := .cons (.R ex) (q.mono xt)
  refine code_def B F0 X S2.led T rfl rfl hk ho hcd ?_ (hbind _ (.ref x :: vs) (by rw [List.length_cons, ← q.len]; exact hl.symm)) ?_ ?_ hco hgen hk' (fun x hx => by have := List.all_eq_true.mp hcell x hx; simpa using this)
  · rw [depth_under_make]
    show dp + 1 < recursionLimit
    omega
  · intro y hy
    have := (List.of_mem_zip hy).1
    have h2 := List.all_eq_true.mp hloc _ this
    simpa using h2
  · intro g L' h₁ FG F' N' B' X' T'
    have hU' : (((ktrTop dp un gd cn cs L a ccd cl outer).under (.builtin "type.__call__" { pos := Value.ref c :: vs })).deeper (envOf qual scope L' f cdv)).units + 64 < cLine := by
      rw [units_deeper, units_under_make]
      show un + 1 + 3 + 64 < cLine
      omega
    have hC : CxOk PySem.Challenge.rw_xm0692_01.row.prog w (((ktrTop dp un gd cn cs L a ccd cl outer).under (.builtin "type.__call__" { pos := Value.ref c :: vs })).deeper (envOf qual scope L' f cdv)) (KK w) g L' news (envX qual scope L' f cdv []) C mg := by
      refine ⟨fun x k hx => ⟨?_, hT.dbg x k hx⟩, hT.gl, hT.at_, hT.hd, (fun x q hq => gint_ok hG (hgi ▸ hq)), hT.sa, hT.po, hT.tk, ?_, hT.me, ?_⟩
      · rw [hnm] at hx; exact hx
      · rw [hnm]; rfl
      · rw [hcal]
        intro news' fv svs' o' KR' h' as' m' s' vs' Q' E' F2 S2 q2 hQ2
        unfold calOf at h'
        split at h'
        · split at h'
          · rename_i Sp hs
            exact hsp _ _ hs mean mg mb (dp + 1 + 1) (un + 1 + 3) _ qual scope L' f cdv [] (envX cn cs L a ccd cl :: outer) _ base g m' s' Q' E' news' as' svs' o' KR' vs' hG B' F2 X' T' hk' (by omega) (by omega) S2 q2 h' hQ2
          · cases h'
        · cases h'
    have P : Prs (as ++ [dx] ++ [x]) (xs.zip (.R (o.length + 1) :: svs)).reverse (xs.zip (.ref x :: vs)).reverse := (Prs.zip q2).rev
    refine xS_ok (E := _) (K := KK w) (news := news) (C := C) (cl := []) hk' X' (topRead_of T') hU' rfl (by passes_own) hC n _ _ _ _ _ _ k _ _ _ _ F' P.loc ?_ ⟨_, S2.on N'⟩ ?_ ?_
    · intro x i hx
      rw [hci] at hx
      cases hx
    · exact fun _ _ _ _ _ _ k' => absurd k' id
    · intro loc' o' as' s' m' k' x' F2 H2 S3 t2
      obtain ⟨os3, S3⟩ := S3
      refine leaveK_ F2 S3.led (fun F3 N3 => ⟨rfl, ?_⟩)
      exact hQ _ _ _ _ _ k' (xt.trans x') F3 ⟨_, S3.on N3⟩ (.R (x'.at ex)) (Same.mk'.trans t2)
theorem SpOk.up {w : World} {d u d' u' : Nat} {f : Addr} {Sp : Spec} (h : SpOk w d u f Sp) (h1 : Nat.ble d d' = true) (h2 : Nat.ble u u' = true) : SpOk w d' u' f Sp :=
  fun mean mg mb dp un gd cn cs L a ccd cl outer A₀ base h₀ m s Q E news as svs o KR vs hG B F X T hk hd' hu => h mean mg mb dp un gd cn cs L a ccd cl outer A₀ base h₀ m s Q E news as svs o KR vs hG B F X T hk (Nat.lt_of_le_of_lt (Nat.add_le_add_left (Nat.le_of_ble_eq_true h1) _) hd') (Nat.lt_of_le_of_lt (Nat.add_le_add_left (Nat.le_of_ble_eq_true h2) _) hu)
noncomputable def rsp (w : World) (f : Addr) (specs : List (Addr × Spec)) : Spec := fun svs o KR => match Nat.beq (parsIn (KK w) f).length svs.length with
  | true => xS (cx (scopeOf w f).names [] specs) 60 (bodyOf w f) ((parsIn (KK w) f).zip svs).reverse o KR fun _ o' => KR .N o'
  | false => False
noncomputable def csp (w : World) (c f : Addr) (specs : List (Addr × Spec)) : Spec := fun svs o KR => match Nat.beq (parsIn (KK w) f).length (svs.length + 1) with
  | true => xS (cx (scopeOf w f).names [] specs) 60 (bodyOf w f) ((parsIn (KK w) f).zip (.R (o.length + 1) :: svs)).reverse (o ++ [.dic []] ++ [.inst c o.length]) (fun _ _ => False) (fun _ o' => KR (.R (o.length + 1)) o')
  | false => False
theorem lens0 {α : Type} {P : List α → Prop} (h : P []) : ∀ l, l.length = 0 → P l
  | [], _ => h
theorem lens1 {α : Type} {P : List α → Prop} (h : ∀ a, P [a]) : ∀ l, l.length = 1 → P l
  | [a], _ => h a
theorem lens2 {α : Type} {P : List α → Prop} (h : ∀ a b, P [a, b]) : ∀ l, l.length = 2 → P l
  | [a, b], _ => h a b
theorem lens3 {α : Type} {P : List α → Prop} (h : ∀ a b c, P [a, b, c]) : ∀ l, l.length = 3 → P l
  | [a, b, c], _ => h a b c
theorem lens5 {α : Type} {P : List α → Prop} (h : ∀ a b c d e, P [a, b, c, d, e]) : ∀ l, l.length = 5 → P l
  | [a, b, c, d, e], _ => h a b c d e
theorem lens7 {α : Type} {P : List α → Prop} (h : ∀ a b c d e f g, P [a, b, c, d, e, f, g]) : ∀ l, l.length = 7 → P l
  | [a, b, c, d, e, f, g], _ => h a b c d e f g
theorem nospec {w : World} {d u : Nat} : ∀ f Sp, ([] : List (Addr × Spec)).lookup f = some Sp → SpOk w d u f Sp := fun _ _ h => nomatch h
theorem onespec {w : World} {d u : Nat} {g : Addr} {S : Spec} {r : List (Addr × Spec)} (h : SpOk w d u g S) (hr : ∀ f Sp, r.lookup f = some Sp → SpOk w d u f Sp) : ∀ f Sp, ((g, S) :: r).lookup f = some Sp → SpOk w d u f Sp := fun f Sp e => by
  rw [List.lookup_cons] at e
  cases hy : (f == g) with
  | true =>
    rw [hy] at e
    cases e
    rw [eq_of_beq hy]
    exact h
  | false =>
    rw [hy] at e
    exact hr f Sp e
theorem kfill4 (w : World) : PySem.Challenge.rw_xm0692_01 = PySem.Challenge.rw_xm0692_01 ∧ hd.heap_39 w.params = hd.heap_39 w.params := by
  k_fill
  exact ⟨rfl, rfl⟩
noncomputable abbrev s_way_s (w : World) : List (Addr × Spec) := []
theorem s_way (w : World) : SpOk w (0 + 1) (0 + 70) 74 (rsp w 74 (s_way_s w)) :=
  SpOk.of_body (d := 0) (u := 0) (body := bodyOf w 74) (C := cx (scopeOf w 74).names [] (s_way_s w)) (n := 60) (xs := parsIn (KK w) 74) (specs := s_way_s w) (by rfl) (by rfl) (fun s => lens2 (fun a b => BindsTo.of_eq rfl)) (by rfl) (by rfl) (by rfl) (by rfl) (by rfl) (tx_ok (by rfl)) rfl rfl rfl rfl (nospec)
noncomputable abbrev s_moved_s (w : World) : List (Addr × Spec) := []
theorem s_moved (w : World) : SpOk w (0 + 1) (0 + 70) 81 (rsp w 81 (s_moved_s w)) :=
  SpOk.of_body (d := 0) (u := 0) (body := bodyOf w 81) (C := cx (scopeOf w 81).names [] (s_moved_s w)) (n := 60) (xs := parsIn (KK w) 81) (specs := s_moved_s w) (by rfl) (by rfl) (fun s => lens2 (fun a b => BindsTo.of_eq rfl)) (by rfl) (by rfl) (by rfl) (by rfl) (by rfl) (tx_ok (by rfl)) rfl rfl rfl rfl (nospec)
noncomputable abbrev s_about_s (w : World) : List (Addr × Spec) := []
theorem s_about (w : World) : SpOk w (0 + 1) (0 + 70) 88 (rsp w 88 (s_about_s w)) :=
  SpOk.of_body (d := 0) (u := 0) (body := bodyOf w 88) (C := cx (scopeOf w 88).names [] (s_about_s w)) (n := 60) (xs := parsIn (KK w) 88) (specs := s_about_s w) (by rfl) (by rfl) (fun s => lens1 (fun a => BindsTo.of_eq rfl)) (by rfl) (by rfl) (by rfl) (by rfl) (by rfl) (tx_ok (by rfl)) rfl rfl rfl rfl (nospec)
noncomputable abbrev s_square_s (w : World) : List (Addr × Spec) := []
theorem s_square (w : World) : SpOk w (0 + 1) (0 + 70) 95 (rsp w 95 (s_square_s w)) :=
  SpOk.of_body (d := 0) (u := 0) (body := bodyOf w 95) (C := cx (scopeOf w 95).names [] (s_square_s w)) (n := 60) (xs := parsIn (KK w) 95) (specs := s_square_s w) (by rfl) (by rfl) (fun s => lens1 (fun a => BindsTo.of_eq rfl)) (by rfl) (by rfl) (by rfl) (by rfl) (by rfl) (tx_ok (by rfl)) rfl rfl rfl rfl (nospec)
noncomputable abbrev s_normal_s (w : World) : List (Addr × Spec) := [(74, rsp w 74 (s_way_s w)), (60, spNRoot)]
theorem s_normal (w : World) : SpOk w (4 + 1) (70 + 70) 102 (rsp w 102 (s_normal_s w)) :=
  SpOk.of_body (d := 4) (u := 70) (body := bodyOf w 102) (C := cx (scopeOf w 102).names [] (s_normal_s w)) (n := 60) (xs := parsIn (KK w) 102) (specs := s_normal_s w) (by rfl) (by rfl) (fun s => lens3 (fun a b c => BindsTo.of_eq rfl)) (by rfl) (by rfl) (by rfl) (by rfl) (by rfl) (tx_ok (by rfl)) rfl rfl rfl rfl (onespec (SpOk.up (s_way w) rfl rfl) (onespec (SpOk.up (sp_nroot w) rfl rfl) (nospec)))
noncomputable abbrev s_corner_s (w : World) : List (Addr × Spec) := [(74, rsp w 74 (s_way_s w)), (102, rsp w 102 (s_normal_s w)), (88, rsp w 88 (s_about_s w))]
theorem s_corner_m (w : World) : makesIn (hd.heap_39 w.params) 145 = true ∧ findIn (hd.heap_39 w.params) (.ref 145) "__init__" = some (some (.ref 128)) ∧ isFn (hd.heap_39 w.params) (.ref 128) = true := ⟨by k_is, by k_is, by k_is⟩
theorem s_corner (w : World) : SpOk w (5 + 2) (140 + 71) 145 (csp w 145 128 (s_corner_s w)) :=
  SpOk.of_cls (f := 128) (d := 5) (u := 140) (body := bodyOf w 128) (C := cx (scopeOf w 128).names [] (s_corner_s w)) (n := 60) (xs := parsIn (KK w) 128) (specs := s_corner_s w) (s_corner_m w).1 (s_corner_m w).2.1 (s_corner_m w).2.2 (by rfl) (by rfl) (fun s => lens5 (fun a b c d e => BindsTo.of_eq rfl)) (by rfl) (by rfl) (by rfl) (by rfl) (by rfl) (tx_ok (by rfl)) rfl rfl rfl rfl (onespec (SpOk.up (s_way w) rfl rfl) (onespec (SpOk.up (s_normal w) rfl rfl) (onespec (SpOk.up (s_about w) rfl rfl) (nospec))))
noncomputable abbrev s_straight_s (w : World) : List (Addr × Spec) := []
theorem s_straight (w : World) : SpOk w (0 + 1) (0 + 70) 135 (rsp w 135 (s_straight_s w)) :=
  SpOk.of_body (d := 0) (u := 0) (body := bodyOf w 135) (C := cx (scopeOf w 135).names [] (s_straight_s w)) (n := 60) (xs := parsIn (KK w) 135) (specs := s_straight_s w) (by rfl) (by rfl) (fun s => lens1 (fun a => BindsTo.of_eq rfl)) (by rfl) (by rfl) (by rfl) (by rfl) (by rfl) (tx_ok (by rfl)) rfl rfl rfl rfl (nospec)
noncomputable abbrev s_squares_s (w : World) : List (Addr × Spec) := []
theorem s_squares (w : World) : SpOk w (0 + 1) (0 + 70) 142 (rsp w 142 (s_squares_s w)) :=
  SpOk.of_body (d := 0) (u := 0) (body := bodyOf w 142) (C := cx (scopeOf w 142).names [] (s_squares_s w)) (n := 60) (xs := parsIn (KK w) 142) (specs := s_squares_s w) (by rfl) (by rfl) (fun s => lens1 (fun a => BindsTo.of_eq rfl)) (by rfl) (by rfl) (by rfl) (by rfl) (by rfl) (tx_ok (by rfl)) rfl rfl rfl rfl (nospec)
noncomputable abbrev s_within_s (w : World) : List (Addr × Spec) := [(142, rsp w 142 (s_squares_s w)), (156, spAtl)]
theorem s_within (w : World) : SpOk w (6 + 1) (140 + 70) 163 (rsp w 163 (s_within_s w)) :=
  SpOk.of_body (d := 6) (u := 140) (body := bodyOf w 163) (C := cx (scopeOf w 163).names [] (s_within_s w)) (n := 60) (xs := parsIn (KK w) 163) (specs := s_within_s w) (by rfl) (by rfl) (fun s => lens2 (fun a b => BindsTo.of_eq rfl)) (by rfl) (by rfl) (by rfl) (by rfl) (by rfl) (tx_ok (by rfl)) rfl rfl rfl rfl (onespec (SpOk.up (s_squares w) rfl rfl) (onespec (SpOk.up (sp_atl w) rfl rfl) (nospec)))
noncomputable abbrev s_tip_s (w : World) : List (Addr × Spec) := [(142, rsp w 142 (s_squares_s w)), (95, rsp w 95 (s_square_s w)), (81, rsp w 81 (s_moved_s w)), (53, spRoot), (67, spNear)]
theorem s_tip (w : World) : SpOk w (6 + 1) (140 + 70) 170 (rsp w 170 (s_tip_s w)) :=
  SpOk.of_body (d := 6) (u := 140) (body := bodyOf w 170) (C := cx (scopeOf w 170).names [] (s_tip_s w)) (n := 60) (xs := parsIn (KK w) 170) (specs := s_tip_s w) (by rfl) (by rfl) (fun s => lens1 (fun a => BindsTo.of_eq rfl)) (by rfl) (by rfl) (by rfl) (by rfl) (by rfl) (tx_ok (by rfl)) rfl rfl rfl rfl (onespec (SpOk.up (s_squares w) rfl rfl) (onespec (SpOk.up (s_square w) rfl rfl) (onespec (SpOk.up (s_moved w) rfl rfl) (onespec (SpOk.up (sp_root w) rfl rfl) (onespec (SpOk.up (sp_near w) rfl rfl) (nospec))))))
noncomputable abbrev s_bevel_s (w : World) : List (Addr × Spec) := [(81, rsp w 81 (s_moved_s w))]
theorem s_bevel (w : World) : SpOk w (1 + 1) (70 + 70) 177 (rsp w 177 (s_bevel_s w)) :=
  SpOk.of_body (d := 1) (u := 70) (body := bodyOf w 177) (C := cx (scopeOf w 177).names [] (s_bevel_s w)) (n := 60) (xs := parsIn (KK w) 177) (specs := s_bevel_s w) (by rfl) (by rfl) (fun s => lens1 (fun a => BindsTo.of_eq rfl)) (by rfl) (by rfl) (by rfl) (by rfl) (by rfl) (tx_ok (by rfl)) rfl rfl rfl rfl (onespec (SpOk.up (s_moved w) rfl rfl) (nospec))
noncomputable abbrev s_miter_s (w : World) : List (Addr × Spec) := [(81, rsp w 81 (s_moved_s w)), (170, rsp w 170 (s_tip_s w))]
theorem s_miter (w : World) : SpOk w (7 + 1) (210 + 70) 184 (rsp w 184 (s_miter_s w)) :=
  SpOk.of_body (d := 7) (u := 210) (body := bodyOf w 184) (C := cx (scopeOf w 184).names [] (s_miter_s w)) (n := 60) (xs := parsIn (KK w) 184) (specs := s_miter_s w) (by rfl) (by rfl) (fun s => lens1 (fun a => BindsTo.of_eq rfl)) (by rfl) (by rfl) (by rfl) (by rfl) (by rfl) (tx_ok (by rfl)) rfl rfl rfl rfl (onespec (SpOk.up (s_moved w) rfl rfl) (onespec (SpOk.up (s_tip w) rfl rfl) (nospec)))
noncomputable abbrev s_join_s (w : World) : List (Addr × Spec) := [(145, csp w 145 128 (s_corner_s w)), (135, rsp w 135 (s_straight_s w)), (163, rsp w 163 (s_within_s w)), (184, rsp w 184 (s_miter_s w)), (177, rsp w 177 (s_bevel_s w))]
theorem s_join (w : World) : SpOk w (8 + 1) (280 + 70) 191 (rsp w 191 (s_join_s w)) :=
  SpOk.of_body (d := 8) (u := 280) (body := bodyOf w 191) (C := cx (scopeOf w 191).names [] (s_join_s w)) (n := 60) (xs := parsIn (KK w) 191) (specs := s_join_s w) (by rfl) (by rfl) (fun s => lens7 (fun a b c d e f g => BindsTo.of_eq rfl)) (by rfl) (by rfl) (by rfl) (by rfl) (by rfl) (tx_ok (by rfl)) rfl rfl rfl rfl (onespec (SpOk.up (s_corner w) rfl rfl) (onespec (SpOk.up (s_straight w) rfl rfl) (onespec (SpOk.up (s_within w) rfl rfl) (onespec (SpOk.up (s_miter w) rfl rfl) (onespec (SpOk.up (s_bevel w) rfl rfl) (nospec))))))
noncomputable abbrev s_lway_s (w : World) : List (Addr × Spec) := [(212, spOne), (205, spTake)]
theorem s_lway (w : World) : SpOk w (4 + 1) (70 + 70) 240 (rsp w 240 (s_lway_s w)) :=
  SpOk.of_body (d := 4) (u := 70) (body := bodyOf w 240) (C := cx (scopeOf w 240).names [] (s_lway_s w)) (n := 60) (xs := parsIn (KK w) 240) (specs := s_lway_s w) (by rfl) (by rfl) (fun s => lens1 (fun a => BindsTo.of_eq rfl)) (by rfl) (by rfl) (by rfl) (by rfl) (by rfl) (tx_ok (by rfl)) rfl rfl rfl rfl (onespec (SpOk.up (sp_one w) rfl rfl) (onespec (SpOk.up (sp_take w) rfl rfl) (nospec)))
noncomputable def idxFrom (b : Nat) : List (Str × Addr) → List (Str × Nat)
  | [] => []
  | (n, _) :: r => (n, b) :: idxFrom (b + 1) r
noncomputable def cellIdx (names : List (Str × NameKind)) (b : Nat) : List (Str × Nat) := idxFrom b (cellsFrom 0 names [])
noncomputable def cellObjs (names : List (Str × NameKind)) : List SO := (cellsFrom 0 names []).map fun _ => .cel none
theorem idx_same : ∀ {b : Nat} {l l' : List (Str × Addr)}, l.map (·.1) = l'.map (·.1) → idxFrom b l = idxFrom b l'
  | _, [], [], _ => rfl
  | b, (n, _) :: r, (n', _) :: r', h => by
    injection h with h1 h2
    have h1' : n = n' := h1
    subst h1'
    show (n, b) :: idxFrom (b + 1) r = (n, b) :: idxFrom (b + 1) r'
    rw [idx_same h2]
theorem objs_same {l l' : List (Str × Addr)} (h : l.map (·.1) = l'.map (·.1)) : (l.map fun _ => SO.cel none) = l'.map fun _ => SO.cel none := by
  have e : ∀ l : List (Str × Addr), (l.map fun _ => SO.cel none) = (l.map (·.1)).map fun _ => SO.cel none := fun l => by rw [List.map_map]; rfl
  rw [e l, e l', h]
theorem cells_fst : ∀ (names : List (Str × NameKind)) (n n' : Nat) (acc acc' : List (Str × Addr)), acc.map (·.1) = acc'.map (·.1) → (cellsFrom n names acc).map (·.1) = (cellsFrom n' names acc').map (·.1)
  | [], _, _, _, _, h => h
  | (x, k) :: r, n, n', acc, acc', h => by
    unfold cellsFrom
    split
    · exact cells_fst r _ _ _ _ (by rw [List.map_cons, List.map_cons, h])
    · exact cells_fst r _ _ _ _ h
theorem cells_desc : ∀ (names : List (Str × NameKind)) (n lo : Nat) (acc : List (Str × Addr)), lo ≤ n → (acc.map (·.2)).Pairwise (fun (a b : Nat) => b < a) → (∀ p ∈ acc, @LT.lt Nat _ p.2 n ∧ @LE.le Nat _ lo p.2) →
    ((cellsFrom n names acc).map (·.2)).Pairwise (fun (a b : Nat) => b < a) ∧ ∀ p ∈ cellsFrom n names acc, @LE.le Nat _ lo p.2
  | [], _, _, _, _, h, h' => ⟨h, fun p hp => (h' p hp).2⟩
  | (x, k) :: r, n, lo, acc, hl, h, h' => by
    unfold cellsFrom
    split
    · refine cells_desc r (n + 1) lo ((x, n) :: acc) (Nat.le_succ_of_le hl) ?_ ?_
      · rw [List.map_cons, List.pairwise_cons]
        refine ⟨fun a ha => ?_, h⟩
        obtain ⟨p, hp, e⟩ := List.mem_map.mp ha
        rw [← e]
        exact (h' p hp).1
      · intro p hp
        rcases List.mem_cons.mp hp with rfl | hp
        · exact ⟨Nat.lt_succ_self _, hl⟩
        · exact ⟨Nat.lt_succ_of_lt (h' p hp).1, (h' p hp).2⟩
    · exact cells_desc r n lo acc hl h h'
theorem cells_addr {cm : Str → Option Value} {cs : List (Str × Addr)} {cells : List (Addr × Obj)} (h : CellsAre cm cs cells) : cells.map (·.1) = cs.map (·.2) := by
  induction h with
  | nil => rfl
  | cons _ _ ih => rw [List.map_cons, List.map_cons, ih]
theorem cells_ci {cm : Str → Option Value} {cs : List (Str × Addr)} {cells : List (Addr × Obj)} (h : CellsAre cm cs cells) : ∀ (as : List Addr) (x : Str) (i : Nat), (idxFrom as.length cs).lookup x = some i → ∃ c, cs.lookup x = some c ∧ (as ++ cells.map (·.1))[i]? = some c := by
  induction h with
  | nil => exact fun _ _ _ h => nomatch h
  | @cons n c o cs cells _ _ ih =>
    intro as x i hx
    have hx' : List.lookup x ((n, as.length) :: idxFrom (as.length + 1) cs) = some i := hx
    rw [List.lookup_cons] at hx'
    rw [List.lookup_cons]
    cases hy : (x == n) with
    | true =>
      rw [hy] at hx'
      cases hx'
      refine ⟨c, rfl, ?_⟩
      rw [List.getElem?_append_right (Nat.le_refl _), Nat.sub_self]
      rfl
    | false =>
      rw [hy] at hx'
      obtain ⟨c', h1, h2⟩ := ih (as ++ [c]) x i (by rw [List.length_append]; exact hx')
      refine ⟨c', h1, ?_⟩
      rw [List.append_assoc] at h2
      exact h2
theorem cells_objs {w : World} {cs : List (Str × Addr)} {cells : List (Addr × Obj)} (h : CellsAre (fun _ => none) cs cells) : ∀ {as as' : List Addr} {o : List SO} {os : List Obj}, Ext as as' → OsAre w as' o os → OsAre w as' (o ++ cs.map fun _ => .cel none) (os ++ cells.map (·.2)) := by
  induction h with
  | nil =>
    intro as as' o os e q
    rw [List.map_nil, List.map_nil, List.append_nil, List.append_nil]
    exact q
  | @cons n c ob cs cells hd _ ih =>
    intro as as' o os e q
    have := ih e (q.append (x := .cel none) (o := ob) (.cel0 hd))
    rw [List.append_assoc, List.append_assoc] at this
    exact this
theorem zip_pairs {α β : Type} : ∀ {l : List (α × β)}, (l.map (·.1)).zip (l.map (·.2)) = l
  | [] => rfl
  | (a, b) :: r => by
    show (a, b) :: (r.map (·.1)).zip (r.map (·.2)) = _
    rw [zip_pairs]
theorem zip_app {α β : Type} : ∀ {as : List α} {bs : List β} {cs : List α} {ds : List β}, as.length = bs.length → (as ++ cs).zip (bs ++ ds) = as.zip bs ++ cs.zip ds
  | [], [], _, _, _ => rfl
  | a :: as, b :: bs, cs, ds, h => by
    show (a, b) :: (as ++ cs).zip (bs ++ ds) = (a, b) :: (as.zip bs ++ cs.zip ds)
    rw [zip_app (Nat.succ.inj h)]
/-- the cells made, at the end of the objects -/
theorem StO.cells {w : World} {h₀ g h h' : Heap} {L L' : Addr} {news : List (Addr × Obj)} {as : List Addr} {o : List SO} {os : List Obj} {names : List (Str × NameKind)} {cells : List (Addr × Obj)} (S : StO w h₀ L news as o os h) (N : News g L' h' (cells ++ (as.zip os ++ news)))
    (Y : CellsAre (fun _ => none) (cellsFrom (L' + 1) names []) cells) (hl : ∀ p ∈ as.zip os ++ news, p.1 < L') : StO w g L' news (as ++ cells.map (·.1)) (o ++ cellObjs names) (os ++ cells.map (·.2)) h' := by
  obtain ⟨d1, d2⟩ := cells_desc names (L' + 1) (L' + 1) [] (Nat.le_refl _) .nil (fun _ h => nomatch h)
  rw [← cells_addr Y] at d1
  have d3 : ∀ a ∈ cells.map (·.1), @LT.lt Nat _ L' a := fun a ha => by
    rw [cells_addr Y] at ha
    obtain ⟨p, hp, e⟩ := List.mem_map.mp ha
    rw [← e]
    exact d2 p hp
  have xt : Ext as (as ++ cells.map (·.1)) := ⟨_, rfl⟩
  refine ⟨?_, ?_, ?_, ?_, ?_⟩
  · rw [show cellObjs names = (cellsFrom (L' + 1) names []).map fun _ => SO.cel none from objs_same (cells_fst names _ _ _ _ rfl)]
    exact cells_objs Y xt (S.all.mono xt)
  · rw [List.length_append, List.length_append, S.len, List.length_map, List.length_map]
  · rw [zip_app S.len, zip_pairs]
    intro p hp
    refine N p ?_
    simp only [List.mem_append] at hp ⊢
    rcases hp with (hp | hp) | hp
    · exact .inr (.inl hp)
    · exact .inl hp
    · exact .inr (.inr hp)
  · rw [List.nodup_append]
    have d4 : (cells.map (·.1)).Nodup := List.Pairwise.imp (S := fun (a b : Nat) => a ≠ b) (fun {a b} h e => Nat.lt_irrefl a (by rw [e] at h; exact absurd h (Nat.lt_irrefl b))) d1
    refine ⟨S.nd, d4, fun a ha b hb e => ?_⟩
    obtain ⟨ob, ho⟩ := zip_has S.len ha
    have h1 := hl _ (List.mem_append_left _ ho)
    have h2 := d3 b hb
    exact Nat.lt_irrefl _ (Nat.lt_trans h2 (e ▸ h1))
  · intro p hp hm
    rcases List.mem_append.mp hm with hm | hm
    · exact S.off p hp hm
    · exact Nat.lt_irrefl _ (Nat.lt_trans (hl _ (List.mem_append_right _ hp)) (d3 _ hm))
theorem bindC_none {κ : Str → Option NameKind} : ∀ (binds : List (Str × Value)), (∀ y ∈ binds, κ y.1 = some .local) → bindC κ binds (fun _ => none) = fun _ => none
  | [], _ => rfl
  | (n, v) :: r, h => by
    have h0 : κ n = some .local := h (n, v) (.head _)
    unfold bindC
    rw [if_pos h0]
    exact bindC_none r fun y hy => h y (.tail _ hy)
theorem bindL_is {κ : Str → Option NameKind} : ∀ (binds l : List (Str × Value)), (∀ y ∈ binds, κ y.1 = some .local) → bindL κ binds (fun y => l.lookup y) = fun y => (binds.reverse ++ l).lookup y
  | [], _, _ => rfl
  | (n, v) :: r, l, h => by
    have h0 : κ n = some .local := h (n, v) (.head _)
    unfold bindL
    rw [if_pos h0]
    have e : (fun y => if y = n then some v else l.lookup y) = fun y => ((n, v) :: l).lookup y := by
      funext y
      rw [List.lookup_cons]
      cases hy : (y == n) with
      | true => rw [if_pos (eq_of_beq hy)]
      | false => rw [if_neg (fun q => by rw [q, beq_self_eq_true] at hy; cases hy)]
    rw [e, bindL_is r ((n, v) :: l) fun y hy => h y (.tail _ hy), List.reverse_cons, List.append_assoc]
    rfl
/-- a def with cells, its body run -/
theorem SpOk.of_bodyC {w : World} {d u : Nat} {f : Addr} {C : Nat → Cx} {specs : List (Addr × Spec)} {n : Nat} {body : List Stmt} {xs : List Str} {name qual : Str} {params : Arguments} {scope : Scope} {dV kV doc pm cdv ct oc : Value} {an od : Option Addr} {osl : Array (Option Value)}
    (ho : (KK w).lookup f = some ⟨oc, od, .func (fnOf name qual params body scope dV kV doc pm an cdv ct), osl⟩) (hcd : codeIn (KK w) cdv qual = true)
    (hbind : ∀ (s : Shared) (vs : List Value), vs.length = xs.length → BindsTo s (fnOf name qual params body scope dV kV doc pm an cdv ct) ⟨vs, []⟩ (xs.zip vs))
    (hloc : (xs.all fun x => scope.names.lookup x == some .local) = true) (hco : scope.isCoroutine = false) (hgen : scope.isGenerator = false) (hk' : scope.kind = .function) (hnd : ((cellsFrom 0 scope.names []).map (·.1)).Nodup)
    (hT : ∀ b, Tx w (C b)) (hnm : ∀ b, (C b).names = scope.names) (hci : ∀ b, (C b).cidx = cellIdx scope.names b) (hcal : ∀ b, (C b).cal = calOf specs) (hgi : ∀ b, (C b).gint = gints) (hsp : ∀ f Sp, specs.lookup f = some Sp → SpOk w d u f Sp) :
    SpOk w (d + 1) (u + 70) f (fun svs o KR => match Nat.beq xs.length svs.length with | true => xS (C o.length) n body (xs.zip svs).reverse (o ++ cellObjs scope.names) KR (fun _ o' => KR .N o') | false => False) := by
  intro mean mg mb dp un gd cn cs L a ccd cl outer A₀ base h₀ m s Q E news as svs o KR vs hG B F X T hk hd' hu S q k hQ
  split at k
  case h_2 => cases k
  rename_i hl
  have hl := Nat.eq_of_beq_eq_true hl
  obtain ⟨os, S⟩ := S
  refine wpAny_call ?_
  have hloc' : ∀ y ∈ xs.zip vs, scope.names.lookup y.1 = some .local := fun y hy => by
    have := (List.of_mem_zip hy).1
    have h2 := List.all_eq_true.mp hloc _ this
    simpa using h2
  refine code_defC B F X S.led T rfl rfl hk ho hcd (Nat.lt_of_le_of_lt (Nat.le_add_right dp (d + 1)) hd') (hbind s vs (q.len.symm.trans hl.symm)) ?_ hnd ?_ hco hgen hk'
  · refine List.all_eq_true.mpr fun y hy => ?_
    rw [hloc' y hy]
    rfl
  · intro g L' h₁ tk cells FG F' N' Y B' X' T' hlt
    have eC : bindC (envOfC qual scope L' f cdv).kindOf (xs.zip vs) (fun _ => none) = fun _ => none := bindC_none _ hloc'
    rw [eC] at Y
    have eL : bindL (envOfC qual scope L' f cdv).kindOf (xs.zip vs) (fun _ => none) = fun y => (xs.zip vs).reverse.lookup y := by
      have := bindL_is (κ := (envOfC qual scope L' f cdv).kindOf) (xs.zip vs) [] hloc'
      rw [List.append_nil] at this
      exact this
    rw [eL] at F'
    have S1 := S.cells N' Y hlt
    have hU' : ((ktrTop dp un gd cn cs L a ccd cl outer).deeper (envOfC qual scope L' f cdv)).units + 64 < cLine := by
      rw [units_deeper]
      show un + 3 + 64 < cLine
      omega
    have hT' := hT o.length
    have hC : CxOk PySem.Challenge.rw_xm0692_01.row.prog w ((ktrTop dp un gd cn cs L a ccd cl outer).deeper (envOfC qual scope L' f cdv)) (KK w) g L' news (envX qual scope L' f cdv (cellsFrom (L' + 1) scope.names [])) (C o.length) mg := by
      refine ⟨fun x k hx => ⟨?_, hT'.dbg x k hx⟩, hT'.gl, hT'.at_, hT'.hd, (fun x q hq => gint_ok hG (hgi o.length ▸ hq)), hT'.sa, hT'.po, hT'.tk, ?_, hT'.me, ?_⟩
      · rw [hnm] at hx; exact hx
      · rw [hnm]; rfl
      · rw [hcal]
        intro news' fv svs' o' KR' h' as' m' s' vs' Q' E' F2 S2 q2 hQ2
        unfold calOf at h'
        split at h'
        · split at h'
          · rename_i Sp hs
            exact hsp _ _ hs mean mg mb (dp + 1) (un + 3) gd qual scope L' f cdv (cellsFrom (L' + 1) scope.names []) (envX cn cs L a ccd cl :: outer) _ base g m' s' Q' E' news' as' svs' o' KR' vs' hG B' F2 X' T' hk' (by omega) (by omega) S2 q2 h' hQ2
          · cases h'
        · cases h'
    have xt : Ext as (as ++ cells.map (·.1)) := ⟨_, rfl⟩
    have P : Prs (as ++ cells.map (·.1)) (xs.zip svs).reverse (xs.zip vs).reverse := (Prs.zip (q.mono xt)).rev
    refine xS_ok (E := _) (K := KK w) (news := news) (C := C o.length) (cl := cellsFrom (L' + 1) scope.names []) hk' X' (topRead_of T') hU' rfl (by passes_own) hC n _ _ _ _ _ _ k _ _ _ _ F' P.loc ?_ ⟨_, S1⟩ ?_ ?_
    · intro x i hx
      rw [hci] at hx
      have e : cellIdx scope.names o.length = idxFrom as.length (cellsFrom (L' + 1) scope.names []) := by
        rw [S.len, ← S.all.len]
        exact idx_same (cells_fst _ _ _ _ _ rfl)
      rw [e] at hx
      exact cells_ci Y as x i hx
    · intro sv o' as' v s' m' k' x' F2 S2 q2 t2
      obtain ⟨os2, S2⟩ := S2
      exact leaveK_ F2 S2.led (fun F3 N3 => hQ _ _ _ _ _ k' (xt.trans x') F3 ⟨_, S2.on N3⟩ q2 (Same.mk'.trans t2))
    · intro loc' o' as' s' m' k' x' F2 H2 S2 t2
      obtain ⟨os2, S2⟩ := S2
      exact leaveK_ F2 S2.led (fun F3 N3 => hQ _ _ _ _ _ k' (xt.trans x') F3 ⟨_, S2.on N3⟩ .N (Same.mk'.trans t2))
theorem kfill6 (w : World) : PySem.Challenge.rw_xm0692_01 = PySem.Challenge.rw_xm0692_01 ∧ hd.heap_39 w.params = hd.heap_39 w.params := by
  k_fill
  exact ⟨rfl, rfl⟩
noncomputable def ndB : List Str → Bool
  | [] => true
  | x :: r => !(r.contains x) && ndB r
theorem nd_ok {l : List Str} (h : ndB l = true) : l.Nodup := by
  induction l with
  | nil => exact List.nodup_nil
  | cons x r ih =>
    unfold ndB at h
    rw [Bool.and_eq_true] at h
    refine List.nodup_cons.mpr ⟨fun hm => ?_, ih h.2⟩
    have := List.contains_iff_mem.mpr hm
    rw [this] at h
    exact absurd h.1 (by decide)
noncomputable def rspC (w : World) (f : Addr) (specs : List (Addr × Spec)) : Spec := fun svs o KR => match Nat.beq (parsIn (KK w) f).length svs.length with
  | true => xS (cx (scopeOf w f).names (cellIdx (scopeOf w f).names o.length) specs) 60 (bodyOf w f) ((parsIn (KK w) f).zip svs).reverse (o ++ cellObjs (scopeOf w f).names) KR (fun _ o' => KR .N o')
  | false => False
/-- the bits to come told anew -/
noncomputable def orSp (Sp : Spec) : Spec := fun svs o KR => match o with
  | .src _ :: r => ∃ bs, Sp svs (.src bs :: r) KR
  | _ => False
theorem SpOk.or {w : World} {d u : Nat} {f : Addr} {Sp : Spec} (h : SpOk w d u f Sp) : SpOk w d u f (orSp Sp) := by
  intro mean mg mb dp un gd cn cs L a ccd cl outer A₀ base h₀ m s Q E news as svs o KR vs hG B F X T hk hd' hu S q k hQ
  unfold orSp at k
  split at k
  · obtain ⟨bs, k⟩ := k
    exact h mean mg mb dp un gd cn cs L a ccd cl outer A₀ base h₀ m s Q E news as svs _ KR vs hG B F X T hk hd' hu S.orc q k hQ
  · cases k
theorem s_cross (w : World) : SpOk w (0 + 1) (0 + 70) 245 (rspC w 245 []) :=
  SpOk.of_bodyC (d := 0) (u := 0) (body := bodyOf w 245) (C := fun b => cx (scopeOf w 245).names (cellIdx (scopeOf w 245).names b) []) (n := 60) (xs := parsIn (KK w) 245) (specs := []) (by rfl) (by rfl) (fun s => lens2 (fun a b => BindsTo.of_eq rfl)) (by rfl) (by rfl) (by rfl) (by rfl) (nd_ok (by rfl)) (fun b => tx_ok (by rfl)) (fun b => rfl) (fun b => rfl) (fun b => rfl) (fun b => rfl) nospec
/-- ints, their bits told anew -/
noncomputable def reBd : List SV → List SV → Prop
  | [], [] => True
  | .I x _ :: r, .I y l :: r' => x = y ∧ Bd l x ∧ reBd r r'
  | _, _ => False
theorem reBd_any {as as' : List Addr} {svs : List SV} {vs : List Value} (q : VsAre as svs vs) : ∀ {ss : List SV}, reBd svs ss → VsAre as' ss vs := by
  induction q with
  | nil =>
    intro ss h
    cases ss with
    | nil => exact .nil
    | cons _ _ => cases h
  | cons a _ ih =>
    intro ss h
    cases a with
    | I b =>
      cases ss with
      | nil => cases h
      | cons s r =>
        cases s with
        | I y l =>
          obtain ⟨h1, h2, h3⟩ := h
          subst h1
          exact .cons (.I h2) (ih h3)
        | _ => cases h
    | _ => cases h
/-- a call's end, all but its answer and the source hidden -/
noncomputable def hidK (r : List SO) (KR : SV → List SO → Prop) (v : SV) (o' : List SO) : Prop := match o' with
  | .src _ :: _ => (match v with
      | .B b => KR (.B b) (.src [] :: r)
      | .R i => (match o'[i]? with
          | some (.tup vs) => ∃ ss, reBd vs ss ∧ KR (.R (r.length + 1)) (.src [] :: (r ++ [.tup ss]))
          | _ => False)
      | _ => False)
  | _ => False
/-- a call of a def that is handed the source alone -/
noncomputable def hidSp (Sp : Spec) : Spec := fun svs o KR => match svs, o with
  | [.R 0], .src _ :: r => Sp [.R 0] [.src []] (hidK r KR)
  | _, _ => False
theorem SpOk.hid {w : World} {d u : Nat} {f : Addr} {Sp : Spec} (h : SpOk w d u f Sp) : SpOk w d u f (hidSp Sp) := by
  intro mean mg mb dp un gd cn cs L a ccd cl outer A₀ base h₀ m s Q E news as svs o KR vs hG B F X T hk hd' hu S q k hQ
  unfold hidSp at k
  split at k
  case h_2 => cases k
  rename_i bs r
  obtain ⟨os, S⟩ := S
  have hl := S.len
  have hall := S.all
  cases hall with
  | @cons _ o0 _ osr q0 qr =>
  cases as with
  | nil => cases hl
  | cons a0 asr =>
  have hl' : asr.length = osr.length := Nat.succ.inj hl
  cases q with
  | @cons _ v0 _ vr q1 q =>
  cases q
  cases q1
  rename_i ea
  cases ea
  have hnd := List.nodup_cons.mp S.nd
  have S1 : StO w h₀ L (asr.zip osr ++ news) [a0] [.src []] [o0] s.heap := by
    refine ⟨.cons ?_ .nil, rfl, fun p hp => S.led p ?_, List.nodup_cons.mpr ⟨List.not_mem_nil, List.nodup_nil⟩, fun p hp hm => ?_⟩
    · cases q0 with
      | src h1 h2 h3 => exact .src h1 h2 h3
    · rcases List.mem_cons.mp hp with rfl | hp
      · exact List.mem_append_left _ (.head _)
      · have hp : p ∈ asr.zip osr ++ news := hp
        rcases List.mem_append.mp hp with hp | hp
        · exact List.mem_append_left _ (.tail _ hp)
        · exact List.mem_append_right _ hp
    · have e := List.mem_singleton.mp hm
      rcases List.mem_append.mp hp with hp | hp
      · exact hnd.1 (e ▸ zip_fst hp)
      · exact S.off p hp (e ▸ .head _)
  refine h mean mg mb dp un gd cn cs L a ccd cl outer A₀ base h₀ m s Q E _ [a0] _ _ _ _ hG B F X T hk hd' hu ⟨_, S1⟩ (.cons (.R rfl) .nil) k ?_
  intro sv o2 as2 v s2 k2 x2 F2 S2 q2 t2
  obtain ⟨os2, S2⟩ := S2
  obtain ⟨xs, rfl⟩ := x2
  unfold hidK at k2
  split at k2
  case h_2 => cases k2
  rename_i bs2 r2
  have hall2 := S2.all
  cases hall2 with
  | @cons _ o0' _ osr2 q0' qr2 =>
  have q0'' : ∀ as', OIs w as' (.src []) o0' := fun as' => by
    cases q0' with
    | src h1 h2 h3 => exact .src h1 h2 h3
  have led0 : ∀ p ∈ (a0, o0') :: (asr.zip osr ++ news), s2.heap.get? p.1 = some p.2 ∧ p.1 ≠ L ∧ h₀.get? p.1 = none := fun p hp => S2.led p (by
    rcases List.mem_cons.mp hp with rfl | hp
    · exact List.mem_append_left _ (.head _)
    · exact List.mem_append_right _ hp)
  split at k2
  · refine hQ _ _ _ _ _ k2 Ext.refl F2 ⟨o0' :: osr, ⟨.cons (q0'' _) qr, congrArg (· + 1) hl', fun p hp => led0 p hp, S.nd, S.off⟩⟩ ?_ t2
    cases q2
    exact .B
  · rename_i i
    split at k2
    case h_2 => cases k2
    rename_i vs hv
    obtain ⟨ss, hi, k2⟩ := k2
    cases q2
    rename_i ar er
    obtain ⟨ob, eo, qt, hm⟩ := S2.get er hv
    have hi0 : i ≠ 0 := fun e => by subst e; cases hv
    have har : ar ∉ a0 :: asr := fun hm' => by
      rcases List.mem_cons.mp hm' with e | hm'
      · subst e
        have hlt : i < ([ar] ++ xs).length := (List.getElem?_eq_some_iff.mp er).1
        exact hi0 ((List.getElem?_inj hlt S2.nd).mp (er.trans (by rfl)))
      · obtain ⟨b, hb⟩ := zip_has hl' hm'
        exact S2.off _ (List.mem_append_left _ hb) (List.mem_of_getElem? er)
    have har2 : ∀ p ∈ news, p.1 ≠ ar := fun p hp e => S2.off p (List.mem_append_right _ hp) (e ▸ List.mem_of_getElem? er)
    have xt : Ext (a0 :: asr) ((a0 :: asr) ++ [ar]) := ⟨_, rfl⟩
    have qn : OIs w ((a0 :: asr) ++ [ar]) (.tup ss) ob := by
      cases qt with
      | tup qt => exact .tup (reBd_any qt hi)
    refine hQ _ _ _ _ _ k2 xt F2 ⟨(o0' :: osr) ++ [ob], ⟨?_, ?_, fun p hp => ?_, ?_, fun p hp hm => ?_⟩⟩ (.R ?_) t2
    · exact OsAre.append (.cons (q0'' _) (qr.mono xt)) qn
    · rw [List.length_append, List.length_append]; exact congrArg (· + 1) (congrArg (· + 1) hl')
    · rw [zip_snoc (congrArg (· + 1) hl')] at hp
      rcases List.mem_append.mp hp with hp | hp
      · rcases List.mem_append.mp hp with hp | hp
        · rcases List.mem_cons.mp hp with rfl | hp
          · exact led0 _ (.head _)
          · exact led0 _ (.tail _ (List.mem_append_left _ hp))
        · rw [List.mem_singleton.mp hp]
          exact S2.led _ hm
      · exact led0 _ (.tail _ (List.mem_append_right _ hp))
    · rw [List.nodup_append]
      exact ⟨S.nd, List.nodup_cons.mpr ⟨List.not_mem_nil, List.nodup_nil⟩, fun b hb c hc e => har (List.mem_singleton.mp hc ▸ e ▸ hb)⟩
    · rcases List.mem_append.mp hm with hm | hm
      · exact S.off p hp hm
      · exact har2 p hp (List.mem_singleton.mp hm)
    · have hlr : (a0 :: asr).length = r.length + 1 := congrArg (· + 1) (hl'.trans qr.len.symm)
      rw [List.getElem?_append_right (by rw [hlr]; exact Nat.le_refl _), hlr, Nat.sub_self]
      rfl
  · cases k2
theorem kfill7 (w : World) : PySem.Challenge.rw_xm0692_01 = PySem.Challenge.rw_xm0692_01 ∧ hd.heap_39 w.params = hd.heap_39 w.params := by
  k_fill
  exact ⟨rfl, rfl⟩
/-- one of the five sorts of a way: what is asked of its end -/
noncomputable def wayP (r : List SO) (KR : SV → List SO → Prop) (x y z : Int) (i j k : Nat) : Prop := ∀ v : Int, 0 ≤ v → v < 4 → ∀ a ∈ ([1, -1] : List Int), ∀ b ∈ ([1, -1] : List Int),
  ∃ ss, reBd [.I (a * (1 + v) * x) i, .I (b * (1 + v) * y) j, .I ((1 + v) * z) k] ss ∧ KR (.R (r.length + 1)) (.src [] :: (r ++ [.tup ss]))
theorem way_vc (w : World) {r : List SO} {KR : SV → List SO → Prop} (h : wayP r KR 3 4 5 37 38 36 ∧ wayP r KR 4 3 5 38 37 36 ∧ wayP r KR 1 0 1 36 36 34 ∧ wayP r KR 0 1 1 36 36 34 ∧ wayP r KR 5 12 13 38 39 37 ∧ True) :
    rsp w 240 (s_lway_s w) [.R 0] [.src []] (hidK r KR) := h
noncomputable def spWay : Spec := fun svs o KR => match svs, o with
  | [.R 0], .src _ :: r => ∀ x y l, WayOk x y l → KR (.R (r.length + 1)) (.src [] :: (r ++ [.tup [.I x 6, .I y 6, .I l 6]]))
  | _, _ => False
theorem sign_of {a : Int} (h : a ∈ ([1, -1] : List Int)) : a = 1 ∨ a = -1 := by
  rcases List.mem_cons.mp h with h | h
  · exact .inl h
  · exact .inr (List.mem_singleton.mp h)
theorem bd6 {x : Int} (h1 : -52 ≤ x) (h2 : x ≤ 52) : Bd 6 x := by unfold Bd; omega
theorem wayP_of {r : List SO} {KR : SV → List SO → Prop} {x y z : Int} {i j k : Nat} (h : ∀ x y l, WayOk x y l → KR (.R (r.length + 1)) (.src [] :: (r ++ [.tup [.I x 6, .I y 6, .I l 6]]))) (e : x * x + y * y = z * z) (h0 : 0 < z) (h1 : z ≤ 13) (hx : 0 ≤ x ∧ x ≤ 13) (hy : 0 ≤ y ∧ y ≤ 13) : wayP r KR x y z i j k := by
  intro v v1 v2 a ha b hb
  have W := way_ok e v1 v2 (sign_of ha) (sign_of hb) h0 h1 hx hy
  exact ⟨[.I _ 6, .I _ 6, .I _ 6], ⟨rfl, bd6 W.x1 W.x2, rfl, bd6 W.y1 W.y2, rfl, bd6 (Int.le_trans (by decide) (Int.le_of_lt W.pos)) W.le, trivial⟩, h _ _ _ W⟩
theorem sp_way (w : World) : SpOk w (4 + 1) (70 + 70) 240 spWay := (SpOk.hid (s_lway w)).weak fun svs o KR k => by
  unfold spWay at k
  split at k
  · show rsp w 240 (s_lway_s w) [.R 0] [.src []] (hidK _ KR)
    exact way_vc w ⟨wayP_of k (by decide) (by decide) (by decide) (by decide) (by decide), wayP_of k (by decide) (by decide) (by decide) (by decide) (by decide), wayP_of k (by decide) (by decide) (by decide) (by decide) (by decide), wayP_of k (by decide) (by decide) (by decide) (by decide) (by decide), wayP_of k (by decide) (by decide) (by decide) (by decide) (by decide), trivial⟩
  · cases k
theorem kfill8 (w : World) : PySem.Challenge.rw_xm0692_01 = PySem.Challenge.rw_xm0692_01 ∧ hd.heap_39 w.params = hd.heap_39 w.params := by
  k_fill
  exact ⟨rfl, rfl⟩
noncomputable abbrev s_right_t (w : World) : List (Addr × Spec) := [(240, spWay), (205, spTake), (145, orSp (csp w 145 128 (s_corner_s w))), (191, rsp w 191 (s_join_s w)), (170, rsp w 170 (s_tip_s w)), (163, rsp w 163 (s_within_s w)), (233, spLnear), (245, rspC w 245 [])]
noncomputable abbrev cx250 (w : World) : Cx := cx (scopeOf w 250).names (cellIdx (scopeOf w 250).names 1) (s_right_t w)
noncomputable abbrev objs2 (fx fy l1 gx gy l2 hf top b sx sy : Int) : List SO := [.src [], .cel (some (.R 12)), .cel (some (.R 11)), .cel (some (.R 10)), .cel (some (.R 9)), .cel (some (.I hf 33)), .tup [.I fx 6, .I fy 6, .I l1 6], .tup [.I gx 6, .I gy 6, .I l2 6], .tup [.R 6, .R 7, .I hf 33],
  .tup [.I top 33, .I b 33], .tup [.I sx 37, .I sy 37], .tup [.I (sx - fx) 44, .I (sy - fy) 44], .tup [.I (sx + gx) 44, .I (sy + gy) 44], .tup [.R 11, .R 12]]
noncomputable abbrev loc2 : List (Str × SV) := [(Str.ofString "second", .R 7), (Str.ofString "first", .R 6), (Str.ofString "source", .R 0)]
noncomputable def nrC (t s : Int) : Prop := (-(2 ^ 60) < t ∧ t < 2 ^ 60 ∧ 0 < s ∧ s < 2 ^ 200) ∧ ∃ l : Int, 0 < l ∧ s = l * l
noncomputable def lnC (n : Int) : Prop := n ≠ 0 ∧ -(2 ^ 200) < n ∧ n < 2 ^ 200
noncomputable def atC (l f s : Int) : Prop := -(2 ^ 100) < l ∧ l < 2 ^ 100 ∧ -(2 ^ 100) < f ∧ f < 2 ^ 100 ∧ -(2 ^ 100) < s ∧ s < 2 ^ 100
section
variable (p q u v h top b : Int) (s t w : Bool)
noncomputable def dotI : Int := p * u + q * v
noncomputable def trnI : Int := p * v - q * u
noncomputable def sqI : Int := (p * p + q * q) * (u * u + v * v)
noncomputable def belI : Int := isq (sqI p q u v * S64 * S64) + dotI p q u v * S64
/-- a corner made -/
noncomputable def corC (K : Prop) : Prop := nrC (q * h) (p * p + q * q) ∧ nrC (-p * h) (p * p + q * q) ∧ nrC (v * h) (u * u + v * v) ∧ nrC (-u * h) (u * u + v * v) ∧ decide (trnI p q u v < 0) = s ∧ K
/-- its tip -/
noncomputable def tipC (K : Prop) : Prop := (0 ≤ sqI p q u v * S64 * S64 ∧ sqI p q u v * S64 * S64 < 2 ^ 200) ∧ decide (belI p q u v ≤ 0) = false ∧ (0 ≤ (p * p + q * q) * S64 * S64 ∧ (p * p + q * q) * S64 * S64 < 2 ^ 200) ∧ (0 ≤ (u * u + v * v) * S64 * S64 ∧ (u * u + v * v) * S64 * S64 < 2 ^ 200) ∧
  decide (trnI p q u v < 0) = s ∧ (0 < belI p q u v ∧ belI p q u v < 2 ^ 200) ∧ (0 < belI p q u v ∧ belI p q u v < 2 ^ 200) ∧ K
noncomputable def sgB (x : Int) : Int := match s with | true => -x | false => x
noncomputable def tipX : Int := near (sgB s h * (q * isq ((u * u + v * v) * S64 * S64) + v * isq ((p * p + q * q) * S64 * S64))) (belI p q u v)
noncomputable def tipY : Int := near (-sgB s h * (p * isq ((u * u + v * v) * S64 * S64) + u * isq ((p * p + q * q) * S64 * S64))) (belI p q u v)
/-- a join, up to its kind -/
noncomputable def joinC (k : Str) (m : Bool) (K : Prop) : Prop := corC p q u v h s ((trnI p q u v == 0) = false ∧ false = false ∧ (k == Str.ofString "round") = false ∧ (trnI p q u v == 0) = false ∧ (k == Str.ofString "miter") = m ∧ K)
noncomputable def atlI : Bool := atLeast (top * top * dotI p q u v) (2 * b * b - top * top) (sqI p q u v)
noncomputable def atlC (K : Prop) : Prop := atC (top * top * dotI p q u v) (2 * b * b - top * top) (sqI p q u v) ∧ K
/-- the kinds: a miter, a bevel -/
noncomputable def kindsC (K : Prop) : Prop := joinC p q u v h s (Str.ofString "miter") true (
  let K' := joinC p q u v h s (Str.ofString "bevel") false (false = false ∧ K)
  match t with
  | true => decide (top < 0) = true ∧ false = false ∧ false = false ∧ K'
  | false => decide (top < 0) = false ∧ atlC p q u v top b (atlI p q u v top b = w ∧ w = w ∧ (match w with
      | true => tipC p q u v s (false = false ∧ K')
      | false => K')))
end
noncomputable def spotD (x y : Int) : PyData := .tuple [.int x, .int y]
section
variable (fx fy l1 gx gy l2 σ : Int)
noncomputable def crX : Int := l1 * (0 - σ * gx) - l2 * (0 - σ * fx)
noncomputable def crY : Int := l2 * (σ * fy) - l1 * (σ * gy)
noncomputable def crT : Int := σ * fy * (0 - σ * gx) - (0 - σ * fx) * (σ * gy)
noncomputable def winI (top b : Int) : Bool := decide ((crX fx l1 gx l2 σ * crX fx l1 gx l2 σ + crY fy l1 gy l2 σ * crY fy l1 gy l2 σ) * b * b ≤ top * top * crT fx fy gx gy σ * crT fx fy gx gy σ)
end
/-- what the law says of a corner -/
noncomputable def pieceD (w : Bool) (s e t f : PyData) : PyData := match w with
  | true => .tuple [s, e, t, f]
  | false => .tuple [s, e, f]
noncomputable def caseC (p q u v fx fy l1 gx gy l2 σ h top b sx sy : Int) (s t w : Bool) (KR : Bool → Prop) : Prop :=
  corC p q u v h s (kindsC p q u v h top b s t w (
  (fx * gy - fy * gx == 0) = false ∧ decide (0 < fx * gy - fy * gx) = !s ∧ lnC (crT fx fy gx gy σ) ∧ lnC (crT fx fy gx gy σ) ∧ decide (0 ≤ top) = !t ∧
  tipC p q u v s ((!(PyData.eqv (spotD (sx + tipX p q u v h s) (sy + tipY p q u v h s)) (spotD (sx + lnear (h * crX fx l1 gx l2 σ) (crT fx fy gx gy σ)) (sy + lnear (h * crY fy l1 gy l2 σ) (crT fx fy gx gy σ))))) = false ∧
  (let K' := false = false ∧ decide (0 < fx * gy - fy * gx) = !s ∧ lnC l1 ∧ lnC l1 ∧ lnC l2 ∧ lnC l2 ∧ (match t with | true => false = false | false => winI fx fy l1 gx gy l2 σ top b = w) ∧
      KR (PyData.eqv
        (.list [pieceD (!t && w) (spotD sx sy) (spotD (sx + sgB s (nearRoot (q * h) (p * p + q * q))) (sy + sgB s (nearRoot (-p * h) (p * p + q * q)))) (spotD (sx + tipX p q u v h s) (sy + tipY p q u v h s)) (spotD (sx + sgB s (nearRoot (v * h) (u * u + v * v))) (sy + sgB s (nearRoot (-u * h) (u * u + v * v)))),
          pieceD false (spotD sx sy) (spotD (sx + sgB s (nearRoot (q * h) (p * p + q * q))) (sy + sgB s (nearRoot (-p * h) (p * p + q * q)))) (spotD 0 0) (spotD (sx + sgB s (nearRoot (v * h) (u * u + v * v))) (sy + sgB s (nearRoot (-u * h) (u * u + v * v))))])
        (.list [pieceD (!t && w) (spotD sx sy) (spotD (sx + lnear (σ * fy * h) l1) (sy + lnear (0 - σ * fx * h) l1)) (spotD (sx + lnear (h * crX fx l1 gx l2 σ) (crT fx fy gx gy σ)) (sy + lnear (h * crY fy l1 gy l2 σ) (crT fx fy gx gy σ))) (spotD (sx + lnear (σ * gy * h) l2) (sy + lnear (0 - σ * gx * h) l2)),
          pieceD false (spotD sx sy) (spotD (sx + lnear (σ * fy * h) l1) (sy + lnear (0 - σ * fx * h) l1)) (spotD 0 0) (spotD (sx + lnear (σ * gy * h) l2) (sy + lnear (0 - σ * gx * h) l2))]))
    match t with
    | true => decide (top < 0) = true ∧ (false != false) = false ∧ K'
    | false => decide (top < 0) = false ∧ atlC p q u v top b ((atlI p q u v top b != winI fx fy l1 gx gy l2 σ top b) = false ∧ K')))))
theorem ex_by {P : List Bool → Prop} {A : Prop} (bits : List Bool) (e : A = P bits) (k : A) : ∃ bs, P bs := ⟨bits, e ▸ k⟩
noncomputable def sgI (s : Bool) : Int := match s with | true => -1 | false => 1
noncomputable def zJ (p q u v : Int) (d : Bool) (k : Str) (K : Prop) : Prop := (trnI p q u v == 0) = true ∧ decide (0 < dotI p q u v) = d ∧ (match d with | true => K | false => (k == Str.ofString "round") = false ∧ (trnI p q u v == 0) = true ∧ K)
/-- the way goes straight on, or right back -/
noncomputable def zeroC (p q u v fx fy gx gy h : Int) (d : Bool) (K : Prop) : Prop :=
  corC p q u v h false (corC p q u v h false (zJ p q u v d (Str.ofString "miter") (corC p q u v h false (zJ p q u v d (Str.ofString "bevel") (
    (fx * gy - fy * gx == 0) = true ∧ PyData.eqv (.list [.tuple [], .tuple []]) (.list [.tuple [], .tuple []]) = true ∧ (!decide (fx * gx + fy * gy < 0)) = d ∧ (match d with
      | true => K
      | false => (0 ≤ sqI p q u v * S64 * S64 ∧ sqI p q u v * S64 * S64 < 2 ^ 200) ∧ decide (belI p q u v ≤ 0) = true ∧ K))))))
/-- what the eight cases ask; one of them -/
structure Pick8 (p q u v fx fy l1 gx gy l2 h top b sx sy : Int) (K : Bool → Prop) : Prop where
  z : ∀ d, d = decide (0 < dotI p q u v) → trnI p q u v = 0 → zeroC p q u v fx fy gx gy h d (K true)
  c : ∀ s t w, s = decide (trnI p q u v < 0) → t = decide (top < 0) → (w = (!t && atlI p q u v top b)) → trnI p q u v ≠ 0 → caseC p q u v fx fy l1 gx gy l2 (sgI s) h top b sx sy s t w K
theorem vcR (w : World) {r : List SO} {KR : SV → List SO → Prop}
    (k : ∀ fx fy l1, WayOk fx fy l1 → ∀ gx gy l2, WayOk gx gy l2 → ∀ h : Int, 0 ≤ h → h < 40 → ∀ a : Int, 0 ≤ a → a < 10 → ∀ c : Int, 0 ≤ c → c < 4 → ∀ b : Int, 0 ≤ b → b < 3 → ∀ x : Int, 0 ≤ x → x < 50 → ∀ y : Int, 0 ≤ y → y < 50 →
      Pick8 (x - 20 - (x - 20 - fx)) (y - 20 - (y - 20 - fy)) (x - 20 + gx - (x - 20)) (y - 20 + gy - (y - 20)) fx fy l1 gx gy l2 (1 + h) (a - if (c == 0) = true then 1 else 0) (1 + b) (x - 20) (y - 20) fun x => KR (.B x) (.src [] :: r)) :
    rspC w 250 (s_right_t w) [.R 0] [.src []] (hidK r KR) := by
  refine fun fx fy l1 W1 gx gy l2 W2 h h0 h1 a a0 a1 c c0 c1 b b0 b1 x x0 x1 y y0 y1 => ?_
  have k := k fx fy l1 W1 gx gy l2 W2 h h0 h1 a a0 a1 c c0 c1 b b0 b1 x x0 x1 y y0 y1
  conv => whnf
  by_cases ht : trnI (x - 20 - (x - 20 - fx)) (y - 20 - (y - 20 - fy)) (x - 20 + gx - (x - 20)) (y - 20 + gy - (y - 20)) = 0
  · have kz := fun d e => k.z d e ht
    clear k
    generalize hd : decide (0 < dotI (x - 20 - (x - 20 - fx)) (y - 20 - (y - 20 - fy)) (x - 20 + gx - (x - 20)) (y - 20 + gy - (y - 20))) = d at kz
    have kz := kz d rfl
    cases d
    · exact ex_by [false, false, true, false, false, true, false, true, false, false, true, true, true, false, true] (by kernel_rfl) kz
    · exact ex_by [false, false, true, true, false, true, true, true, true, true] (by kernel_rfl) kz
  · have kc := fun s t w e1 e2 e3 => k.c s t w e1 e2 e3 ht
    clear k
    generalize decide (trnI (x - 20 - (x - 20 - fx)) (y - 20 - (y - 20 - fy)) (x - 20 + gx - (x - 20)) (y - 20 + gy - (y - 20)) < 0) = s at kc
    generalize decide ((a - if (c == 0) = true then 1 else 0) < 0) = t at kc
    have kc := kc s t
    cases t
    · generalize (!false && atlI (x - 20 - (x - 20 - fx)) (y - 20 - (y - 20 - fy)) (x - 20 + gx - (x - 20)) (y - 20 + gy - (y - 20)) (a - if (c == 0) = true then 1 else 0) (1 + b)) = w' at kc
      have kc := kc w' rfl rfl rfl
      cases s <;> cases w'
      · exact ex_by [false, false, false, false, false, false, true, false, false, false, false, false, false, false, false, false, false, false, true, true, false, false, false, false, false, false, true, false] (by kernel_rfl) kc
      · exact ex_by [false, false, false, false, false, false, true, false, true, true, false, false, false, false, false, false, false, false, false, false, false, true, true, false, false, false, false, false, false, true, true] (by kernel_rfl) kc
      · exact ex_by [true, true, false, false, false, false, true, false, false, false, true, false, false, false, false, false, false, false, false, true, false, true, false, false, false, false, false, false] (by kernel_rfl) kc
      · exact ex_by [true, true, false, false, false, false, true, false, true, true, false, true, false, true, false, false, false, false, false, false, false, false, true, false, true, false, false, false, false, false, true] (by kernel_rfl) kc
    · have kc := kc false rfl rfl rfl
      cases s
      · exact ex_by [false, false, false, false, false, false, true, true, false, false, false, false, false, false, false, false, false, false, true, false, false, false, false, true, false, false, true, false] (by kernel_rfl) kc
      · exact ex_by [true, true, false, false, false, false, true, true, false, false, true, false, false, false, false, false, false, false, false, false, false, true, false, true, false, false, false, false] (by kernel_rfl) kc
section
variable {fx fy l1 gx gy l2 h top b sx sy : Int} {s t w : Bool}
theorem nrC1 (W : WayOk fx fy l1) (hh : 0 < h ∧ h ≤ 40) : nrC (fy * h) (fx * fx + fy * fy) ∧ nrC (-fx * h) (fx * fx + fy * fy) :=
  ⟨⟨nrs1 W hh, l1, W.pos, W.sq⟩, ⟨nrs2 W hh, l1, W.pos, W.sq⟩⟩
theorem corC_of {K : Prop} (W1 : WayOk fx fy l1) (W2 : WayOk gx gy l2) (hh : 0 < h ∧ h ≤ 40) (hs : decide (trnI fx fy gx gy < 0) = s) (k : K) : corC fx fy gx gy h s K :=
  ⟨(nrC1 W1 hh).1, (nrC1 W1 hh).2, (nrC1 W2 hh).1, (nrC1 W2 hh).2, hs, k⟩
theorem tipC_of {K : Prop} (W1 : WayOk fx fy l1) (W2 : WayOk gx gy l2) (ht : trn fx fy gx gy ≠ 0) (hs : decide (trnI fx fy gx gy < 0) = s) (k : K) : tipC fx fy gx gy s K := by
  have B := below_pre W1 W2 ht
  exact ⟨sqs_pre W1 W2, decide_eq_false (Int.not_le.mpr B.1), sq_pre W1, sq_pre W2, hs, B, B, k⟩
theorem nz_of (ht : trn fx fy gx gy ≠ 0) : (trnI fx fy gx gy == 0) = false := beq_eq_false_iff_ne.mpr ht
theorem joinC_of {K : Prop} {k : Str} {m : Bool} (W1 : WayOk fx fy l1) (W2 : WayOk gx gy l2) (hh : 0 < h ∧ h ≤ 40) (ht : trn fx fy gx gy ≠ 0) (hs : decide (trnI fx fy gx gy < 0) = s) (h1 : (k == Str.ofString "round") = false) (h2 : (k == Str.ofString "miter") = m) (q : K) : joinC fx fy gx gy h s k m K :=
  corC_of W1 W2 hh hs ⟨nz_of ht, rfl, h1, nz_of ht, h2, q⟩
theorem kindsC_of {K : Prop} (W1 : WayOk fx fy l1) (W2 : WayOk gx gy l2) (hh : 0 < h ∧ h ≤ 40) (hl : -1 ≤ top ∧ top ≤ 9 ∧ 1 ≤ b ∧ b ≤ 3) (ht : trn fx fy gx gy ≠ 0) (hs : decide (trnI fx fy gx gy < 0) = s) (htop : decide (top < 0) = t) (hw : t = false → atlI fx fy gx gy top b = w) (k : K) : kindsC fx fy gx gy h top b s t w K := by
  refine joinC_of W1 W2 hh ht hs (by decide +kernel) (by decide +kernel) ?_
  have K' : joinC fx fy gx gy h s (Str.ofString "bevel") false (false = false ∧ K) := joinC_of W1 W2 hh ht hs (by decide +kernel) (by decide +kernel) ⟨rfl, k⟩
  cases t with
  | true => exact ⟨htop, rfl, rfl, K'⟩
  | false =>
    refine ⟨htop, atl_pre W1 W2 hl, hw rfl, rfl, ?_⟩
    cases w with
    | true => exact tipC_of W1 W2 ht hs ⟨rfl, K'⟩
    | false => exact K'
end
theorem sg_sgI {fx fy gx gy : Int} {s : Bool} (ht : trn fx fy gx gy ≠ 0) (hs : decide (trnI fx fy gx gy < 0) = s) : sg (trn fx fy gx gy) = sgI s := by
  cases s with
  | true => exact sg_neg (fun h => absurd (of_decide_eq_true hs) (by unfold trnI; unfold trn at h; omega))
  | false =>
    have h1 := of_decide_eq_false hs
    exact sg_pos (by unfold trnI at h1; unfold trn at ht ⊢; omega)
theorem sgB_if {fx fy gx gy h : Int} {s : Bool} (hs : decide (trnI fx fy gx gy < 0) = s) : sgB s h = if fx * gy - fy * gx < 0 then -h else h := by
  cases s with
  | true => exact (if_pos (of_decide_eq_true hs)).symm
  | false => exact (if_neg (of_decide_eq_false hs)).symm
theorem ends_eq {fx fy l1 gx gy l2 h : Int} {s : Bool} (W1 : WayOk fx fy l1) (W2 : WayOk gx gy l2) (ht : trn fx fy gx gy ≠ 0) (hs : decide (trnI fx fy gx gy < 0) = s) :
    sgB s (nearRoot (fy * h) (fx * fx + fy * fy)) = lnear (sgI s * fy * h) l1 ∧ sgB s (nearRoot (-fx * h) (fx * fx + fy * fy)) = lnear (0 - sgI s * fx * h) l1 ∧ sgB s (nearRoot (gy * h) (gx * gx + gy * gy)) = lnear (sgI s * gy * h) l2 ∧ sgB s (nearRoot (-gx * h) (gx * gx + gy * gy)) = lnear (0 - sgI s * gx * h) l2 := by
  rw [W1.sq, W2.sq, nearRoot_near W1.pos, nearRoot_near W1.pos, nearRoot_near W2.pos, nearRoot_near W2.pos]
  cases s with
  | true =>
    have h0 : fx * gy - fy * gx < 0 := of_decide_eq_true hs
    have F := flipEq_n (half := h) W1 W2 h0
    unfold FlipEq flip at F
    rw [if_pos h0, if_pos h0, if_pos h0, if_pos h0] at F
    exact F
  | false =>
    have h0 : ¬ fx * gy - fy * gx < 0 := of_decide_eq_false hs
    have F := flipEq_p (half := h) W1 W2 (by unfold trn at ht; omega)
    unfold FlipEq flip at F
    rw [if_neg h0, if_neg h0, if_neg h0, if_neg h0] at F
    exact F
theorem eqv_same {a b : Int} : PyData.eqv (spotD a b) (spotD a b) = true := by unfold spotD; simp [PyData.eqv, PyData.eqvAll]
theorem eqv_kinds {m : Bool} {a b c d e f g i j k : Int} : PyData.eqv (.list [pieceD m (spotD a b) (spotD c d) (spotD e f) (spotD g i), pieceD false (spotD a b) (spotD c d) (spotD j k) (spotD g i)]) (.list [pieceD m (spotD a b) (spotD c d) (spotD e f) (spotD g i), pieceD false (spotD a b) (spotD c d) (spotD j k) (spotD g i)]) = true := by
  cases m <;> (unfold spotD pieceD; simp [PyData.eqv, PyData.eqvAll])
theorem caseC_of {fx fy l1 gx gy l2 h top b sx sy : Int} {s t w : Bool} {KR : Bool → Prop} (W1 : WayOk fx fy l1) (W2 : WayOk gx gy l2) (hh : 0 < h ∧ h ≤ 40) (hl : -1 ≤ top ∧ top ≤ 9 ∧ 1 ≤ b ∧ b ≤ 3) (ht : trn fx fy gx gy ≠ 0) (hs : decide (trnI fx fy gx gy < 0) = s) (htop : decide (top < 0) = t) (hw : t = false → atlI fx fy gx gy top b = w) (k : KR true) :
    caseC fx fy gx gy fx fy l1 gx gy l2 (sgI s) h top b sx sy s t w KR := by
  have eσ := sg_sgI ht hs
  have e1 : crX fx l1 gx l2 (sgI s) = cX fx fy l1 gx gy l2 := crs1 eσ
  have e2 : crY fy l1 gy l2 (sgI s) = cY fx fy l1 gx gy l2 := crs2 eσ
  have e3 : crT fx fy gx gy (sgI s) = trn fx fy gx gy := crs_t (by cases s with | true => exact .inr rfl | false => exact .inl rfl)
  have ew : t = false → winI fx fy l1 gx gy l2 (sgI s) top b = atlI fx fy gx gy top b := fun _ => by
    unfold winI atlI
    rw [e1, e2, e3]
    exact (within_eq W1 W2 ht).symm
  have tx : tipX fx fy gx gy h s = lnear (h * cX fx fy l1 gx gy l2) (trn fx fy gx gy) := tip_x2 W1 W2 ht (sgB_if hs)
  have ty : tipY fx fy gx gy h s = lnear (h * cY fx fy l1 gx gy l2) (trn fx fy gx gy) := tip_y2 W1 W2 ht (sgB_if hs)
  obtain ⟨n1, n2, n3, n4⟩ := ends_eq (h := h) W1 W2 ht hs
  have hp : decide (0 < fx * gy - fy * gx) = !s := by
    cases s with
    | true =>
      have h0 : fx * gy - fy * gx < 0 := of_decide_eq_true hs
      exact decide_eq_false (by omega)
    | false =>
      have h0 : ¬ fx * gy - fy * gx < 0 := of_decide_eq_false hs
      exact decide_eq_true (by unfold trn at ht; omega)
  have h0t : decide (0 ≤ top) = !t := by
    cases t with
    | true =>
      have := of_decide_eq_true htop
      exact decide_eq_false (by omega)
    | false =>
      have := of_decide_eq_false htop
      exact decide_eq_true (by omega)
  unfold caseC
  rw [n1, n2, n3, n4, tx, ty, e1, e2, e3]
  have T := trn_pre W1 W2 ht
  refine corC_of W1 W2 hh hs (kindsC_of W1 W2 hh hl ht hs htop hw ⟨beq_eq_false_iff_ne.mpr ht, hp, T, T, h0t, tipC_of W1 W2 ht hs ⟨?_, ?_⟩⟩)
  · rw [eqv_same]; rfl
  · have L1 := lpos_pre W1
    have L2 := lpos_pre W2
    rw [eqv_kinds]
    cases t with
    | true => exact ⟨htop, rfl, rfl, hp, L1, L1, L2, L2, rfl, k⟩
    | false =>
      refine ⟨htop, atl_pre W1 W2 hl, ?_, rfl, hp, L1, L1, L2, L2, (ew rfl).trans (hw rfl), k⟩
      rw [ew rfl]
      exact bne_self_eq_false _
theorem zeroC_of {fx fy l1 gx gy l2 h : Int} {K : Prop} (W1 : WayOk fx fy l1) (W2 : WayOk gx gy l2) (hh : 0 < h ∧ h ≤ 40) (ht : trn fx fy gx gy = 0) (k : K) : zeroC fx fy gx gy fx fy gx gy h (decide (0 < dotI fx fy gx gy)) K := by
  have e0 : trnI fx fy gx gy = 0 := ht
  have z : (trnI fx fy gx gy == 0) = true := beq_iff_eq.mpr ht
  have hs : decide (trnI fx fy gx gy < 0) = false := decide_eq_false (by omega)
  have zj : ∀ {n : Str} {Q : Prop}, (n == Str.ofString "round") = false → Q → zJ fx fy gx gy (decide (0 < dotI fx fy gx gy)) n Q := fun hn q => by
    refine ⟨z, rfl, ?_⟩
    cases decide (0 < dotI fx fy gx gy) with
    | true => exact q
    | false => exact ⟨hn, z, q⟩
  refine corC_of W1 W2 hh hs (corC_of W1 W2 hh hs (zj (by decide +kernel) (corC_of W1 W2 hh hs (zj (by decide +kernel) ⟨beq_iff_eq.mpr ht, by simp [PyData.eqv, PyData.eqvAll], ?_⟩))))
  by_cases hd : 0 < dotI fx fy gx gy
  · have e1 : decide (fx * gx + fy * gy < 0) = false := decide_eq_false (by unfold dotI at hd; omega)
    rw [decide_eq_true hd, e1]
    exact ⟨rfl, k⟩
  · have h1 : fx * gx + fy * gy ≤ 0 := by unfold dotI at hd; omega
    have h2 := back_dot W1 W2 ht h1
    have h3 := ll_pos W1 W2
    have e1 : decide (fx * gx + fy * gy < 0) = true := decide_eq_true (by unfold dot at h2; omega)
    rw [decide_eq_false hd, e1]
    exact ⟨rfl, sqs_pre W1 W2, decide_eq_true (below_none W1 W2 ht h1), k⟩
theorem kfill9 (w : World) : PySem.Challenge.rw_xm0692_01 = PySem.Challenge.rw_xm0692_01 ∧ hd.heap_39 w.params = hd.heap_39 w.params := by
  k_fill
  exact ⟨rfl, rfl⟩
theorem s_right2 (w : World) : SpOk w (10 + 1) (400 + 70) 250 (rspC w 250 (s_right_t w)) :=
  SpOk.of_bodyC (d := 10) (u := 400) (body := bodyOf w 250) (C := fun b => cx (scopeOf w 250).names (cellIdx (scopeOf w 250).names b) (s_right_t w)) (n := 60) (xs := parsIn (KK w) 250) (specs := s_right_t w) (by rfl) (by rfl) (fun s => lens1 (fun a => BindsTo.of_eq rfl)) (by rfl) (by rfl) (by rfl) (by rfl) (nd_ok (by rfl)) (fun b => tx_ok (by rfl)) (fun b => rfl) (fun b => rfl) (fun b => rfl) (fun b => rfl)
    (onespec (SpOk.up (sp_way w) rfl rfl) (onespec (SpOk.up (sp_take w) rfl rfl) (onespec (SpOk.up (SpOk.or (s_corner w)) rfl rfl) (onespec (SpOk.up (s_join w) rfl rfl) (onespec (SpOk.up (s_tip w) rfl rfl) (onespec (SpOk.up (s_within w) rfl rfl) (onespec (SpOk.up (sp_lnear w) rfl rfl) (onespec (SpOk.up (s_cross w) rfl rfl) nospec))))))))
noncomputable def spRight : Spec := fun svs o KR => match svs, o with
  | [.R 0], .src _ :: r => KR (.B true) (.src [] :: r)
  | _, _ => False
theorem sp_right (w : World) : SpOk w (10 + 1) (400 + 70) 250 spRight := (SpOk.hid (s_right2 w)).weak fun svs o KR k => by
  unfold spRight at k
  split at k
  · rename_i bs r
    show rspC w 250 (s_right_t w) [.R 0] [.src []] (hidK r KR)
    refine vcR w ?_
    intro fx fy l1 W1 gx gy l2 W2 h h0 h1 a a0 a1 c c0 c1 b b0 b1 x _ _ y _ _
    have hh := half_ok h1 h0
    have hl := lim_ok a1 c1 b1 a0 b0
    generalize 1 + h = hf at *
    generalize (a - if (c == 0) = true then 1 else 0) = top at *
    generalize 1 + b = bb at *
    generalize x - 20 = sx at *
    generalize y - 20 = sy at *
    have e1 : sx - (sx - fx) = fx := by omega
    have e2 : sy - (sy - fy) = fy := by omega
    have e3 : sx + gx - sx = gx := by omega
    have e4 : sy + gy - sy = gy := by omega
    rw [e1, e2, e3, e4]
    exact ⟨fun d e ht => e ▸ zeroC_of W1 W2 hh ht k, fun s t w' es et ew ht => caseC_of W1 W2 hh hl ht es.symm et.symm (fun e => by rw [ew, e]; rfl) k⟩
  · cases k
local macro_rules | `(tactic| ktr_units) => `(tactic| (have hcL9 := cLine_is; (try simp only [units_under_make, units_in1, units_deeper, Around.mark_units, units_caller]); (try dsimp only [ktrTop]); omega))
local macro_rules | `(tactic| ktr_room) => `(tactic| ((try simp only [depth_under_make, depth_under_kw, depth_in1, depth_deeper, depth_caller, recursionLimit] at *); (try dsimp only [ktrTop] at *); omega))
noncomputable def LtAll (I : Addr) (l : List (Addr × Obj)) : Prop := ∀ p ∈ l, @LT.lt Nat _ p.1 I
theorem LtAll.mk {I : Addr} {l : List (Addr × Obj)} (h : ∀ p ∈ l, p.1 < I) : LtAll I l := h
/-- as Cl, with a fact of the base heap -/
noncomputable abbrev ClP (k : Nat) (w : World) (mean : ExcName → Option Value) (mg mb : Str → Option Value) (f : Addr) (news : List (Addr × Obj)) (P : Heap → Prop) (vs : List Value) (ret : Heap → Addr → (Str → Option Value) → Shared → (Value → Shared → Prop) → Prop) : Prop :=
  ∀ (dp un : Nat) (gd : Option (List Code)) (cn : Str) (cs : Scope) (a : Addr) (ccd : Value) (cl : List (Str × Addr)) (outer : List Env) (A₀ : Around) (base h₀ : Heap) (L : Addr) (m : Str → Option Value) (s : Shared) (Q E : Value → Shared → Prop),
    P base → Below A₀ base outer h₀ → Fr h₀ L s.heap m → (hd.heap_39 w.params).In h₀ → News h₀ L s.heap news → Top hd.view_39 (looseW hd.view_39 [Str.ofString "SHARP"]) mean mg mb h₀ → cs.kind = .function →
    dp + k < recursionLimit → un + 8 * k < cLine → ret h₀ L m s Q →
    wpAny (model PySem.Challenge.rw_xm0692_01.row.prog w) (ktrTop dp un gd cn cs L a ccd cl outer) (call (.ref f) vs) Q E s
theorem ClP.use {k : Nat} {w : World} {mean : ExcName → Option Value} {mg mb : Str → Option Value} {f : Addr} {news : List (Addr × Obj)} {P : Heap → Prop} {vs : List Value} {ret : Heap → Addr → (Str → Option Value) → Shared → (Value → Shared → Prop) → Prop} (C : ClP k w mean mg mb f news P vs ret)
    {dp un : Nat} {gd : Option (List Code)} {cn : Str} {cs : Scope} {a : Addr} {ccd : Value} {cl : List (Str × Addr)} {outer : List Env} {A₀ : Around} {base h₀ : Heap} {L : Addr} {m : Str → Option Value} {s : Shared} {Q E : Value → Shared → Prop}
    (B : Below A₀ base outer h₀) (F : Fr h₀ L s.heap m) (X : (hd.heap_39 w.params).In h₀) (N : News h₀ L s.heap news) (T : Top hd.view_39 (looseW hd.view_39 [Str.ofString "SHARP"]) mean mg mb h₀) (hk : cs.kind = .function)
    (hp : P base) (h1 : dp + k < recursionLimit) (h2 : un + 8 * k < cLine) (hR : ret h₀ L m s Q) :
    wpAny (model PySem.Challenge.rw_xm0692_01.row.prog w) (ktrTop dp un gd cn cs L a ccd cl outer) (call (.ref f) vs) Q E s := C _ _ _ _ _ _ _ _ _ _ _ _ _ _ _ _ _ hp B F X N T hk h1 h2 hR
/-- the source comes back: a new list of two ints, none below nought -/
noncomputable abbrev RetPool (news : List (Addr × Obj)) (h₀ : Heap) (L : Addr) (m : Str → Option Value) (s : Shared) (Q : Value → Shared → Prop) : Prop :=
  ∀ (r : Addr) (a b : Int) (ta tb : Tok) (n : Nat) (h' : Heap) (tk' : Nat), 0 ≤ a → 0 ≤ b → b < 2 ^ 31 → LtAll r news → Fr h₀ L h' m → News h₀ L h' ((r, listOf [Value.int a ta, Value.int b tb].toArray n) :: news) → Q (.ref r) { s with heap := h', toks := tk' }
theorem RetPool.done {news led : List (Addr × Obj)} {h₀ h' : Heap} {L r : Addr} {m : Str → Option Value} {s : Shared} {Q : Value → Shared → Prop} {a b : Int} {ta tb : Tok} {n tk' : Nat} (hret : RetPool news h₀ L m s Q) (F : Fr h₀ L h' m) (N : News h₀ L h' led)
    (hm : (r, listOf [Value.int a ta, Value.int b tb].toArray n) ∈ led) (hl : LtAll r news) (ha : 0 ≤ a) (hb : 0 ≤ b ∧ b < 2 ^ 31) (hs : ∀ p ∈ news, p ∈ led) : Q (.ref r) { s with heap := h', toks := tk' } := by
  refine hret r a b ta tb n h' tk' ha hb.1 hb.2 hl F (fun p hp => N p ?_)
  rcases List.mem_cons.mp hp with rfl | hp
  · exact hm
  · exact hs p hp
theorem lt_sub {d : Addr} {l l' : List (Addr × Obj)} (h : LtAll d l) (hs : ∀ p ∈ l', p ∈ l) : LtAll d l' := fun p hp => h p (hs p hp)
theorem pool_b {x : Int} : 0 ≤ x.fmod 2147483647 ∧ x.fmod 2147483647 < 2 ^ 31 := by
  have := fmod_facts (a := x) (b := 2147483647) (by decide)
  omega
theorem pool_max {c : Int} : 0 ≤ (if -1 - c > c then -1 - c else c) := by split <;> omega
theorem pool_a {g : Int} {P : Prop} [Decidable P] (h : 0 ≤ g) : 0 ≤ g * (if P then 1 else 0) := Int.mul_nonneg h (by split <;> decide)
local macro_rules | `(tactic| walk_at "newList") => `(tactic| (k_here; k_dflt (refine' newList_K ?k1 ?k2 ?_; (case k1 => k_asm); (case k2 => k_asm); k_whole); intro l' h' F' N' l1; (have hlt := LtAll.mk l1); clear l1; (try k_sweep)))
theorem c_pool {w : World} {mean : ExcName → Option Value} {mg mb : Str → Option Value} {news : List (Addr × Obj)} {l : Addr} {vs : List Value} {ns : List Int} :
    ClP 12 w mean mg mb 198 news (fun h => h.IsList l vs.toArray ∧ IntsAre vs ns ∧ (PyData.list (List.map PyData.int ns)).layable0 = true) [.ref l] (RetPool news) := by
  unfold ClP; k_fill
  intro dp un gd cn cs a ccd cl outer A₀ base h₀ L m s Q E hP B F X N T hk hd hu hret
  obtain ⟨hL, hI, hY⟩ := hP
  refine wpAny_call ?_
  k_dflt cell_enter
  k_steps
  · exact RetPool.done hret (by k_asm) (by k_asm) (by k_mem) (lt_sub (by assumption) (by intro p hp; repeat (first | exact hp | refine List.Mem.tail _ ?_))) (pool_a pool_max) pool_b (by intro p hp; repeat (first | exact hp | refine List.Mem.tail _ ?_))
  · (with_reducible rename decide _ = false => ha9)
    (with_reducible rename _ ∨ _ => hx9)
    exact absurd (List.eq_nil_of_length_eq_zero (by omega)) (of_decide_eq_false ha9)
  · exact RetPool.done hret (by k_asm) (by k_asm) (by k_mem) (lt_sub (by assumption) (by intro p hp; repeat (first | exact hp | refine List.Mem.tail _ ?_))) (pool_a pool_max) pool_b (by intro p hp; repeat (first | exact hp | refine List.Mem.tail _ ?_))
theorem kfill10 (w : World) : PySem.Challenge.rw_xm0692_01 = PySem.Challenge.rw_xm0692_01 ∧ hd.heap_39 w.params = hd.heap_39 w.params := by
  k_fill
  exact ⟨rfl, rfl⟩
/-- what is left of a turn: the source, by its name -/
noncomputable def lawEnd (loc : List (Str × SV)) (o : List SO) : Prop := match loc.lookup (Str.ofString "source"), o with
  | some (.R 0), .src _ :: _ => True
  | _, _ => False
noncomputable abbrev srcAt (l : Addr) (a b : Int) (ta tb : Tok) (n : Nat) : List (Addr × Obj) := [(l, listOf [Value.int a ta, Value.int b tb].toArray n)]
theorem range_src {w : World} {mean : ExcName → Option Value} {mg mb : Str → Option Value} {dp un : Nat} {gd : Option (List Code)} {cn : Str} {cs : Scope} {L a : Addr} {ccd : Value} {outer : List Env} {A₀ : Around} {base h₀ : Heap} {E : Value → Shared → Prop} {x : Str} {body : List Stmt} {C : Cx} {specs : List (Addr × Spec)} {f d u : Nat} {l I : Addr}
    (hG : GlobS mg mb base) (B : Below A₀ base outer h₀) (X : (KK w).In h₀) (T : Top hd.view_39 (looseW hd.view_39 [Str.ofString "SHARP"]) mean mg mb h₀) (hk : cs.kind = .function) (hd' : dp + d < recursionLimit) (hu : un + u < cLine) (hu' : un + 64 < cLine)
    (hP : PassesOwn (model PySem.Challenge.rw_xm0692_01.row.prog w) (ktrTop dp un gd cn cs L a ccd [] outer) (envX cn cs L a ccd []) E) (hT : Tx w C) (hnm : C.names = cs.names) (hci : C.cidx = []) (hcal : C.cal = calOf specs) (hgi : C.gint = gints) (hsp : ∀ f Sp, specs.lookup f = some Sp → SpOk w d u f Sp)
    (hv : xS C f body [(Str.ofString "source", .R 0)] [.src []] (fun _ _ => False) lawEnd) (hx : Str.ofString "source" ≠ x) (hI : @LT.lt Nat _ l I) {Q : Flow → Shared → Prop} {s : Shared} {a₀ : Int} {n : Nat}
    (fin : ∀ (a' b' : Int) (ta tb : Tok) (nn : Nat) (m : Str → Option Value) (h : Heap) (tk : Nat), 0 ≤ a' → 0 ≤ b' → b' < 2 ^ 31 → m (Str.ofString "source") = some (.ref l) → Fr h₀ L h m → News h₀ L h (srcAt l a' b' ta tb nn) → Q .next { s with heap := h, toks := tk }) :
    ∀ (k i : Nat) (a' b' : Int) (ta tb : Tok) (nn : Nat) (m : Str → Option Value), 0 ≤ a' → 0 ≤ b' → b' < 2 ^ 31 → m (Str.ofString "source") = some (.ref l) →
      RangeRest PySem.Challenge.rw_xm0692_01.row.prog w (ktrTop dp un gd cn cs L a ccd [] outer) E h₀ (envX cn cs L a ccd []) x body Q s I a₀ n k i m (srcAt l a' b' ta tb nn) := by
  intro k
  induction k with
  | zero => exact fun i a' b' ta tb nn m ha hb hb2 hm => RangeRest.zero fun h tk F N => fin _ _ _ _ _ _ _ _ ha hb hb2 hm F N
  | succ k ih =>
    intro i a' b' ta tb nn m ha hb hb2 hm
    refine RangeRest.succ fun t h tk F N => ?_
    have hC : CxOk PySem.Challenge.rw_xm0692_01.row.prog w (ktrTop dp un gd cn cs L a ccd [] outer) (KK w) h₀ L [(I, itR (a₀ + ((i + 1 : Nat) : Int)) ((n : Int) - ((i + 1 : Nat) : Int)))] (envX cn cs L a ccd []) C mg := by
      refine ⟨fun x k hx => ⟨?_, hT.dbg x k hx⟩, hT.gl, hT.at_, hT.hd, (fun x q hq => gint_ok hG (hgi ▸ hq)), hT.sa, hT.po, hT.tk, ?_, hT.me, ?_⟩
      · rw [hnm] at hx; exact hx
      · rw [hnm]; rfl
      · rw [hcal]
        intro news' fv svs' o' KR' h' as' m' s' vs' Q' E' F2 S2 q2 hQ2
        unfold calOf at h'
        split at h'
        · split at h'
          · rename_i Sp hs
            exact hsp _ _ hs mean mg mb dp un gd cn cs L a ccd [] outer _ base h₀ m' s' Q' E' news' as' svs' o' KR' vs' hG B F2 X T hk hd' hu S2 q2 h' hQ2
          · cases h'
        · cases h'
    have S1 : St w h₀ L [(I, itR (a₀ + ((i + 1 : Nat) : Int)) ((n : Int) - ((i + 1 : Nat) : Int)))] [l] [.src []] h :=
      ⟨[listOf [Value.int a' ta, Value.int b' tb].toArray nn], .cons (.src ha hb hb2) .nil, rfl, fun p hp => N p (by
        rcases List.mem_cons.mp hp with rfl | hp
        · exact .tail _ (.head _)
        · cases List.mem_singleton.mp hp
          exact .head _), List.nodup_cons.mpr ⟨List.not_mem_nil, List.nodup_nil⟩, fun p hp hm' => by
        have e1 := List.mem_singleton.mp hp
        have e2 := List.mem_singleton.mp hm'
        rw [e1] at e2
        exact absurd e2.symm (Nat.ne_of_lt hI)⟩
    refine xS_ok (E := E) (K := KK w) hk X (topRead_of T) hu' rfl hP hC f _ _ _ _ _ _ hv [l] _ _ _ F ?_ ?_ S1 ?_ ?_
    · intro y sv e
      rw [List.lookup_cons] at e
      cases hy : (y == Str.ofString "source") with
      | true =>
        rw [hy] at e
        cases e
        refine ⟨.ref l, ?_, .R rfl⟩
        have e' := eq_of_beq hy
        subst e'
        exact (if_neg hx).trans hm
      | false => rw [hy] at e; cases e
    · intro y j e
      rw [hci] at e
      cases e
    · intro sv o' as' v s' m' k' _ _ _ _ _
      exact absurd k' id
    · intro loc' o' as' s' m' k' x' F2 H2 S2 t2
      unfold lawEnd at k'
      split at k'
      case h_2 => cases k'
      rename_i k1
      obtain ⟨os, S2⟩ := S2
      obtain ⟨xs, rfl⟩ := x'
      have hall := S2.all
      cases hall with
      | @cons _ o0 _ osr q0 qr =>
        cases q0 with
        | @src _ a2 b2 ta2 tb2 n2 h1 h2 h3 =>
          obtain ⟨v, hv1, hv2⟩ := H2 _ _ k1
          cases hv2
          rename_i al e
          cases e
          refine ⟨s'.heap, s'.toks, m', srcAt l a2 b2 ta2 tb2 n2, t2.is, F2, fun p hp => S2.led p ?_, fun p hp => ?_, ih _ _ _ _ _ _ _ h1 h2 h3 hv1⟩
          · rcases List.mem_cons.mp hp with rfl | hp
            · exact List.mem_append_right _ (.head _)
            · cases List.mem_singleton.mp hp
              exact List.mem_append_left _ (.head _)
          · cases List.mem_singleton.mp hp
            exact Nat.ne_of_lt hI
noncomputable def forBody : List Stmt → List Stmt
  | .For _ _ b _ _ :: _ => b
  | _ => []
noncomputable def spLroot : Spec := spI1 (fun n => 0 ≤ n ∧ n < 2 ^ 200) isq 101
theorem sp_lroot (w : World) : SpOk w 2 16 219 spLroot := sp_i1 (fun _ _ _ _ _ _ => c_law_root) fun _ h => isq_bd h
noncomputable def s_law_s : List (Addr × Spec) := [(250, spRight), (205, spTake), (212, spOne), (219, spLroot), (156, spAtl), (226, spLatl)]
theorem s_law_ok (w : World) : ∀ f Sp, s_law_s.lookup f = some Sp → SpOk w 11 470 f Sp :=
  onespec (SpOk.up (sp_right w) rfl rfl) (onespec (SpOk.up (sp_take w) rfl rfl) (onespec (SpOk.up (sp_one w) rfl rfl) (onespec (SpOk.up (sp_lroot w) rfl rfl) (onespec (SpOk.up (sp_atl w) rfl rfl) (onespec (SpOk.up (sp_latl w) rfl rfl) nospec)))))
theorem vcL1 (w : World) : xS (cx (scopeOf w 257).names [] s_law_s) 60 (forBody ((bodyOf w 257).drop 2)) [(Str.ofString "source", .R 0)] [.src []] (fun _ _ => False) lawEnd :=
  Eq.mp (α := (false = true → False) ∧ (false = false → True)) (by kernel_rfl) ⟨fun h => Bool.noConfusion h, fun _ => trivial⟩
noncomputable def turnC (v u : Int) : Prop := ∀ x ∈ ([u, 9, 49, 0, 2] : List Int), (0 ≤ (v - 4) * (v - 4) * x ∧ (v - 4) * (v - 4) * x < 2 ^ 200) ∧ ∀ z : Int, 0 ≤ z → z < 99 →
    ∀ y ∈ ([isq ((v - 4) * (v - 4) * x), isq ((v - 4) * (v - 4) * x) + 1, isq ((v - 4) * (v - 4) * x) - 1, 0 - isq ((v - 4) * (v - 4) * x), 0 - isq ((v - 4) * (v - 4) * x) - 1, 1 - isq ((v - 4) * (v - 4) * x), z - 50] : List Int),
      atC y (v - 4) x ∧ (-(2 ^ 30) < v - 4 ∧ v - 4 < 2 ^ 30 ∧ 0 ≤ x ∧ x < 2 ^ 100) ∧ ((atLeast y (v - 4) x != atLeast y (v - 4) x) = true → False) ∧ ((atLeast y (v - 4) x != atLeast y (v - 4) x) = false → True)
theorem turnC_of {v u : Int} (v0 : 0 ≤ v) (v1 : v < 9) (u0 : 0 ≤ u) (u1 : u < 1000000) : turnC v u := by
  intro x hx
  have x0 : 0 ≤ x ∧ x < 1000000 := by
    simp only [List.mem_cons, List.not_mem_nil, or_false] at hx
    omega
  clear hx
  have hf : 0 ≤ (v - 4) * (v - 4) ∧ (v - 4) * (v - 4) ≤ 16 := by
    have : v = 0 ∨ v = 1 ∨ v = 2 ∨ v = 3 ∨ v = 4 ∨ v = 5 ∨ v = 6 ∨ v = 7 ∨ v = 8 := by omega
    rcases this with e | e | e | e | e | e | e | e | e <;> subst e <;> decide
  generalize hw : (v - 4) * (v - 4) = q at *
  have h5 : 0 ≤ q * x := Int.mul_nonneg hf.1 x0.1
  have h6 : q * x ≤ 16 * 1000000 := Int.mul_le_mul (by omega) (by omega) (by omega) (by omega)
  have h7 := (isq_spec h5).1
  have h8 : isq (q * x) ≤ 5000 := isq_le_of_lt (by decide) h5 (by omega)
  generalize isq (q * x) = r at *
  refine ⟨⟨h5, by omega⟩, fun z z0 z1 y hy => ?_⟩
  have y0 : -6000 ≤ y ∧ y ≤ 6000 := by
    simp only [List.mem_cons, List.not_mem_nil, or_false] at hy
    omega
  refine ⟨⟨by omega, by omega, by omega, by omega, by omega, by omega⟩, ⟨by omega, by omega, x0.1, by omega⟩, fun h => ?_, fun _ => trivial⟩
  rw [bne_self_eq_false] at h
  cases h
theorem vcL2 (w : World) : xS (cx (scopeOf w 257).names [] s_law_s) 60 (forBody ((bodyOf w 257).drop 3)) [(Str.ofString "source", .R 0)] [.src []] (fun _ _ => False) lawEnd :=
  Eq.mp (α := ∀ v : Int, 0 ≤ v → v < 9 → ∀ u : Int, 0 ≤ u → u < 10 ^ Int.toNat 6 → turnC v u) (by kernel_rfl) fun _ v0 v1 _ u0 u1 => turnC_of v0 v1 u0 u1
theorem law_range {w : World} {mean : ExcName → Option Value} {mg mb : Str → Option Value} {dp un : Nat} {gd : Option (List Code)} {cn : Str} {cs : Scope} {L a : Addr} {ccd : Value} {outer : List Env} {A₀ : Around} {base h₀ : Heap} {E : Value → Shared → Prop} {x : Str} {body : List Stmt} {l I : Addr}
    (hG : GlobS mg mb base) (B : Below A₀ base outer h₀) (X : (KK w).In h₀) (T : Top hd.view_39 (looseW hd.view_39 [Str.ofString "SHARP"]) mean mg mb h₀) (hk : cs.kind = .function) (hd' : dp + 11 < recursionLimit) (hu : un + 470 < cLine)
    (hP : PassesOwn (model PySem.Challenge.rw_xm0692_01.row.prog w) (ktrTop dp un gd cn cs L a ccd [] outer) (envX cn cs L a ccd []) E) (hnm : (scopeOf w 257).names = cs.names)
    (hv : body = forBody ((bodyOf w 257).drop 2) ∨ body = forBody ((bodyOf w 257).drop 3)) (hx : Str.ofString "source" ≠ x) (hI : @LT.lt Nat _ l I) {Q : Flow → Shared → Prop} {s : Shared} {a₀ : Int} {n k i : Nat} {a' b' : Int} {ta tb : Tok} {nn : Nat} {m : Str → Option Value}
    (ha : 0 ≤ a') (hb : 0 ≤ b') (hb2 : b' < 2 ^ 31) (hm : m (Str.ofString "source") = some (.ref l))
    (fin : ∀ (a' b' : Int) (ta tb : Tok) (nn : Nat) (m : Str → Option Value) (h : Heap) (tk : Nat), 0 ≤ a' → 0 ≤ b' → b' < 2 ^ 31 → m (Str.ofString "source") = some (.ref l) → Fr h₀ L h m → News h₀ L h (srcAt l a' b' ta tb nn) → Q .next { s with heap := h, toks := tk }) :
    RangeRest PySem.Challenge.rw_xm0692_01.row.prog w (ktrTop dp un gd cn cs L a ccd [] outer) E h₀ (envX cn cs L a ccd []) x body Q s I a₀ n k i m (srcAt l a' b' ta tb nn) :=
  range_src (C := cx (scopeOf w 257).names [] s_law_s) (f := 60) hG B X T hk hd' hu (Nat.lt_of_le_of_lt (Nat.add_le_add_left (by decide) un) hu) hP (tx_ok (by rfl)) hnm rfl rfl rfl (s_law_ok w) (by rcases hv with e | e <;> rw [e]; exact vcL1 w; exact vcL2 w) hx hI fin k i a' b' ta tb nn m ha hb hb2 hm
theorem c_atl_t {w : World} {mean : ExcName → Option Value} {mg mb : Str → Option Value} {news : List (Addr × Obj)} {t1 t2 t3 : Tok} :
    Cl 2 w mean mg mb 156 news True [.int (-2) t1, .int (-1) t2, .int 4 t3] (RetB news true) := by
  intro dp un gd cn cs a₀ ccd cl outer A₀ base h₀ L m s Q E B F X N T hk hpre hd hu hret
  exact c_at_least dp un gd cn cs a₀ ccd cl outer A₀ base h₀ L m s Q E B F X N T hk (by decide) hd hu hret
theorem c_atl_f {w : World} {mean : ExcName → Option Value} {mg mb : Str → Option Value} {news : List (Addr × Obj)} {t1 t2 t3 : Tok} :
    Cl 2 w mean mg mb 156 news True [.int (-3) t1, .int (-1) t2, .int 4 t3] (RetB news false) := by
  intro dp un gd cn cs a₀ ccd cl outer A₀ base h₀ L m s Q E B F X N T hk hpre hd hu hret
  exact c_at_least dp un gd cn cs a₀ ccd cl outer A₀ base h₀ L m s Q E B F X N T hk (by decide) hd hu hret
local macro_rules | `(tactic| walk_at "call ref") => `(tactic| (k_here; (with_reducible show wpAny _ _ (PySem.call (Value.ref 156) [Value.int _ _, Value.int _ _, Value.int 4 _]) _ _ _); (k_dflt (refine' Cl.use c_atl_t ?k1 ?k2 ?k3 ?k4 ?k5 ?kK ?kp ?kd ?ku ?_; (case k1 => k_asm); (case k2 => k_asm); (case k3 => k_asm); (case k4 => k_asm); (case k5 => k_asm); (case kK => first | exact rfl | assumption); (case kp => trivial); (case kd => ktr_room); (case ku => ktr_units); intro h9 tk9 F9 N9); (all_goals (try dsimp only)); (all_goals (try k_fold)))))
local macro_rules | `(tactic| walk_at "call ref") => `(tactic| (k_here; (with_reducible show wpAny _ _ (PySem.call (Value.ref 156) [Value.int _ _, Value.int _ _, Value.int 4 _]) _ _ _); (k_dflt (refine' Cl.use c_atl_f ?k1 ?k2 ?k3 ?k4 ?k5 ?kK ?kp ?kd ?ku ?_; (case k1 => k_asm); (case k2 => k_asm); (case k3 => k_asm); (case k4 => k_asm); (case k5 => k_asm); (case kK => first | exact rfl | assumption); (case kp => trivial); (case kd => ktr_room); (case ku => ktr_units); intro h9 tk9 F9 N9); (all_goals (try dsimp only)); (all_goals (try k_fold)))))
local macro_rules | `(tactic| walk_at "call ref") => `(tactic| (k_here; (with_reducible show wpAny _ _ (PySem.call (Value.ref 198) [Value.ref _]) _ _ _); (k_dflt (refine' ClP.use c_pool ?k1 ?k2 ?k3 ?k4 ?k5 ?kK ?kp ?kd ?ku ?_; (case k1 => k_asm); (case k2 => k_asm); (case k3 => k_asm); (case k4 => k_asm); (case k5 => k_asm); (case kK => first | exact rfl | assumption); (case kp => exact ⟨by assumption, by assumption, by assumption⟩); (case kd => ktr_room); (case ku => ktr_units); intro r9 a9 b9 ta9 tb9 n9 h9 tk9 ha9 hb9 hb8 hlt9 F9 N9); (all_goals (try dsimp only)); (all_goals (try k_fold)))))
local macro_rules | `(tactic| walk_at "eval Call Name cons nil") => `(tactic| (k_here; refine Call_ ?_))
local macro_rules | `(tactic| walk_at "RangeRest") => `(tactic| (k_here; (k_dflt (refine' law_range ?hG ?hB ?hX ?hT ?hk ?hd ?hu ?hP ?hn ?hv ?hy ?hI ?ha ?hb ?hc ?hm ?_; (case hG => assumption); (case hB => k_asm); (case hX => k_asm); (case hT => k_asm); (case hk => exact rfl); (case hd => ktr_room); (case hu => ktr_units); (case hP => passes_own); (case hn => rfl); (case hv => first | exact Or.inl rfl | exact Or.inr rfl); (case hy => decide); (case hI => assumption); (case ha => assumption); (case hb => assumption); (case hc => assumption); (case hm => first | assumption | exact if_pos rfl | rfl); intro a9 b9 ta9 tb9 n9 m9 h9 tk9 ha9 hb9 hb8 hm9 F9 N9); (all_goals (try dsimp only)); (all_goals (try k_fold)))))
theorem main : PySem.Challenge.rw_xm0692_01.Holds :=
  hd (by
  k_go0
  all_goals (try k_fold)
  k_steps)
end Mine
theorem PySem.Challenge.cw_xm0692_01_holds : PySem.Challenge.rw_xm0692_01.Holds :=
  Mine.main
