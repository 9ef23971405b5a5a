import PyProof.Rows.All
import Wide.All
import OpenK.AllK
import Wide.FinOn
import PySem.Challenge.RW_pq0135_01
open PySem PySem.W PySem.Spec PySem.Calls PyProof.Rows
set_option Elab.async false
set_option compiler.extract_closed false
set_option maxRecDepth 100000
set_option maxHeartbeats 8000000
namespace Mine
open_top hd for PySem.Challenge.rw_pq0135_01

theorem whl_fr {prog : Program} {w : World} {A : Around} {E : Value → Shared → Prop} {s : Shared} {env : Env} {test : PySem.Expr} {body orelse : List Stmt} {Q : Flow → Shared → Prop} {pos : Pos}
    {σ : Type} (over : σ → (PySem.Str → Option Value) → PySem.Str → Option Value) (inv : σ → Prop) (meas : σ → Nat) (hE : PassesOwn (model prog w) A env E)
    {g : Heap} {l : Addr} {m : PySem.Str → Option Value} {nws : List (Addr × Obj)} (F : Fr g l s.heap m) (N : News g l s.heap nws) (x0 : σ) (hm : ∀ y, m y = over x0 m y) (hi : inv x0)
    (turn : ∀ x h tk, Fr g l h (over x m) → News g l h nws → inv x →
      (∀ y h' tk', Fr g l h' (over y m) → News g l h' nws → inv y → meas y < meas x → WhlRest prog w A E env test body orelse Q 0 { heap := h', gens := s.gens, drawn := s.drawn, toks := tk', os := s.os }) →
      wpAny (model prog w) A (isTrue test env (eval test env)) (fun b s₂ => WhlIf b (wpAny (model prog w) A (execs body env) (WhlPost prog w A E env test body orelse Q 0) E s₂) (wpAny (model prog w) A (execs orelse env) Q E s₂)) E
        { heap := h, gens := s.gens, drawn := s.drawn, toks := tk, os := s.os }) :
    wpAny (model prog w) A (exec (.While test body orelse pos) env) Q E s := by
  refine whl_start 0 ?_
  have main : ∀ n x h tk, Fr g l h (over x m) → News g l h nws → inv x → meas x < n → WhlRest prog w A E env test body orelse Q 0 { heap := h, gens := s.gens, drawn := s.drawn, toks := tk, os := s.os } := by
    intro n
    induction n with
    | zero => intro x h tk _ _ _ hn; exact absurd hn (Nat.not_lt_zero _)
    | succ n ih => exact fun x h tk F1 N1 hI hm => whl_turn (k := 0) hE (turn x h tk F1 N1 hI (fun y h' tk' F' N' hy hlt => ih y h' tk' F' N' hy (by omega)))
  have e : m = over x0 m := funext hm
  exact main _ x0 s.heap s.toks (e ▸ F) N hi (Nat.lt_succ_self _)

theorem genToks {α : Type} {M : Model} {A : Around} {t : Sem α} {Q : α → Shared → Prop} {E : Value → Shared → Prop} {hp : Heap} {g : Array GenState} {d : Drawn} {n : Nat} {os : OsState}
    (h : ∀ tk, wpAny M A t Q E { heap := hp, gens := g, drawn := d, toks := tk, os := os }) : wpAny M A t Q E { heap := hp, gens := g, drawn := d, toks := n + 1, os := os } := h _

theorem whlIf_dec {c : Prop} [Decidable c] {T F : Prop} (t : c → T) (f : ¬ c → F) : WhlIf (decide c) T F := by
  by_cases h : c
  · exact WhlIf.yes (decide_eq_true h) (t h)
  · exact WhlIf.no (decide_eq_false h) (f h)

theorem frCong {h₀ h : Heap} {L : Addr} {m m' : PySem.Str → Option Value} (F : Fr h₀ L h m) (e : ∀ y, m y = m' y) : Fr h₀ L h m' := by
  have : m = m' := funext e
  subst this
  exact F
theorem cong2 {a b : PySem.Str} {f g : PySem.Str → Option Value} (ha : f a = g a) (hb : f b = g b) (hr : ∀ y, y ≠ a → y ≠ b → f y = g y) : ∀ y, f y = g y := by
  intro y
  by_cases h1 : y = a
  · subst h1; exact ha
  · by_cases h2 : y = b
    · subst h2; exact hb
    · exact hr y h1 h2

theorem ret_tup2 {h₀ h' : Heap} {L D : Addr} {m : PySem.Str → Option Value} {news news' : List (Addr × Obj)} {s : Shared} {Q : Value → Shared → Prop} {x y x' y' : Int} {t1 t2 : Tok} {tk' : Nat}
    (hret : ∀ D t1 t2 h' tk', (∀ z ∈ news, z.1 < D) → Fr h₀ L h' m → News h₀ L h' ((D, { cls := .type "tuple", data := .seq #[.int x t1, .int y t2] }) :: news) → Q (.ref D) { s with heap := h', toks := tk' })
    (F : Fr h₀ L h' m) (N : News h₀ L h' ((D, { cls := .type "tuple", data := .seq #[.int x' t1, .int y' t2] }) :: news')) (l : ∀ z ∈ news, z.1 < D) (hs : ∀ z ∈ news, z ∈ news') (e1 : x' = x) (e2 : y' = y) : Q (.ref D) { s with heap := h', toks := tk' } := by
  subst e1; subst e2
  exact hret D t1 t2 h' tk' l F (cb_drop N fun z hz => (List.mem_cons.mp hz).elim (fun e => e ▸ List.Mem.head _) (fun hz => List.Mem.tail _ (hs z hz)))

def figsN (n : Nat) : Nat := if n < 10 then 1 else figsN (n / 10) + 1
decreasing_by omega
def figs (n : Int) : Nat := figsN n.toNat

theorem figsN_of : ∀ (k n : Nat), (k = 0 ∨ 10 ^ k ≤ n) → n < 10 ^ (k + 1) → figsN n = k + 1 := by
  intro k
  induction k with
  | zero =>
    intro n _ h
    rw [figsN, if_pos (by simpa using h)]
  | succ k ih =>
    intro n h1 h2
    have h1 : 10 ^ (k + 1) ≤ n := by
      rcases h1 with h | h
      · exact absurd h (Nat.succ_ne_zero k)
      · exact h
    have hk : 0 < 10 ^ k := Nat.pow_pos (by decide)
    have e1 : 10 ^ (k + 1) = 10 ^ k * 10 := Nat.pow_succ ..
    have e2 : 10 ^ (k + 1 + 1) = 10 ^ (k + 1) * 10 := Nat.pow_succ ..
    rw [figsN, if_neg (by omega), ih (n / 10) (.inr (by omega)) (by omega)]

theorem figs_end {n : Int} {k : Nat} (h1 : k = 0 ∨ (10 : Int) ^ k ≤ n) (h2 : ¬ (10 : Int) ^ (k + 1) ≤ n) : figs n = k + 1 := by
  unfold figs
  by_cases hn : 0 ≤ n
  · obtain ⟨N, rfl⟩ := Int.eq_ofNat_of_zero_le hn
    refine figsN_of k _ (h1.imp id fun h => ?_) ?_
    · have : ((10 ^ k : Nat) : Int) ≤ (N : Int) := by simpa using h
      simpa using Int.ofNat_le.mp this
    · have : ¬ ((10 ^ (k + 1) : Nat) : Int) ≤ (N : Int) := by simpa using h2
      have := mt Int.ofNat_le.mpr this
      simpa using this
  · have e : n.toNat = 0 := by omega
    rw [e]
    have hk : k = 0 := by
      rcases h1 with h | h
      · exact h
      · have : (0 : Int) < 10 ^ k := Int.pow_pos (by decide)
        omega
    subst hk
    exact figsN_of 0 0 (.inl rfl) (by decide)

theorem pow10_log2 {k : Nat} (h : k ≤ 2000) : ((10 : Int) ^ k).natAbs.log2 < 9000 := by
  have e : ((10 : Int) ^ k).natAbs = 10 ^ k := by
    rw [Int.natAbs_pow]; rfl
  rw [e]
  have h1 : 10 ^ k ≤ 16 ^ k := Nat.pow_le_pow_left (by decide) k
  have h2 : 16 ^ k = 2 ^ (4 * k) := by rw [show (16 : Nat) = 2 ^ 4 from rfl, ← Nat.pow_mul]
  have h3 : 2 ^ (4 * k) < 2 ^ 9000 := Nat.pow_lt_pow_right (by decide) (by omega)
  refine (Nat.log2_lt (Nat.ne_of_gt (Nat.pow_pos (by decide)))).mpr ?_
  omega
def rounded (n p : Int) : Int :=
  if p ≤ 0 then n else if p > (figs n : Int) + 1 then 0 else
  if 2 * n.fmod (10 ^ p.toNat) > 10 ^ p.toNat ∨ (2 * n.fmod (10 ^ p.toNat) = 10 ^ p.toNat ∧ (n.fdiv (10 ^ p.toNat)).fmod 2 = 1) then n.fdiv (10 ^ p.toNat) + 1 else n.fdiv (10 ^ p.toNat)

theorem gcd_step (a b : Int) : Int.gcd b (a % b) = Int.gcd a b := by
  have h := Int.gcd_mul_left_add_right b (a % b) (a / b)
  rw [Int.mul_ediv_add_emod] at h
  rw [← h, Int.gcd_comm]

def fracN (a b : Int) : Int := a.fdiv (if 0 < b then (Int.gcd a b : Int) else -(Int.gcd a b : Int))
def fracD (a b : Int) : Int := b.fdiv (if 0 < b then (Int.gcd a b : Int) else -(Int.gcd a b : Int))
theorem gcd_ne {a b : Int} (hb : b ≠ 0) : (Int.gcd a b : Int) ≠ 0 := by
  have := Int.gcd_ne_zero_right (a := a) hb
  omega
theorem log2_mono {a b : Nat} (h : a ≤ b) : a.log2 ≤ b.log2 := by
  by_cases ha : a = 0
  · subst ha; simp
  · exact (Nat.le_log2 (by omega)).mpr (Nat.le_trans (Nat.log2_self_le ha) h)
theorem gcd_log {a b : Int} (hb : b ≠ 0) (h : b.natAbs.log2 < 9000) : (Int.gcd a b : Int).natAbs.log2 < 9000 := by
  have h1 := Int.gcd_le_natAbs_right a hb
  exact Nat.lt_of_le_of_lt (log2_mono (by simpa using h1)) h
theorem neg_log {a : Int} (h : a.natAbs.log2 < 9000) : (-a).natAbs.log2 < 9000 := by rwa [Int.natAbs_neg]

theorem pow_split {d : Int} (hd1 : 1 ≤ d) : (10 : Int) ^ d.toNat = 10 * 10 ^ (d - 1).toNat := by
  have e : d.toNat = (d - 1).toNat + 1 := by omega
  rw [e, Int.pow_succ, Int.mul_comm]
theorem pow_nine {d : Int} (hd9 : d ≤ 9) : (10 : Int) ^ d.toNat ≤ 1000000000 := by
  have h : 10 ^ d.toNat ≤ 10 ^ 9 := Nat.pow_le_pow_right (by decide) (by omega)
  have e : ((10 ^ d.toNat : Nat) : Int) = (10 : Int) ^ d.toNat := by simp
  omega
theorem scale_small {c d : Int} {i : Nat} (hc : 0 < c) (hd9 : d ≤ 9) (h : c * 10 ^ i < 10 ^ d.toNat) : i < 9 := by
  have h9 := pow_nine hd9
  have hp : (0 : Int) < 10 ^ i := Int.pow_pos (by decide)
  have h1 : (10 : Int) ^ i ≤ c * 10 ^ i := by
    have := Int.mul_le_mul_of_nonneg_right (show (1 : Int) ≤ c by omega) (Int.le_of_lt hp)
    omega
  by_cases hi : i < 9
  · exact hi
  · have h2 : 10 ^ 9 ≤ 10 ^ i := Nat.pow_le_pow_right (by decide) (by omega)
    have e : ((10 ^ i : Nat) : Int) = (10 : Int) ^ i := by simp
    omega
def Bd (k : Nat) (x : Int) : Prop := x.natAbs < 10 ^ k

theorem pow10_pos (k : Nat) : 0 < 10 ^ k := Nat.pow_pos (by decide)
theorem pow10_le {j k : Nat} (h : j ≤ k) : 10 ^ j ≤ 10 ^ k := Nat.pow_le_pow_right (by decide) h
theorem Bd.mono {j k : Nat} {x : Int} (h : Bd j x) (e : j ≤ k) : Bd k x := Nat.lt_of_lt_of_le h (pow10_le e)
theorem Bd.mul {j k : Nat} {x y : Int} (hx : Bd j x) (hy : Bd k y) : Bd (j + k) (x * y) := by
  unfold Bd at *
  rw [Int.natAbs_mul, Nat.pow_add]
  exact Nat.mul_lt_mul'' hx hy
theorem Bd.neg {k : Nat} {x : Int} (hx : Bd k x) : Bd k (-x) := by unfold Bd at *; rwa [Int.natAbs_neg]
theorem Bd.add {j k : Nat} {x y : Int} (hx : Bd j x) (hy : Bd k y) : Bd (max j k + 1) (x + y) := by
  have h1 := hx.mono (Nat.le_max_left j k)
  have h2 := hy.mono (Nat.le_max_right j k)
  unfold Bd at *
  have e : 10 ^ (max j k + 1) = 10 ^ (max j k) * 10 := Nat.pow_succ ..
  omega
theorem Bd.sub {j k : Nat} {x y : Int} (hx : Bd j x) (hy : Bd k y) : Bd (max j k + 1) (x - y) := by
  rw [Int.sub_eq_add_neg]; exact hx.add hy.neg
theorem Bd.pow {n k : Nat} (h : n < k) : Bd k ((10 : Int) ^ n) := by
  unfold Bd
  rw [Int.natAbs_pow]
  exact Nat.pow_lt_pow_right (by decide) h
theorem Bd.ite {j k : Nat} {x y : Int} {c : Prop} [Decidable c] (hx : Bd j x) (hy : Bd k y) : Bd (max j k) (if c then x else y) := by
  split
  · exact hx.mono (Nat.le_max_left j k)
  · exact hy.mono (Nat.le_max_right j k)
theorem Bd.small {x : Int} (h1 : -1000000000000000000 < x) (h2 : x < 1000000000000000000) : Bd 18 x := by unfold Bd; omega
theorem Bd.pos {k : Nat} {x : Int} (h1 : 0 ≤ x) (h2 : x < 10 ^ k) : Bd k x := by
  unfold Bd
  have : ((10 ^ k : Nat) : Int) = 10 ^ k := by simp
  omega
theorem Bd.log4 {k : Nat} {x : Int} (h : Bd k x) : x.natAbs < 2 ^ (4 * k) := by
  have h1 : 10 ^ k ≤ 16 ^ k := Nat.pow_le_pow_left (by decide) k
  have h2 : 16 ^ k = 2 ^ (4 * k) := by rw [show (16 : Nat) = 2 ^ 4 from rfl, ← Nat.pow_mul]
  unfold Bd at h
  omega
theorem Bd.log {k : Nat} {x : Int} (h : Bd k x) (hk : k ≤ 2000) : x.natAbs.log2 < 9000 := by
  by_cases hz : x.natAbs = 0
  · rw [hz]; decide
  · refine (Nat.log2_lt hz).mpr (Nat.lt_of_lt_of_le h.log4 (Nat.pow_le_pow_right (by decide) (by omega)))
theorem Bd.bits {k : Nat} {x : Int} (h : Bd k x) : Builtin.Int.intBits x ≤ 4 * k + 1 := by
  unfold Builtin.Int.intBits
  first
    | (split
       · omega
       · rename_i hz
         have := (Nat.log2_lt (n := x.natAbs) (k := 4 * k) (by first | omega | simpa using hz)).mpr h.log4
         omega)
    | (have := h.log4
       by_cases hz : x.natAbs = 0
       · simp [hz]
       · have := (Nat.log2_lt hz).mpr h.log4
         omega)
theorem bd_ok {j k : Nat} {x y : Int} (hx : Bd j x) (hy : Bd k y) (hj : j ≤ 10000) (hk : k ≤ 10000) : IntMulOk x y :=
  IntMulOk.of_bits (Nat.le_trans hx.bits (by omega)) (Nat.le_trans hy.bits (by omega))
theorem fmod_rng {x k : Int} (hk : 0 < k) : 0 ≤ x.fmod k ∧ x.fmod k < k := by
  rw [Int.fmod_eq_emod_of_nonneg _ (by omega)]
  exact ⟨Int.emod_nonneg _ (by omega), Int.emod_lt_of_pos _ hk⟩
def strip (n : Nat) : Nat × Nat := if 0 < n ∧ n % 10 = 0 then ((strip (n / 10)).1, (strip (n / 10)).2 + 1) else (n, 0)
decreasing_by omega
theorem strip_end {n : Nat} (h : n % 10 ≠ 0) : strip n = (n, 0) := by rw [strip, if_neg (fun z => h z.2)]
theorem strip_step {n : Nat} (h0 : 0 < n) (h : n % 10 = 0) : strip n = ((strip (n / 10)).1, (strip (n / 10)).2 + 1) := by rw [strip, if_pos ⟨h0, h⟩]
def aabs (c : Int) : Int := if c < 0 then -c else c
def msize (c d : Int) : Int := if (figs (aabs c) : Int) - d > 0 then rounded (aabs c) (figs (aabs c) - d) else aabs c
def mexp (c e d : Int) : Int := if (figs (aabs c) : Int) - d > 0 then e + (figs (aabs c) - d) else e
def madeE (c s x : Int) : Option (Int × Int) := if 99 < x + figs s - 1 then none else if x + figs s - 1 < -99 then some (0, 0) else some (if c < 0 then -s else s, x)
def madeF (c e d : Int) : Option (Int × Int) :=
  if msize c d = 0 then some (0, 0) else madeE c ((strip (msize c d).toNat).1 : Nat) (mexp c e d + (strip (msize c d).toNat).2)
theorem figsN_le : ∀ (k n : Nat), n < 10 ^ (k + 1) → figsN n ≤ k + 1 := by
  intro k
  induction k with
  | zero => intro n h; rw [figsN, if_pos (by simpa using h)]; exact Nat.le_refl _
  | succ k ih =>
    intro n h
    rw [figsN]
    split
    · omega
    · have e2 : 10 ^ (k + 1 + 1) = 10 ^ (k + 1) * 10 := Nat.pow_succ ..
      have := ih (n / 10) (by omega)
      omega
theorem figs_le {k : Nat} {n : Int} (h : Bd (k + 1) n) : (figs n : Int) ≤ k + 1 := by
  unfold Bd at h
  unfold figs
  have := figsN_le k n.toNat (by omega)
  omega
theorem figsN_pos (n : Nat) : 0 < figsN n := by rw [figsN]; split <;> omega
theorem figs_pos (n : Int) : 0 < (figs n : Int) := by have := figsN_pos n.toNat; unfold figs; omega
theorem fmod10 {x : Int} (h : 0 < x) : x.fmod 10 = ((x.toNat % 10 : Nat) : Int) := by
  rw [Int.fmod_eq_emod_of_nonneg _ (by decide)]; omega
theorem fdiv10 {x : Int} (h : 0 < x) : x.fdiv 10 = ((x.toNat / 10 : Nat) : Int) := by
  rw [Int.fdiv_eq_ediv_of_nonneg _ (by decide)]; omega
theorem rounded_nonneg {n q : Int} (h : 0 ≤ n) : 0 ≤ rounded n q := by
  unfold rounded
  have hp : (0 : Int) < 10 ^ q.toNat := Int.pow_pos (by decide)
  have hd : 0 ≤ n.fdiv (10 ^ q.toNat) := by rw [Int.fdiv_eq_ediv_of_nonneg _ (Int.le_of_lt hp)]; exact Int.ediv_nonneg h (Int.le_of_lt hp)
  split
  · exact h
  split
  · exact Int.le_refl 0
  split <;> omega
theorem aabs_nonneg (c : Int) : 0 ≤ aabs c := by unfold aabs; split <;> omega
theorem msize_nonneg (c d : Int) : 0 ≤ msize c d := by
  unfold msize
  split
  · exact rounded_nonneg (aabs_nonneg c)
  · exact aabs_nonneg c
theorem madeF_zero {c e d : Int} (h : msize c d = 0) : madeF c e d = some (0, 0) := by unfold madeF; rw [if_pos h]
theorem madeF_end {c e d sz ex : Int} {k : Nat} (h : msize c d ≠ 0) (h0 : 0 < sz) (hs : strip (msize c d).toNat = ((strip sz.toNat).1, (strip sz.toNat).2 + k)) (hx : ex = mexp c e d + k) (hm : sz.fmod 10 ≠ 0) : madeF c e d = madeE c sz ex := by
  unfold madeF
  rw [if_neg h]
  have hm' : sz.toNat % 10 ≠ 0 := fun z => hm (by rw [fmod10 h0, z]; rfl)
  rw [hs, strip_end hm']
  have e1 : ((sz.toNat : Nat) : Int) = sz := by omega
  simp only [e1, hx, Nat.zero_add]
theorem strip_turn {M : Nat × Nat} {sz : Int} {k : Nat} (h0 : 0 < sz) (hm : sz.fmod 10 = 0) (hs : M = ((strip sz.toNat).1, (strip sz.toNat).2 + k)) : M = ((strip (sz.fdiv 10).toNat).1, (strip (sz.fdiv 10).toNat).2 + (k + 1)) ∧ 0 < sz.fdiv 10 ∧ (sz.fdiv 10).toNat < sz.toNat := by
  have h1 := fmod10 h0
  have h2 := fdiv10 h0
  have e : (sz.fdiv 10).toNat = sz.toNat / 10 := by omega
  refine ⟨?_, by omega, by omega⟩
  rw [hs, strip_step (n := sz.toNat) (by omega) (by omega), e]
  simp only [Prod.mk.injEq, true_and]
  omega
theorem madeE_none {c s x : Int} (h : 99 < x + figs s - 1) : madeE c s x = none := by unfold madeE; rw [if_pos h]
theorem madeE_low {c s x : Int} (h : ¬ 99 < x + figs s - 1) (h2 : x + figs s - 1 < -99) : madeE c s x = some (0, 0) := by unfold madeE; rw [if_neg h, if_pos h2]
theorem madeE_neg {c s x : Int} (h : ¬ 99 < x + figs s - 1) (h2 : ¬ x + figs s - 1 < -99) (hc : c < 0) : madeE c s x = some (-s, x) := by unfold madeE; rw [if_neg h, if_neg h2, if_pos hc]
theorem madeE_pos {c s x : Int} (h : ¬ 99 < x + figs s - 1) (h2 : ¬ x + figs s - 1 < -99) (hc : ¬ c < 0) : madeE c s x = some (s, x) := by unfold madeE; rw [if_neg h, if_neg h2, if_neg hc]
def plc (a b d : Int) : Int := if d + 3 + figs b - figs (aabs a) < 0 then 0 else d + 3 + figs b - figs (aabs a)
def dsize (a b d : Int) : Int := 10 * (aabs a * 10 ^ (plc a b d).toNat).fdiv b + (if 0 < (aabs a * 10 ^ (plc a b d).toNat).fmod b then 1 else 0)
def decF (a b d : Int) : Option (Int × Int) := madeF (if a < 0 then -(dsize a b d) else dsize a b d) (-(plc a b d) - 1) d
theorem Bd.fdiv {k : Nat} {x y : Int} (h : Bd k x) (h0 : 0 ≤ x) (hy : 0 < y) : Bd k (x.fdiv y) := by
  unfold Bd at *
  rw [Int.fdiv_eq_ediv_of_nonneg _ (Int.le_of_lt hy)]
  have h1 := Int.ediv_nonneg h0 (Int.le_of_lt hy)
  have h2 := Int.ediv_le_self y h0
  omega
theorem Bd.aabs {k : Nat} {x : Int} (h : Bd k x) : Bd k (Mine.aabs x) := by unfold Mine.aabs; split; exact h.neg; exact h
theorem plc_nonneg (a b d : Int) : 0 ≤ plc a b d := by unfold plc; split <;> omega
theorem plc_le {a b d : Int} (hb : Bd 200 b) (hd : d ≤ 9) : plc a b d ≤ 212 := by
  have h1 := figs_le (k := 199) hb
  have h2 := figs_pos (Mine.aabs a)
  unfold plc
  split <;> omega
theorem dsize_bd {a b d : Int} (ha : Bd 200 a) (hb : Bd 200 b) (hb0 : 0 < b) (hd : d ≤ 9) : Bd 500 (dsize a b d) := by
  unfold dsize
  have h1 := plc_le (a := a) hb hd
  have h2 : Bd 213 ((10 : Int) ^ (plc a b d).toNat) := Bd.pow (by omega)
  have h3 := (ha.aabs.mul h2)
  have h0 : 0 ≤ Mine.aabs a * (10 : Int) ^ (plc a b d).toNat := Int.mul_nonneg (aabs_nonneg a) (Int.pow_nonneg (by decide))
  have h4 := h3.fdiv h0 hb0
  have h5 : Bd 18 (if 0 < (Mine.aabs a * 10 ^ (plc a b d).toNat).fmod b then (1 : Int) else 0) := by split <;> exact Bd.small (by decide) (by decide)
  have h6 : Bd 18 (10 : Int) := Bd.small (by decide) (by decide)
  exact (((h6.mul h4).add h5)).mono (by decide)
theorem decF_neg {n q d P r : Int} (hp : plc n q d = P) (h : n < 0) (hr : (if 0 < ((if n < 0 then -n else n) * 10 ^ P.toNat).fmod q then (1:Int) else 0) = r) : decF n q d = madeF (-(10 * ((if n < 0 then -n else n) * 10 ^ P.toNat).fdiv q + r)) (-P - 1) d := by
  subst hp; subst hr; unfold decF; rw [if_pos h]; rfl
theorem decF_pos {n q d P r : Int} (hp : plc n q d = P) (h : ¬ n < 0) (hr : (if 0 < ((if n < 0 then -n else n) * 10 ^ P.toNat).fmod q then (1:Int) else 0) = r) : decF n q d = madeF (10 * ((if n < 0 then -n else n) * 10 ^ P.toNat).fdiv q + r) (-P - 1) d := by
  subst hp; subst hr; unfold decF; rw [if_neg h]; rfl
theorem abs_mul_nonneg {n : Int} {k : Nat} : 0 ≤ (if n < 0 then -n else n) * (10 : Int) ^ k := Int.mul_nonneg (aabs_nonneg n) (Int.pow_nonneg (by decide))

def KeepsD (h h' : Heap) : Prop := ∀ b o, h.get? b = some o → ∃ o', h'.get? b = some o' ∧ o'.dict = o.dict
theorem KeepsD.refl (h : Heap) : KeepsD h h := fun _ o e => ⟨o, e, rfl⟩
theorem KeepsD.trans {h₁ h₂ h₃ : Heap} (x : KeepsD h₁ h₂) (y : KeepsD h₂ h₃) : KeepsD h₁ h₃ := fun b o e =>
  let ⟨o', e', d'⟩ := x b o e
  let ⟨o'', e'', d''⟩ := y b o' e'
  ⟨o'', e'', d''.trans d'⟩
theorem KeepsD.keeps {h h' : Heap} (k : ∀ b o, h.get? b = some o → h'.get? b = some o) : KeepsD h h' := fun b o e => ⟨o, k b o e, rfl⟩
theorem KeepsD.at {h h' : Heap} {e d : Addr} (k : KeepsD h h') (x : ∃ o, h.get? e = some o ∧ o.dict = some d) : ∃ o, h'.get? e = some o ∧ o.dict = some d := by
  obtain ⟨o, ho, hd⟩ := x
  obtain ⟨o', ho', hd'⟩ := k e o ho
  exact ⟨o', ho', hd'.trans hd⟩

/-- a tree that leaves every object's own dict where it was -/
def Tame {α : Type} (t : Sem α) : Prop := ∀ (M : Model) (Γ : PySem.Ctx) (Q : α → Pos → Shared → Prop) (E : Value → Pos → Shared → Prop) (p : Pos) (s : Shared), Sem.wp M Γ t Q E p s →
  Sem.wp M Γ t (fun a p' s' => Q a p' s' ∧ KeepsD s.heap s'.heap) (fun e p' s' => E e p' s' ∧ KeepsD s.heap s'.heap) p s
theorem Tame.run {α : Type} {t : Sem α} {M : Model} {A : Around} {Q : α → Shared → Prop} {E : Value → Shared → Prop} {s : Shared} (T : Tame t) (h : wpAny M A t Q E s) :
    wpAny M A t (fun a s' => Q a s' ∧ KeepsD s.heap s'.heap) (fun e s' => E e s' ∧ KeepsD s.heap s'.heap) s := fun Γ p hΓ => T M Γ _ _ p s (h Γ p hΓ)
theorem tame_pure {α : Type} (a : α) : Tame (pure a : Sem α) := fun M Γ Q E p s h => by
  rw [Sem.wp_pure'] at h ⊢
  exact ⟨h, KeepsD.refl _⟩
theorem tame_throw {α : Type} (e : Value) : Tame (throw e : Sem α) := fun M Γ Q E p s h => by
  rw [Sem.wp_throw] at h ⊢
  exact ⟨h, KeepsD.refl _⟩
theorem tame_unsupported {α : Type} (w : String) : Tame (unsupported w : Sem α) := fun M Γ Q E p s h => by
  unfold unsupported at h
  rw [Sem.wp_unsupported] at h
  exact h.elim
theorem tame_load (a : Addr) : Tame (load a) := fun M Γ Q E p s h => by
  unfold load at h ⊢
  rw [Sem.wp_load] at h ⊢
  obtain ⟨o, ho, h⟩ := h
  exact ⟨o, ho, tame_pure o M Γ Q E p s h⟩
theorem tame_stack : Tame stack := fun M Γ Q E p s h => by
  unfold stack at h ⊢
  rw [Sem.wp_stack] at h ⊢
  exact tame_pure _ M Γ Q E p s h
theorem tame_alloc (o : Obj) : Tame (alloc o) := fun M Γ Q E p s h => by
  unfold alloc at h ⊢
  rw [Sem.wp_alloc] at h ⊢
  exact ⟨h, KeepsD.keeps fun b o' e => Heap.get?_push_of_some _ e⟩
theorem tame_update (a : Addr) (f : Obj → Obj) (hf : ∀ o, (f o).dict = o.dict ∧ (f o).isFreed = o.isFreed) : Tame (update a f) := fun M Γ Q E p s h => by
  unfold update at h ⊢
  rw [Sem.wp_update] at h ⊢
  obtain ⟨hs, h⟩ := h
  refine ⟨hs, h, fun b o e => ?_⟩
  by_cases q : a = b
  · subst q
    exact ⟨_, Heap.get?_update_self f e ((hf o).2.trans (Heap.get?_some_iff.mp e).2), (hf o).1⟩
  · exact ⟨o, (Heap.get?_update_other _ _ q).trans e, rfl⟩
theorem tame_bind {α β : Type} {m : Sem α} {f : α → Sem β} (hm : Tame m) (hf : ∀ a, Tame (f a)) : Tame (m >>= f) := fun M Γ Q E p s h => by
  rw [Sem.wp_bind'] at h ⊢
  refine Sem.wp_mono M Γ m (fun a p' s' h' => ?_) (fun e p' s' h' => h') p s (hm M Γ _ _ p s h)
  exact Sem.wp_mono M Γ (f a) (fun b p'' s'' x => ⟨x.1, h'.2.trans x.2⟩) (fun e p'' s'' x => ⟨x.1, h'.2.trans x.2⟩) p' s' (hf a M Γ Q E p' s' h'.1)
theorem tame_fmap {α β : Type} {m : Sem α} {f : α → β} (hm : Tame m) : Tame (f <$> m) := fun M Γ Q E p s h => by
  rw [Sem.wp_map] at h ⊢
  exact hm M Γ _ _ p s h
theorem tame_ite {α : Type} {c : Prop} [Decidable c] {a b : Sem α} (ha : Tame a) (hb : Tame b) : Tame (if c then a else b) := by split <;> assumption
theorem mapFields_tame (f : Array Value → Array Value) (o : Obj) : (Obj.mapFields f o).dict = o.dict ∧ (Obj.mapFields f o).isFreed = o.isFreed := by
  obtain ⟨c, d, dt, sl⟩ := o
  cases dt <;> exact ⟨rfl, rfl⟩

theorem tame_fieldsOf (v : Value) : Tame (fieldsOf v) := by
  unfold fieldsOf
  split
  · refine tame_bind (tame_load _) fun o => ?_
    split
    · exact tame_pure _
    · exact tame_unsupported _
  · exact tame_unsupported _
theorem tame_field (v : Value) (i : Nat) : Tame (field v i) := by
  unfold field
  refine tame_bind (tame_fieldsOf v) fun vs => ?_
  split
  · exact tame_pure _
  · exact tame_unsupported _
theorem tame_setField (v : Value) (i : Nat) (x : Value) : Tame (setField v i x) := by
  unfold setField
  split
  · unfold updateField
    refine tame_bind (tame_load _) fun o => ?_
    split
    · exact tame_ite (tame_update _ _ (mapFields_tame _)) (tame_unsupported _)
    · exact tame_unsupported _
  · exact tame_unsupported _
theorem tame_setFlight (v : Value) (f : Option Addr) : Tame (setFlight v f) := by
  unfold setFlight
  exact tame_bind (tame_field _ _) fun tb => tame_ite (tame_setField _ _ _) (tame_pure _)
theorem tame_keptBack (env : Env) (b : Bool) (l : List Env) : Tame (keptBack env b l) := by
  unfold keptBack
  split
  · refine tame_ite (tame_pure _) ?_
    unfold underTheClaimsCaller
    exact tame_bind (tame_bind tame_stack fun _ => tame_pure _) fun _ => tame_pure _
  · exact tame_pure _
theorem tame_behindIsImport (env : Env) (l : List Env) : Tame (behindIsImport env l) := by
  unfold behindIsImport
  refine tame_ite (tame_pure _) (tame_ite (tame_pure _) (tame_bind (tame_field _ _) fun _ => tame_pure _))
theorem tame_readyFrames : ∀ l : List Env, Tame (readyFrames l)
  | [] => tame_pure _
  | env :: outer => by
    unfold readyFrames
    split
    · refine tame_bind (tame_load _) fun o => ?_
      refine tame_ite (tame_pure _) (tame_bind (tame_behindIsImport _ _) fun _ => tame_bind (tame_keptBack _ _ _) fun _ => tame_bind (tame_update _ _ fun o => ⟨rfl, ?_⟩) fun _ => tame_readyFrames outer)
      obtain ⟨c, d, dt, sl⟩ := o
      cases dt <;> rfl
    · exact tame_unsupported _
theorem tame_frameOf (env : Env) : Tame (PySem.frameOf env) := by
  unfold PySem.frameOf
  refine tame_bind (tame_bind tame_stack fun _ => tame_pure _) fun l => tame_bind ?_ fun r => ?_
  · unfold frameObject
    split
    · exact tame_pure _
    · exact tame_bind (tame_readyFrames _) fun _ => tame_pure _
  · split
    · exact tame_pure _
    · exact tame_unsupported _
theorem tame_entryPlaceOf (f : Addr) (b : Bool) : Tame (entryPlaceOf f b) := by
  unfold entryPlaceOf
  refine tame_bind tame_stack fun l => ?_
  split <;> exact tame_pure _
theorem tame_newEntry (a b c d e : Value) (pl : List Value) : Tame (EntryCells.newEntry a b c d e pl) := by
  unfold EntryCells.newEntry newFields newObj newObjAsIs
  dsimp only
  have tl : ∀ o : Obj, Tame (do let a ← alloc o; pure (Value.ref a)) := fun o => tame_bind (tame_alloc _) fun _ => tame_pure _
  exact tame_ite (tame_bind (tame_unsupported _) fun _ => tl _) (tl _)
theorem tame_noteFrame (v : Value) (env : Env) : Tame (noteFrame v env) := by
  unfold noteFrame
  split
  · refine tame_bind (tame_field _ _) fun hd => ?_
    have tl : Tame (do setField v 1 (← EntryCells.newEntry hd (← PySem.frameOf env) .none (rawInt ‹Addr›) .none (← entryPlaceOf ‹Addr› (hd != .none))) : Sem Unit) :=
      tame_bind (tame_frameOf _) fun _ => tame_bind (tame_entryPlaceOf _ _) fun _ => tame_bind (tame_newEntry _ _ _ _ _ _) fun _ => tame_setField _ _ _
    exact tame_ite (tame_bind (tame_field _ _) fun _ => tame_ite (tame_pure _) (tame_bind (tame_setField _ _ _) fun _ => tl)) tl
  · exact tame_unsupported _
theorem tame_leaving (env : Env) (v : Value) : Tame (leaving env v) := by
  unfold leaving
  exact tame_bind (tame_noteFrame _ _) fun _ => tame_setFlight _ _
section
theorem sx_slot_wd_get : Slot "wrapper_descriptor" "__get__" "wrapper_descriptor.__get__" := .of (owner := "wrapper_descriptor") (n := "__get__") (by rw [typeLookup_type, builtinLookup_eq_fast]; kernel_rfl) (by decide +kernel) (by decide +kernel) (by decide +kernel)
    (by first | exact .inl (by decide +kernel) | exact .inr (by decide +kernel)) (by rw [isSubtype_type]; kernel_rfl)
theorem sx_entry_wd_get : entryFor table "wrapper_descriptor.__get__" = some Builtin.«wrapper_descriptor.__get__» := entryFor_of_tree (by kernel_rfl)
theorem sx_getArgs_wd (a b c : Value) : argsOk "wrapper_descriptor.__get__" ⟨[a, b, c], []⟩ := by unfold argsOk; kernel_rfl
theorem sx_typeOf_init : typeOf (.builtin "Exception.__init__") = pure (.type "wrapper_descriptor") := by kernel_rfl
variable {prog : Program} {w : World} {M : Model} {A : Around} {E : Value → Shared → Prop} {h : Heap} {g : Array GenState} {d : Drawn} {t : Nat} {os : OsState}
variable {nm q : Str} {C N : Addr} {bs : List Value} {hdct : Bool} {sn : List Str} {sub : List Value} {ab : Bool} {col : Option Bool} {dd : Option Addr} {k0 k1 k2 k3 k5 : Option Value} {newId : String}
theorem sx_ga {so D x C : Addr} {ox : Obj} {bm l₀ l : List Value} {K : Frag} {tk : Tok} {Q : Fin → Shared → Prop}
    (hso : h.get? so = some { cls := .type "super", dict := none, data := .fields #[.ref D, .ref x, .ref C], slots := #[] }) (hno : Looks (model prog w) h (opaqueClassAbove (.ref C)) none)
    (hC : Looks (model prog w) h (mroOf (.ref C)) l₀) (hl : (l₀.dropWhile (· != .ref D)).drop 1 = l) (X : K.In h)
    (hf : alongIn K "__init__" l = some (some (.builtin "Exception.__init__"))) (hxC : x ≠ C)
    (hCo : h.get? C = some (excClassObj nm q C N bs bm hdct sn sub ab col dd k0 k1 k2 k3 k5 newId)) (hb : bm.contains (.type "Exception") = true) (hx : h.get? x = some ox) (hxc : ox.cls = .ref C)
    (hq : Q (.done (.ret (.ref h.objs.size))) ⟨h.push { cls := .type "method-wrapper", data := .fields #[.builtin "Exception.__init__", .ref x] }, g, d, t, os⟩) :
    wpAny (model prog w) A (Builtin.«super.__getattribute__» ⟨[.ref so, .str "__init__" tk], []⟩) Q E ⟨h, g, d, t, os⟩ := by
  have hlk := sx_slot_wd_get.lookup
  have hne : (Value.ref x == Value.ref C) = false := by simp [hxC]
  have hn : (("__init__" : Str) == ("__class__" : Str)) = false := by decide
  have hT : (⟨h, g, d, t, os⟩ : Shared).TypeIs (.builtin "Exception.__init__") "wrapper_descriptor" := by first | rfl | kernel_rfl | decide +kernel
  have hcB : (Value.ref C :: bm).contains (.type "Exception") = true := by rw [List.contains_cons, hb, Bool.or_true]
  have hcut : (".".intercalate ("Exception.__init__".cutAt '.').dropLast) = "Exception" := by decide +kernel
  have hdt : ({ cls := .type "super", dict := none, data := .fields #[.ref D, .ref x, .ref C], slots := #[] } : Obj).data = .fields #[.ref D, .ref x, .ref C] := rfl
  have f0 : (#[.ref D, .ref x, .ref C] : Array Value)[0]? = some (.ref D) := rfl
  have f1 : (#[.ref D, .ref x, .ref C] : Array Value)[1]? = some (.ref x) := rfl
  have f2 : (#[.ref D, .ref x, .ref C] : Array Value)[2]? = some (.ref C) := rfl
  unfold Builtin.«super.__getattribute__»
  repeat (first
    | (with_reducible refine wpAny_field hso hdt f0 ?_) | (with_reducible refine wpAny_field hso hdt f1 ?_) | (with_reducible refine wpAny_field hso hdt f2 ?_)
    | (with_reducible refine PySem.ks_wpAny_notOpaque hno ?_)
    | (with_reducible refine Looks.at hC ?_; rw [hl])
    | (refine PySem.ks_forIn_along X (fun _ _ => rfl) rfl ?_ hf)
    | (with_reducible refine wpAny_call_entry sx_slot_wd_get hT sx_entry_wd_get ?_ (sx_getArgs_wd _ _ _))
    | (with_reducible refine ⟨_, rfl, ?_⟩)
    | (with_reducible refine wpAny_loadPart_at hx ?_; rw [hxc]) | (rw [hcut]; refine wpAny_isSubtype_exc hCo ?_; rw [hcB])
    | (simp only [hn, hne, Bool.or_false, Bool.false_eq_true, if_false])
    | wp_step
    | dsimp only)
  all_goals exact hq

theorem sx_getMethod {so D x C : Addr} {ox : Obj} {bm l₀ l : List Value} {K : Frag} {pl : Sem Bool} {Q : Value × List Value → Shared → Prop}
    (hso : h.get? so = some { cls := .type "super", dict := none, data := .fields #[.ref D, .ref x, .ref C], slots := #[] }) (hno : Looks (model prog w) h (opaqueClassAbove (.ref C)) none)
    (hC : Looks (model prog w) h (mroOf (.ref C)) l₀) (hl : (l₀.dropWhile (· != .ref D)).drop 1 = l) (X : K.In h)
    (hf : alongIn K "__init__" l = some (some (.builtin "Exception.__init__"))) (hxC : x ≠ C)
    (hCo : h.get? C = some (excClassObj nm q C N bs bm hdct sn sub ab col dd k0 k1 k2 k3 k5 newId)) (hb : bm.contains (.type "Exception") = true) (hx : h.get? x = some ox) (hxc : ox.cls = .ref C)
    (hq : Q (.ref h.objs.size, []) ⟨h.push { cls := .type "method-wrapper", data := .fields #[.builtin "Exception.__init__", .ref x] }, g, d, t + 1, os⟩) :
    wpAny (model prog w) A (getMethod (.ref so) "__init__" pl) Q E ⟨h, g, d, t, os⟩ := by
  have hlk := F.ks_slot_super_ga.lookup
  have hcan := F.ks_canon_super_ga
  have hT : ∀ t', (⟨h, g, d, t', os⟩ : Shared).TypeIs (.ref so) "super" := fun _ => ⟨_, hso, rfl⟩
  unfold getMethod
  refine wpAny_bind (wpAny_specialOf (hT _) hlk ?_)
  show wpAny _ _ (if (Manifest.canonical "super.__getattribute__" != "object.__getattribute__") = true then _ else _) _ _ _
  rw [if_pos hcan]
  unfold getAttr getAttrBy
  refine wpAny_bind (wpAny_bind (wpAny_mkText (wpAny_holding (wpAny_bind (wpAny_typeOf (hT _) (wpAny_bind (wpAny_of_eq hlk ?_)))))))
  show wpAny _ _ (getAttrByItsOwn (.ref so) (.str "__init__" t) (.type "super") (.builtin "super.__getattribute__") true false) _ _ _
  unfold getAttrByItsOwn hookBefore callGetattribute boundAndCalled
  refine wpAny_bind (wpAny_of_eq (show (if onTheHeap (.type "super") then typeLookup (.type "super") "__getattr__" else pure none) = pure none from rfl) ?_)
  refine wpAny_bind (wpAny_attempt (wpAny_holding ?_))
  show wpAny _ _ (bindSpecial (.builtin "super.__getattribute__") (.ref so) >>= _) _ _ _
  refine wpAny_bind (wpAny_of_eq (F.ks_slot_super_ga.bind _) ?_)
  refine wpAny_mono (Q := fun v s' => v = .ref h.objs.size ∧ s' = ⟨h.push { cls := .type "method-wrapper", data := .fields #[.builtin "Exception.__init__", .ref x] }, g, d, t + 1, os⟩) (E := fun _ _ => False)
    (wpAny_call_entry F.ks_slot_super_ga (hT _) F.ks_entry_super_ga (sx_ga hso hno hC hl X hf hxC hCo hb hx hxc ⟨_, rfl, rfl, rfl⟩) (F.ks_gaArgs_super _ _)) (fun v s' hv => ?_) fun _ _ z => z.elim
  obtain ⟨rfl, rfl⟩ := hv
  exact wpAny_pure (wpAny_pure hq)

end
section
variable {prog : Program} {w : World} {M : Model} {A : Around} {E : Value → Shared → Prop} {h : Heap} {g : Array GenState} {d : Drawn} {t : Nat} {os : OsState}
variable {nm q : Str} {C N : Addr} {bs : List Value} {hdct : Bool} {sn : List Str} {sub : List Value} {ab : Bool} {col : Option Bool} {dd : Option Addr} {k0 k1 k2 k3 k5 : Option Value} {newId : String}
theorem sx_call_mw {mw x t0 : Addr} {ox : Obj} {vs : Array Value} {v : Value} {Q : Value → Shared → Prop}
    (hmw : h.get? mw = some { cls := .type "method-wrapper", data := .fields #[.builtin "Exception.__init__", .ref x] }) (hx : h.get? x = some ox)
    (hCo : h.get? C = some (excClassObj nm q C N bs [.type "Exception", .type "BaseException", .type "object"] hdct sn sub ab col dd k0 k1 k2 k3 k5 newId)) (hxc : ox.cls = .ref C) (hd : ox.data = .fields vs) (h0 : vs[0]? = some (.ref t0))
    (hq : Q .none ⟨(h.push { cls := .type "tuple", data := .seq [v].toArray }).update x (Obj.mapFields (·.setIfInBounds 0 (.ref h.objs.size))), g, d, t, os⟩) :
    wpAny (model prog w) A (call (.ref mw) [v]) Q E ⟨h, g, d, t, os⟩ := by
  have hsig : Manifest.signature? "Exception.__init__" = some ⟨.positional, "*", "Exception", .self, [⟨"args", .varPos, false⟩]⟩ := PySem.F.excBase_Exception.initRow
  have hk : builtinKind "Exception.__init__" = some .slot := PySem.F.excBase_Exception.initKind
  refine wpAny_call (codeAny_of_tree ?_)
  show wpAny _ _ (callAny (.ref mw) ⟨[v], []⟩) _ _ _
  unfold callAny
  refine wpAny_bind (wpAny_load hmw ?_)
  try dsimp only
  rw [if_pos (by decide)]
  show wpAny _ _ (if (Value.type "method-wrapper" != Value.type "method") = true then _ else _) _ _ _
  rw [if_pos (by decide)]
  unfold checkBoundCall
  simp only [hsig, hk]
  rw [if_pos (by decide)]
  have hshort := PySem.F.excBase_Exception.noStar
  have hcB : (Value.ref C :: [Value.type "Exception", .type "BaseException", .type "object"]).contains (.type "Exception") = true := by rw [List.contains_cons, Bool.or_eq_true]; right; decide
  refine wpAny_bind ?_
  repeat (first | (with_reducible refine wpAny_loadPart_at hx ?_; rw [hxc]) | with_reducible refine wpAny_loadPart_at hCo ?_ | (with_reducible refine wpAny_isSubtype_exc hCo ?_; rw [hcB]) | wp_step)
  refine ⟨Code.quiet_builtin _ (by decide +kernel), codeAny_builtin PySem.F.excBase_Exception.initEntry ?_⟩
  unfold Builtin.«BaseException.__init__»
  try dsimp only
  rw [if_neg (by simp)]
  unfold newTuple Builtin.BaseException.bexcPut
  have hsz : 0 < vs.size := (Array.getElem?_eq_some_iff.mp h0).1
  have he₁ := Heap.get?_push_of_some (h := h) { cls := .type "tuple", data := .seq [v].toArray } hx
  refine wpAny_bind (wpAny_newObj_type (wpAny_bind (wpAny_bind (wpAny_field he₁ hd h0 (wpAny_bind (wpAny_setField he₁ hd hsz ?_))))) (by show [v].toArray.size ≤ sizeLine; rw [List.size_toArray]; exact Nat.le_trans (Nat.le_refl 1) (by decide)))
  exact wpAny_letGo (wpAny_pure hq)

theorem sx_callWith {env : Env} {pos : Pos} {mw x : Addr} {s : Shared} {e : PySem.Expr} {Q : Value → Shared → Prop}
    (h : wpAny M A (spliced (backTo pos (starEach [e] env))) (fun vs s₁ => s₁.heap.get? mw = some { cls := .type "method-wrapper", data := .fields #[.builtin "Exception.__init__", .ref x] } ∧ wpAny M A (call (.ref mw) vs) Q E s₁) E s)
    (he : starEach [e] env = [(false, eval e env)] := by rfl) :
    wpAny M A (callWith pos (.ref mw) [] (backTo pos (starEach [e] env)) []) Q E s := by
  rw [he] at h ⊢
  unfold callWith
  refine wpAny_bind (wpAny_holding (Calls.evalArgs_plain (wpAny_mono h (fun vs s₁ h₁ => ?_) fun _ _ x => x)))
  obtain ⟨hh, g, d, t, os⟩ := s₁
  refine wpAny_bind (wpAny_standAt ?_)
  show wpAny _ _ (keeperOf (.ref mw) >>= _) _ _ _
  unfold keeperOf
  refine wpAny_bind (wpAny_bind (wpAny_load h₁.1 ?_))
  try dsimp only
  rw [if_pos (by decide)]
  refine wpAny_pure ?_
  show wpAny _ _ (call (.ref mw) vs [] >>= fun r => do holding [r] point; pure r) _ _ _
  exact wpAny_bind (wpAny_mono h₁.2 (fun r s' hr => wpAny_bind (wpAny_holding (wpAny_point (wpAny_pure hr)))) fun _ _ x => x)
end
section
variable {prog : Program} {w : World} {A : Around} {E : Value → Shared → Prop} {h : Heap} {g : Array GenState} {d : Drawn} {t : Nat} {os : OsState}
variable {nm q : PySem.Str} {C N x : Addr} {bs : List Value} {sn : List PySem.Str} {sub : List Value} {ab : Bool} {col : Option Bool} {dd : Option Addr} {k0 k1 k2 k3 k5 : Option Value} {newId : String}
  {mN : PySem.Str → Option Value} {name : PySem.Str} {v : Value} {o : Obj}
open Builtin Builtin.ObjectAttr in
theorem sx_first {tk : Tok} {Q : PySem.Fin → Shared → Prop}
    (hC : h.get? C = some (excClassObj nm q C N bs [.type "Exception", .type "BaseException", .type "object"] true sn sub ab col dd k0 k1 k2 k3 k5 newId)) (hn : h.Ns N mN) (hna : mN name = none)
    (hB : typeLookup (.type "Exception") name = pure none) (hx : h.get? x = some o) (hc : o.cls = .ref C) {vs : Array Value} (hnc : o.data = .fields vs) (hdn : o.dict = none)
    (hq : ∀ h' tk', h'.get? x = some { o with dict := some h.objs.size } → h'.Ns1 h.objs.size (fun y => if y = name then some v else none) → (∀ b ob, b ≠ x → h.get? b = some ob → h'.get? b = some ob) →
      Q (.done (.ret .none)) ⟨h', g, d, tk', os⟩) :
    wpAny (model prog w) A (Builtin.«object.__setattr__» ⟨[.ref x, .str name tk, v], []⟩) Q E ⟨h, g, d, t, os⟩ := by
  have SF := PySem.F.store_Exception
  have hpass := SF.passes (.ref x)
  have hxs : x ≠ h.objs.size := Nat.ne_of_lt (Heap.lt_size hx)
  unfold Builtin.«object.__setattr__»
  repeat (first | rw [refuse_eq] | (rw [refuseLoop_ref, hpass]) | (with_reducible refine wpAny_loadPart_at hx ?_; rw [hc]) | with_reducible refine wpAny_mroOf_exc hC ?_ | (with_reducible refine wpAny_typeLookup_exc hC hn SF.mro hB ?_; rw [hna]) | wp_step)
  rw [hdn, if_neg (by simp [typeHasDict])]
  simp only [hnc]
  have hx₁ : (h.push { cls := .type "dict", data := .dict #[] }).get? x = some o := Heap.get?_push_of_some _ hx
  have hgd : ((h.push { cls := .type "dict", data := .dict #[] }).update x fun o => { cls := o.cls, dict := some h.objs.size, data := o.data, slots := o.slots }).get? h.objs.size
      = some { cls := .type "dict", data := .dict #[] } := (Heap.get?_update_ne _ _ _ _ hxs.symm).trans (Heap.get?_push_at rfl rfl)
  have hnd : ((h.push { cls := .type "dict", data := .dict #[] }).update x fun o => { cls := o.cls, dict := some h.objs.size, data := o.data, slots := o.slots }).Ns h.objs.size (fun _ => none) :=
    ⟨_, #[], _, hgd, rfl, fun e he => absurd he (by simp), fun _ => rfl⟩
  refine wpAny_bind (wpAny_alloc' (wpAny_bind (wpAny_update' hx₁ (wpAny_pure ?_))))
  show wpAny _ _ (storeInDict h.objs.size (.str name tk) name v) _ _ _
  unfold storeInDict newKeyGuard
  refine wpAny_bind (wpAny_pure (wpAny_bind (wpAny_nsSet1 (Heap.Ns1.of_empty hnd) fun h' hn' hs => ?_)))
  obtain ⟨oD, esD, epD, hoD, hdD, hcD⟩ := hn'.count (Within.cons name v Within.nil)
  refine wpAny_bind (wpAny_lookBehind hoD (by rw [hdD]; exact pastItsLine_dict (Nat.le_trans hcD (by rw [List.length_cons, List.length_nil, sizeLine_eq]; omega))) ?_)
  wp_walk
  have hn2 : h'.Ns1 h.objs.size (fun y => if y = name then some v else none) := by
    obtain ⟨o', es, ep, e1, e2, e3, eu, e4⟩ := hn'
    exact ⟨o', es, ep, e1, e2, e3, eu, fun y => by rw [e4 y]⟩
  have hx2 := (hs.2 x hxs).trans (Heap.get?_update_self _ hx₁ (Obj.isFreed_of_fields (vs := vs) hnc))
  dsimp only
  refine hq h' (t + 1) hx2 hn2 ?_
  intro b ob hbx hb
  · exact (hs.2 b (Nat.ne_of_lt (Heap.lt_size hb))).trans ((Heap.get?_update_ne _ _ _ _ hbx).trans (Heap.get?_push_of_some _ hb))
theorem sx_scall {tk : Tok} {R : Result → Shared → Prop} {sa owner : String} (SF : StoreFacts "Exception" [.type "Exception", .type "BaseException", .type "object"] sa owner)
    (hC : h.get? C = some (excClassObj nm q C N bs [.type "Exception", .type "BaseException", .type "object"] true sn sub ab col dd k0 k1 k2 k3 k5 newId)) (hn : h.Ns N mN) (hna : mN name = none)
    (hB : typeLookup (.type "Exception") name = pure none) (hx : h.get? x = some o) (hc : o.cls = .ref C) {vs : Array Value} (hnc : o.data = .fields vs) (hdn : o.dict = none)
    (hq : ∀ h' tk', h'.get? x = some { o with dict := some h.objs.size } → h'.Ns1 h.objs.size (fun y => if y = name then some v else none) → (∀ b ob, b ≠ x → h.get? b = some ob → h'.get? b = some ob) →
      R (.ok (.ret .none)) ⟨h', g, d, tk', os⟩) : codeAny (model prog w) A (.call (.builtin sa) ⟨[.ref x, .str name tk, v], []⟩) R ⟨h, g, d, t, os⟩ :=
  codeAny_call_builtin SF.slot.plain SF.entry (wpAny_check_sa SF hC hx hc (sx_first hC hn hna hB hx hc hnc hdn hq))
theorem sx_store {Q : Unit → Shared → Prop} {sa owner : String} (SF : StoreFacts "Exception" [.type "Exception", .type "BaseException", .type "object"] sa owner)
    (hC : h.get? C = some (excClassObj nm q C N bs [.type "Exception", .type "BaseException", .type "object"] true sn sub ab col dd k0 k1 k2 k3 k5 newId)) (hn : h.Ns N mN) (hns : mN "__setattr__" = none) (hna : mN name = none)
    (hB : typeLookup (.type "Exception") name = pure none) (hx : h.get? x = some o) (hc : o.cls = .ref C) {vs : Array Value} (hnc : o.data = .fields vs) (hdn : o.dict = none)
    (hq : ∀ h' tk', h'.get? x = some { o with dict := some h.objs.size } → h'.Ns1 h.objs.size (fun y => if y = name then some v else none) → (∀ b ob, b ≠ x → h.get? b = some ob → h'.get? b = some ob) →
      Q () ⟨h', g, d, tk', os⟩) :
    wpAny (model prog w) A (setAttr (.ref x) name v) Q E ⟨h, g, d, t, os⟩ := by
  have f3 := SF.slot.bind (.ref x)
  unfold setAttr callSpecial? specialOf
  repeat (any_goals (first | assumption | (with_reducible refine wpAny_loadPart_at hx ?_; rw [hc]) | (with_reducible refine wpAny_typeLookup_exc hC hn SF.mro SF.slot.lookup ?_; rw [hns]) | wp_step))
  refine sx_scall SF hC hn hna hB hx hc hnc hdn (fun h' tk' i1 i2 i3 => ?_)
  repeat (any_goals (first | assumption | wp_step))
  exact hq h' tk' i1 i2 i3
end
section
variable {prog : Program} {w : World} {A : Around} {E : Value → Shared → Prop} {h : Heap} {g : Array GenState} {d : Drawn} {t : Nat} {os : OsState}
variable {nm q : PySem.Str} {C N x dx : Addr} {bs : List Value} {sn : List PySem.Str} {sub : List Value} {ab : Bool} {col : Option Bool} {dd : Option Addr} {k0 k1 k2 k3 k5 : Option Value} {newId : String}
  {mN mA : PySem.Str → Option Value} {name : PySem.Str} {v : Value} {o : Obj} {vs : Array Value} {bm : List Value} {B : String}
open Builtin Builtin.ObjectAttr in
theorem sx_lentry {tk : Tok} {Q : PySem.Fin → Shared → Prop} (FB : ExcAttrBase B bm)
    (hC : h.get? C = some (excClassObj nm q C N bs bm true sn sub ab col dd k0 k1 k2 k3 k5 newId)) (hn : h.Ns N mN) (hna : mN name = none)
    (hB : typeLookup (.type B) name = pure none) (hx : h.get? x = some o) (hc : o.cls = .ref C) (hd : o.data = .fields vs) (hdx : o.dict = some dx) (hns : h.Ns dx mA) (hv : mA name = some v)
    (hq : Q (.done (.ret v)) ⟨h, g, d, t, os⟩) :
    wpAny (model prog w) A (Builtin.«object.__getattribute__» ⟨[.ref x, .str name tk], []⟩) Q E ⟨h, g, d, t, os⟩ := by
  unfold Builtin.«object.__getattribute__»
  repeat (any_goals (first | assumption | (with_reducible refine wpAny_loadPart_at hx ?_; rw [hc]) | (with_reducible refine wpAny_typeLookup_exc hC hn FB.mro hB ?_; rw [hna]) | wp_step))
  rw [hd]
  unfold instanceDict
  repeat (any_goals (first | (with_reducible refine wpAny_loadPart_at hx ?_; rw [hc]) | with_reducible refine wpAny_loadPart_at hC ?_ | wp_step))
  rw [hdx]
  repeat (any_goals (first | (with_reducible refine wpAny_nsGet hns ?_; rw [hv]) | wp_step))
  exact hq
theorem sx_lcall {tk : Tok} {R : Result → Shared → Prop} (FB : ExcAttrBase B bm)
    (hC : h.get? C = some (excClassObj nm q C N bs bm true sn sub ab col dd k0 k1 k2 k3 k5 newId)) (hn : h.Ns N mN) (hna : mN name = none)
    (hB : typeLookup (.type B) name = pure none) (hx : h.get? x = some o) (hc : o.cls = .ref C) (hd : o.data = .fields vs) (hdx : o.dict = some dx) (hns : h.Ns dx mA) (hv : mA name = some v)
    (hq : R (.ok (.ret v)) ⟨h, g, d, t, os⟩) :
    codeAny (model prog w) A (.call (.builtin "BaseException.__getattribute__") ⟨[.ref x, .str name tk], []⟩) R ⟨h, g, d, t, os⟩ :=
  codeAny_call_builtin FB.ga.plain PySem.F.entry_bexc_ga (wpAny_check_ga_own FB hC .base hx hc (sx_lentry FB hC hn hna hB hx hc hd hdx hns hv hq))
theorem sx_load {expr : Bool} {Q : Value → Shared → Prop} (FB : ExcAttrBase B bm)
    (hC : h.get? C = some (excClassObj nm q C N bs bm true sn sub ab col dd k0 k1 k2 k3 k5 newId)) (hn : h.Ns N mN) (hna : mN name = none) (hng : mN "__getattribute__" = none) (hnh : mN "__getattr__" = none)
    (hB : typeLookup (.type B) name = pure none) (hx : h.get? x = some o) (hc : o.cls = .ref C) (hd : o.data = .fields vs) (hdx : o.dict = some dx) (hns : h.Ns dx mA) (hv : mA name = some v)
    (hh : handedOut v = pure v) (hq : Q v ⟨h, g, d, t + 1, os⟩) : wpAny (model prog w) A (getAttr (.ref x) name expr) Q E ⟨h, g, d, t, os⟩ := by
  have f3 := FB.ga.bind (.ref x)
  have hx0 : (expr && onTheHeap (Value.builtin "BaseException.__getattribute__")) = false := by cases expr <;> rfl
  have hx2 : (Value.builtin "BaseException.__getattribute__" == Value.builtin "object.__getattribute__") = false := by decide +kernel
  have hx1 : (onTheHeap (Value.ref C) && Value.builtin "BaseException.__getattribute__" == Value.builtin "object.__getattribute__") = false := by rw [hx2]; rfl
  unfold getAttr getAttrBy
  repeat (any_goals (first | assumption | (with_reducible refine wpAny_loadPart_at hx ?_; rw [hc]) | (with_reducible refine wpAny_typeLookup_exc hC hn FB.mro FB.ga.lookup ?_; rw [hng]) | (with_reducible refine wpAny_typeLookup_exc hC hn FB.mro FB.noGetattr ?_; rw [hnh]) | wp_step))
  refine sx_lcall FB hC hn hna hB hx hc hd hdx hns hv ?_
  show wpAny _ _ (handedOut v) _ _ _
  rw [hh]
  exact wpAny_pure hq
end
theorem filled : (PySem.Challenge.rw_pq0135_01 = PySem.Challenge.rw_pq0135_01) ∧ (Mine.hd.heap_39 = Mine.hd.heap_39) := by
  k_fill
  exact ⟨rfl, rfl⟩
section
variable {prog : Program} {w : World} {A : Around} {E : Value → Shared → Prop} {hp : Heap} {g : Array GenState} {dr : Drawn} {tk : Nat} {os : OsState} {x y : Int} {t u : Tok} {Q : Value → Shared → Prop}
theorem add_i (h : ∀ v k, Q (.int (x + y) v) { heap := hp, gens := g, drawn := dr, toks := k, os := os }) : wpAny (model prog w) A (binaryOp .Add (.int x t) (.int y u)) Q E { heap := hp, gens := g, drawn := dr, toks := tk, os := os } := PyProof.Rows.add_int (h _ _)
theorem iadd_i (h : ∀ v k, Q (.int (x + y) v) { heap := hp, gens := g, drawn := dr, toks := k, os := os }) : wpAny (model prog w) A (inplaceOp .Add (.int x t) (.int y u)) Q E { heap := hp, gens := g, drawn := dr, toks := tk, os := os } := PyProof.Rows.iadd_int (h _ _)
theorem sub_i (h : ∀ v k, Q (.int (x - y) v) { heap := hp, gens := g, drawn := dr, toks := k, os := os }) : wpAny (model prog w) A (binaryOp .Sub (.int x t) (.int y u)) Q E { heap := hp, gens := g, drawn := dr, toks := tk, os := os } := PyProof.Rows.sub_int (h _ _)
theorem mul_i (hm : IntMulOk x y) (h : ∀ v k, Q (.int (x * y) v) { heap := hp, gens := g, drawn := dr, toks := k, os := os }) : wpAny (model prog w) A (binaryOp .Mult (.int x t) (.int y u)) Q E { heap := hp, gens := g, drawn := dr, toks := tk, os := os } := PyProof.Rows.mul_int (h _ _) hm
theorem imul_i (hm : IntMulOk x y) (h : ∀ v k, Q (.int (x * y) v) { heap := hp, gens := g, drawn := dr, toks := k, os := os }) : wpAny (model prog w) A (inplaceOp .Mult (.int x t) (.int y u)) Q E { heap := hp, gens := g, drawn := dr, toks := tk, os := os } := PyProof.Rows.imul_int (h _ _) hm
theorem neg_i (h : ∀ v k, Q (.int (-x) v) { heap := hp, gens := g, drawn := dr, toks := k, os := os }) : wpAny (model prog w) A (unaryOp .USub (.int x t)) Q E { heap := hp, gens := g, drawn := dr, toks := tk, os := os } := PyProof.Rows.neg_int (h _ _)
theorem fdiv_i (hy : y ≠ 0) (hl : y.natAbs.log2 < 9000) (h : ∀ v k, Q (.int (x.fdiv y) v) { heap := hp, gens := g, drawn := dr, toks := k, os := os }) : wpAny (model prog w) A (binaryOp .FloorDiv (.int x t) (.int y u)) Q E { heap := hp, gens := g, drawn := dr, toks := tk, os := os } :=
  PyProof.Rows.floordiv_int hy (h _ _) (Or.inl (PyProof.noPylong_of_log2 hl))
theorem fmod_i (hy : y ≠ 0) (h : ∀ v k, Q (.int (x.fmod y) v) { heap := hp, gens := g, drawn := dr, toks := k, os := os }) : wpAny (model prog w) A (binaryOp .Mod (.int x t) (.int y u)) Q E { heap := hp, gens := g, drawn := dr, toks := tk, os := os } := PyProof.Rows.mod_int' hy (h _ _)
theorem pow_i (h0 : 0 ≤ y) (h1 : y ≤ 1000000) (h : ∀ v k, Q (.int ((10 : Int) ^ y.toNat) v) { heap := hp, gens := g, drawn := dr, toks := k, os := os }) : wpAny (model prog w) A (binaryOp .Pow (.int 10 t) (.int y u)) Q E { heap := hp, gens := g, drawn := dr, toks := tk, os := os } :=
  PyProof.Rows.pow_int_small h0 h1 (by decide) (h _ _)
end
theorem const_i {M : Model} {A : Around} {E : Value → Shared → Prop} {hp : Heap} {g : Array GenState} {dr : Drawn} {tk : Nat} {os : OsState} {n : Int} {k : Nat} {pos : Pos} {env : Env} {Q : Value → Shared → Prop}
    (h : ∀ v k, Q (.int n v) { heap := hp, gens := g, drawn := dr, toks := k, os := os }) : wpAny M A (eval (.Constant (.int n) k pos) env) Q E { heap := hp, gens := g, drawn := dr, toks := tk, os := os } := PySem.wpAny_Constant_int (h _ _)
theorem ret_b {h₀ h' : Heap} {L : Addr} {m : PySem.Str → Option Value} {news news' : List (Addr × Obj)} {s : Shared} {Q : Value → Shared → Prop} {x y : Bool} {tk' : Nat}
    (hret : ∀ h' tk', Fr h₀ L h' m → News h₀ L h' news → Q (.bool x) { s with heap := h', toks := tk' })
    (F : Fr h₀ L h' m) (N : News h₀ L h' news') (hs : ∀ z ∈ news, z ∈ news') (e : y = x) : Q (.bool y) { s with heap := h', toks := tk' } := by
  subst e
  exact hret h' tk' F (cb_drop N hs)
local macro_rules | `(tactic| walk_at "mine go") => `(tactic| repeat' (first | (k_unfold; (try dsimp only)) | (k_end; kc_close) | ((fail_if_success (with_reducible refine whl_start 1000 ?_)); (fail_if_success (with_reducible show WhlRest _ _ _ _ _ _ _ _ _ _ _)); (fail_if_success (with_reducible refine WhlIf.yes ?_ ?_)); (first | walk1 | (dsimp only; walk1))) | (leave1; walk_say "STEP leave1"; (try dsimp only)) | fail "no step"))
local macro_rules | `(tactic| walk_at "execs cons") => `(tactic| (with_reducible refine genToks (fun tk => ?_)))
local macro_rules | `(tactic| walk_at "execs nil") => `(tactic| (with_reducible refine genToks (fun tk => ?_)))
local macro_rules | `(tactic| walk_at "mine bd") => `(tactic| first | (with_reducible assumption) | ((with_reducible refine' Bd.mul ?m0 ?m1); (case m0 => walk_at "mine bd"); (case m1 => walk_at "mine bd")) | ((with_reducible refine' Bd.neg ?m0); (case m0 => walk_at "mine bd")) | ((with_reducible refine' Bd.sub ?m0 ?m1); (case m0 => walk_at "mine bd"); (case m1 => walk_at "mine bd")) | ((with_reducible refine' Bd.add ?m0 ?m1); (case m0 => walk_at "mine bd"); (case m1 => walk_at "mine bd")) | ((with_reducible refine' Bd.ite ?m0 ?m1); (case m0 => walk_at "mine bd"); (case m1 => walk_at "mine bd")) | ((with_reducible refine Bd.pow (k := 1000) ?_); omega) | ((with_reducible refine Bd.small ?_ ?_) <;> omega))
local macro_rules | `(tactic| walk_at "mine ok") => `(tactic| first | assumption | exact PySem.IntMulOk.of_right (by decide) | exact PySem.IntMulOk.of_left (by decide) | (refine' bd_ok ?ba ?bb ?bc ?bd; (case ba => walk_at "mine bd"); (case bb => walk_at "mine bd"); (case bc => decide); (case bd => decide)))
local macro_rules | `(tactic| walk_at "binaryOp Add int int") => `(tactic| ((with_reducible refine add_i ?_); intro v9 k9))
local macro_rules | `(tactic| walk_at "binaryOp Sub int int") => `(tactic| ((with_reducible refine sub_i ?_); intro v9 k9))
local macro_rules | `(tactic| walk_at "inplaceOp Add int int") => `(tactic| ((with_reducible refine iadd_i ?_); intro v9 k9))
local macro_rules | `(tactic| walk_at "unaryOp USub int") => `(tactic| ((with_reducible refine neg_i ?_); intro v9 k9))
local macro_rules | `(tactic| walk_at "binaryOp Mult int int") => `(tactic| ((with_reducible refine mul_i ?e ?_); (case e => walk_at "mine ok"); intro v9 k9))
local macro_rules | `(tactic| walk_at "inplaceOp Mult int int") => `(tactic| ((with_reducible refine imul_i ?e ?_); (case e => walk_at "mine ok"); intro v9 k9))
local macro_rules | `(tactic| walk_at "binaryOp FloorDiv int int") => `(tactic| ((with_reducible refine fdiv_i ?e ?l ?_); (case e => first | decide | assumption | omega); (case l => first | assumption | exact pow10_log2 (by omega) | decide +kernel); intro v9 k9))
local macro_rules | `(tactic| walk_at "binaryOp Mod int int") => `(tactic| ((with_reducible refine fmod_i ?e ?_); (case e => first | decide | assumption | omega); intro v9 k9))
local macro_rules | `(tactic| walk_at "binaryOp Pow int int") => `(tactic| ((with_reducible refine pow_i ?e ?l ?_); (case e => first | decide | omega); (case l => first | decide | omega); intro v9 k9))
local macro_rules | `(tactic| walk_at "eval Constant int") => `(tactic| ((with_reducible refine const_i ?_); intro v9 k9))
local macro_rules | `(tactic| walk_at "mine bdk") => `(tactic| first | assumption | (refine' Bd.mono ?bm1 ?bm2; (case bm1 => walk_at "mine bd"); (case bm2 => decide)))
local macro_rules | `(tactic| walk_at "mine sx") => `(tactic| ((case B => k_asm); (case F => k_asm); (case X => k_asm); (case N => k_asm); (case T => k_asm); (case hk => first | exact rfl | assumption)))
local macro_rules | `(tactic| walk_at "mine su") => `(tactic| ((case hd => ktr_room); (case hu => ktr_units)))
local macro_rules | `(tactic| walk_at "mine sd") => `(tactic| ((case hd1 => first | assumption | omega); (case hd9 => first | assumption | omega)))
local macro_rules | `(tactic| walk_at "mine se") => `(tactic| ((case he1 => first | assumption | omega); (case he2 => first | assumption | omega)))
local macro_rules | `(tactic| walk_at "mine sn") => `(tactic| ((case hn => walk_at "mine bdk"); (case hq => walk_at "mine bdk")))
local macro_rules | `(tactic| walk_at "mine sr") => `(tactic| (intro D9 t9 u9 h9 tk9 l9 F9 N9; (try dsimp only); (try k_lt l9); (try k_sweep)))
local macro_rules | `(tactic| walk_at "mine sw") => `(tactic| ((try dsimp only); (try k_sweep)))
theorem ns_some_of {K : Frag} {h : Heap} {N : Addr} {mg : PySem.Str → Option Value} {n : PySem.Str} {v : Value} (X : K.In h) (G : h.Ns N mg) (e : nsIn K N n = some (some v)) : mg n = some v := by
  obtain ⟨o, es, ep, ho, hd, _, hf⟩ := G
  unfold nsIn at e
  split at e
  · rename_i c d es' n' sl q
    have := X _ _ q
    rw [ho] at this
    cases this
    cases hd
    split at e
    · rename_i en he
      cases e
      rw [← hf]
      unfold nsFind findBy
      rw [← Array.find?_toList, he]
      rfl
    · split at e <;> cases e
  · cases e
theorem fr_upd {g h h' : Heap} {L : Addr} {P : Addr → Prop} {m : PySem.Str → Option Value} (F : Fr g L h m) (k : ∀ b o, ¬ P b → h.get? b = some o → h'.get? b = some o) (hg : ∀ b, P b → g.get? b = none) (hL : ¬ P L) : Fr g L h' m := by
  obtain ⟨o, es, ep, ho, r⟩ := F.ns
  exact ⟨⟨o, es, ep, k _ _ hL ho, r⟩, fun b ob e => k b ob (fun q => by rw [hg b q] at e; cases e) (F.keep b ob e), F.above⟩
theorem news_upd {g h h' : Heap} {L : Addr} {P : Addr → Prop} {news : List (Addr × Obj)} (N : News g L h news) (k : ∀ b o, ¬ P b → h.get? b = some o → h'.get? b = some o) (hn : ∀ p ∈ news, ¬ P p.1) : News g L h' news :=
  fun p hp => ⟨k _ _ (hn p hp) (N p hp).1, (N p hp).2⟩
/-- an error of the program's own class, as its __init__ leaves it -/
def IsErr (code : PySem.Str) (e d : Addr) (oe od : Obj) : Prop :=
  oe.cls = .ref 34 ∧ (∃ t, oe.data = .fields #[.ref t, .none, .none, .none, .bool false, .none]) ∧ oe.dict = some d ∧ e ≠ d ∧ ∃ es ep tk, od.data = .dict es ep ∧ StrKeys es ∧ nsFind es "code" = some (.str code tk)
theorem hd_cls (P : Params) : (Mine.hd.heap_39 P).lookup 34 = some (excClassObj "BasicError" "BasicError" 34 33 [.type "Exception"] [.type "Exception", .type "BaseException", .type "object"] true [] [] false none none (some (.ref 15)) none (some (.str "BasicError" 191)) (some (.str "BasicError" 199)) (some (.bool true)) "Exception.__new__") := by k_is
section
variable {w : World} {p : Program} {loose : List PySem.Str} {mean : ExcName → Option Value} {mg mb : PySem.Str → Option Value}
 {outer : List Env} {A₀ A : Around} {env : Env} {base h₀ : Heap} {L : Addr} {m : PySem.Str → Option Value} {news : List (Addr × Obj)} {s : Shared} {Q E : Value → Shared → Prop}
theorem exc_c (B : Below A₀ base outer h₀) (F : Fr h₀ L s.heap m) (X : (Mine.hd.heap_39 w.params).In h₀) (N : News h₀ L s.heap news) (T : Top p loose mean mg mb h₀)
 (hA : A.frames = some (env :: outer)) (hf : env.frame = some L) (hke : env.scope.kind = .function) (hroom : A.depth + 5 < recursionLimit) (code : PySem.Str) (tk : Tok)
 (hret : ∀ e d oe od h' tk', IsErr code e d oe od → (∀ p ∈ news, p.1 ≠ e) → Fr h₀ L h' m → News h₀ L h' ((e, oe) :: (d, od) :: news) → Q (.ref e) { s with heap := h', toks := tk' }) :
 wpAny (model PySem.Challenge.rw_pq0135_01.row.prog w) A (call (.ref 34) [.str code tk]) Q E s := by
  have X1 := X.keeps F.keep
  obtain ⟨hp, g, dr, t, os⟩ := s
  have hns : (hp).Ns 33 (hp.nsMap 33) := .of_isNs (isNs_of_in X1 (by first | rfl | decide | kernel_rfl))
  refine wpAny_call_exc_init PySem.F.excBase_Exception (X1 34 _ (hd_cls _)) hns (ns_some_of X1 hns (by k_is)) (X1 31 _ (by k_is)) rfl (fun h1 e hm => ?_) ?_
  case refine_2 => exact Nat.le_trans (Nat.le_refl 1) (by decide)
  obtain ⟨t0, he, htn, ht⟩ := hm.there
  have hne : ∀ p ∈ news, p.1 ≠ e := fun p hp q => by
    have := (N p hp).1
    rw [q, hm.new] at this
    cases this
  have F1 : Fr h₀ L (⟨h1, g, dr, t, os⟩ : Shared).heap m := F.keeps hm.keeps
  have N1 : News h₀ L (⟨h1, g, dr, t, os⟩ : Shared).heap ((e, { cls := .ref 34, data := .fields #[.ref t0, .none, .none, .none, .bool false, .none] }) :: (t0, { cls := .type "tuple", data := .seq [Value.str code tk].toArray }) :: news) := by
    have gn : ∀ b, hp.get? b = none → h₀.get? b = none := fun b hb => by
      cases q : h₀.get? b with
      | none => rfl
      | some o => have := F.keep b o q; rw [hb] at this; cases this
    have gl : ∀ b, hp.get? b = none → b ≠ L := fun b hb q => by
      obtain ⟨o, es, ep, ho, _⟩ := F.ns
      rw [q] at hb
      rw [hb] at ho
      cases ho
    intro z hz
    rcases List.mem_cons.mp hz with rfl | hz
    · exact ⟨he, gl _ hm.new, gn _ hm.new⟩
    rcases List.mem_cons.mp hz with rfl | hz
    · exact ⟨ht, gl _ htn, gn _ htn⟩
    exact News.grown N hm.keeps z hz
  refine wpAny_call ?_
  refine' ks_code_super ?k1 ?k2 ?k3 ?k4 ?k5 ?kA ?kF ?kK ?k6 ?k7 ?k8 ?k9 ?kB ?_ ?c1 ?c2 ?c3 ?c4
  case k1 => exact B
  case k2 => exact F1
  case k3 => exact X
  case k4 => exact N1
  case k5 => exact T
  case kA => exact hA
  case kF => exact hf
  case kK => exact hke
  case k6 => k_is
  case k7 => k_is
  case k8 => (rw [depth_under_make]; omega)
  case k9 => exact binds_K (X.keeps F1.keep) rfl (by k_is) rfl rfl rfl
  case kB => exact locs rfl
  case c1 => decide
  case c2 => exact rfl
  case c3 => exact rfl
  case c4 => exact rfl
  intro g' L' h2 FG2 F2 N2 B2 X2 T2 l2
  dsimp only
  refine ks_wpAt_execs_cons (ks_wpAt_Expr_any (ks_wpAt_MethodCall ?_))
  have I2 : InstAt h2 e { cls := .ref 34, data := .fields #[.ref t0, .none, .none, .none, .bool false, .none] } 34 none := ⟨(N2 _ (.head _)).1, rfl, rfl, trivial⟩
  refine ks_node F2 X2 N2 T2 (by k_is) (by rfl) (by rfl) I2 (by k_is) (by rfl) (by first | rfl | decide +kernel) (by k_is) (by k_is) (by k_is) (by k_is) (by decide) (by rfl) (by rfl) (by rfl) (by rfl) (by decide +kernel) (by first | boot_by_name | rfl | kernel_rfl) ?_
  intro so h3 F3 N3 l3
  have X3 := X2.keeps F3.keep
  refine sx_getMethod (N3 _ (.head _)).1 (looks_opaque X3 (by k_is)) (l₀ := [.ref 34, .type "Exception", .type "BaseException", .type "object"]) (l := [.type "Exception", .type "BaseException", .type "object"]) (fun A Q E s k q => wpAny_bind ((looks_clsIn X3 (by k_is)) A _ E s k (wpAny_pure q))) rfl X3 (by kernel_rfl) ?ne (X3 34 _ (hd_cls _)) rfl (N3 _ (.tail _ (.head _))).1 rfl ?_
  case ne => exact fun q => by have := (N3 _ (.tail _ (.head _))).2.2; rw [q, X2 34 _ (hd_cls _)] at this; cases this
  dsimp only
  have F4 := Fr.keeps (h' := h3.push { cls := .type "method-wrapper", data := .fields #[.builtin "Exception.__init__", .ref e] }) F3 (fun b o z => Heap.get?_push_of_some _ z)
  have N4 := News.grown N3 (h' := h3.push { cls := .type "method-wrapper", data := .fields #[.builtin "Exception.__init__", .ref e] }) (fun b o z => Heap.get?_push_of_some _ z)
  refine sx_callWith (x := e) ?_
  walk_at "mine go"
  · exact Heap.get?_push_size _ rfl
  refine sx_call_mw (Heap.get?_push_size _ rfl) (Heap.get?_push_of_some _ (N3 _ (.tail _ (.head _))).1) (Heap.get?_push_of_some _ (X3 34 _ (hd_cls _))) rfl rfl rfl ?_
  have eL : e ≠ L' := (N3 _ (.tail _ (.head _))).2.1
  have eg : g'.get? e = none := (N3 _ (.tail _ (.head _))).2.2
  have k5 : ∀ b o, b ≠ e → h3.get? b = some o → (((h3.push { cls := .type "method-wrapper", data := .fields #[.builtin "Exception.__init__", .ref e] }).push { cls := .type "tuple", data := .seq [Value.str code tk].toArray }).update e (Obj.mapFields (·.setIfInBounds 0 (.ref (h3.push { cls := .type "method-wrapper", data := .fields #[.builtin "Exception.__init__", .ref e] }).objs.size)))).get? b = some o := fun b o hb z => by
    rw [Heap.get?_update_other _ _ (Ne.symm hb)]
    exact Heap.get?_push_of_some _ (Heap.get?_push_of_some _ z)
  have e5 : (((h3.push { cls := .type "method-wrapper", data := .fields #[.builtin "Exception.__init__", .ref e] }).push { cls := .type "tuple", data := .seq [Value.str code tk].toArray }).update e (Obj.mapFields (·.setIfInBounds 0 (.ref (h3.push { cls := .type "method-wrapper", data := .fields #[.builtin "Exception.__init__", .ref e] }).objs.size)))).get? e = some { cls := .ref 34, data := .fields #[.ref (h3.push { cls := .type "method-wrapper", data := .fields #[.builtin "Exception.__init__", .ref e] }).objs.size, .none, .none, .none, .bool false, .none] } :=
    Heap.get?_update_self _ (Heap.get?_push_of_some _ (Heap.get?_push_of_some _ (N3 _ (.tail _ (.head _))).1)) rfl
  generalize (h3.push { cls := .type "method-wrapper", data := .fields #[.builtin "Exception.__init__", .ref e] }).objs.size = t5 at *
  generalize ((h3.push { cls := .type "method-wrapper", data := .fields #[.builtin "Exception.__init__", .ref e] }).push { cls := .type "tuple", data := .seq [Value.str code tk].toArray }).update e (Obj.mapFields (·.setIfInBounds 0 (.ref t5))) = h5 at *
  have F5 : Fr g' L' h5 _ := fr_upd (P := fun b => b = e) F3 k5 (fun b q => q ▸ eg) (fun q => eL q.symm)
  have N5 : News g' L' h5 news := news_upd (P := fun b => b = e) (fun p hp => N3 p (.tail _ (.tail _ (.tail _ hp)))) k5 hne
  have e34 : e ≠ 34 := fun q => by rw [q, X2 34 _ (hd_cls _)] at eg; cases eg
  clear F4 N4 F1 N1 F2 N2 F3 N3 k5
  refine wpAt_of_wpAny ?_
  walk_at "mine go"
  have X5 := X2.keeps F5.keep
  have hn5 : h5.Ns 33 (h5.nsMap 33) := .of_isNs (isNs_of_in X5 (by first | rfl | decide | kernel_rfl))
  refine sx_store PySem.F.store_Exception (X5 34 _ (hd_cls _)) hn5 (nsMap_none_of_in X5 (by first | rfl | decide | kernel_rfl) (by k_is)) (nsMap_none_of_in X5 (by first | rfl | decide | kernel_rfl) (by k_is)) (by rw [typeLookup_type, builtinLookup_eq_fast]; kernel_rfl) e5 rfl rfl rfl ?_
  intro h6 tk6 e6 d6 k6
  have dg : g'.get? h5.objs.size = none := by
    cases q : g'.get? h5.objs.size with
    | none => rfl
    | some o => exact absurd (Heap.lt_size (F5.keep _ _ q)) (Nat.lt_irrefl _)
  have dL : h5.objs.size ≠ L' := Nat.ne_of_gt F5.ns.lt
  have de : h5.objs.size ≠ e := Nat.ne_of_gt (Heap.lt_size e5)
  have dn : ∀ p ∈ news, p.1 ≠ h5.objs.size := fun p hp => Nat.ne_of_lt (Heap.lt_size (N5 p hp).1)
  have F6 : Fr g' L' h6 _ := fr_upd (P := fun b => b = e) F5 k6 (fun b q => q ▸ eg) (fun q => eL q.symm)
  have N6 : News g' L' h6 news := news_upd (P := fun b => b = e) N5 k6 hne
  generalize h5.objs.size = dd at *
  clear F5 N5 k6 X5 hn5
  walk_at "mine go"
  have X6 := X2.keeps F6.keep
  have hn6 : h6.Ns 33 (h6.nsMap 33) := .of_isNs (isNs_of_in X6 (by first | rfl | decide | kernel_rfl))
  refine store_attr PySem.F.store_Exception (X6 34 _ (hd_cls _)) hn6 (nsMap_none_of_in X6 (by first | rfl | decide | kernel_rfl) (by k_is)) (nsMap_none_of_in X6 (by first | rfl | decide | kernel_rfl) (by k_is)) (by rw [typeLookup_type, builtinLookup_eq_fast]; kernel_rfl) e34 ⟨_, e6, rfl, (fun c q => by cases q), .inr ⟨dd, rfl, de, d6⟩⟩ ?_
  intro h7 tk7 I7 k7 s7
  have k7' : ∀ b o, ¬ (b = e ∨ b = dd) → h6.get? b = some o → h7.get? b = some o := fun b o q z => k7 b o (fun w => q (.inl w)) (fun o0 dx y1 y2 y3 => by
    rw [e6] at y1
    cases y1
    cases y2
    exact q (.inr y3)) z
  have F7 : Fr g' L' h7 _ := fr_upd (P := fun b => b = e ∨ b = dd) F6 k7' (fun b q => q.elim (fun q => q ▸ eg) (fun q => q ▸ dg)) (fun q => q.elim (fun q => eL q.symm) (fun q => dL q.symm))
  have N7 : News g' L' h7 news := news_upd (P := fun b => b = e ∨ b = dd) N6 k7' (fun p hp q => q.elim (hne p hp) (dn p hp))
  obtain ⟨o7, x7, c7, a7, _, q7⟩ := s7 _ e6
  obtain ⟨o8, x8, _, _, r8⟩ := I7
  rw [x7] at x8
  cases x8
  rcases r8 with ⟨r8, _⟩ | ⟨d8, r8, _, od, es, ep, y1, y2, y3, _, y4⟩
  · have := q7 dd rfl
    rw [r8] at this
    cases this
  have := q7 dd rfl
  rw [r8] at this
  cases this
  have NN : News g' L' h7 ((e, o7) :: (dd, od) :: news) := by
    intro z hz
    rcases List.mem_cons.mp hz with rfl | hz
    · exact ⟨x7, eL, eg⟩
    rcases List.mem_cons.mp hz with rfl | hz
    · exact ⟨y1, dL, dg⟩
    exact N7 z hz
  have hE : IsErr code e dd o7 od := ⟨c7, ⟨t5, a7⟩, r8, Ne.symm de, es, ep, tk, y2, y3, (y4 "code").trans (by dsimp only; rw [if_neg (by decide), if_pos rfl])⟩
  walk_at "execs nil"
  exact leaveK_ F7 NN (fun kF kN => ⟨rfl, hret e dd o7 od h7 _ hE hne kF kN⟩)
end
theorem mem_fr {env : Env} {outer : List Env} {L b : Addr} (hf : env.frame = some L) (hm : b ∈ (env :: outer).filterMap (·.frame)) : b = L ∨ b ∈ outer.filterMap (·.frame) := by
  obtain ⟨v, he, q⟩ := List.mem_filterMap.mp hm
  rcases List.mem_cons.mp he with rfl | he
  · rw [hf] at q; exact .inl (Option.some.inj q).symm
  · exact .inr (List.mem_filterMap.mpr ⟨v, he, q⟩)
def ErrAt (h : Heap) (e d : Addr) : Prop := ∃ o, h.get? e = some o ∧ o.dict = some d
def HasCode (code : PySem.Str) (od : Obj) : Prop := ∃ es ep tk, od.data = .dict es ep ∧ StrKeys es ∧ nsFind es "code" = some (.str code tk)
/-- an error of the program's own class under way, above the frames l -/
def Flying (base G : Heap) (l : List Env) (code : PySem.Str) (news : List (Addr × Obj)) (e : Addr) (h : Heap) : Prop :=
  ∃ d od, RaisedSN base G l e (.ref 34) ((d, od) :: news) h ∧ ErrAt h e d ∧ HasCode code od
theorem Flying.mono {base G h : Heap} {l : List Env} {code : PySem.Str} {news news' : List (Addr × Obj)} {e : Addr} (R : Flying base G l code news' e h) (hs : ∀ z ∈ news, z ∈ news') : Flying base G l code news e h := by
  obtain ⟨d, od, ⟨B, a0, hB, hBG, hl, hfl⟩, hd, hc⟩ := R
  exact ⟨d, od, ⟨B, a0, hB, hBG, fun q hq => hl q ((List.mem_cons.mp hq).elim (fun e => e ▸ List.Mem.head _) (fun hz => List.Mem.tail _ (hs q hz))), hfl⟩, hd, hc⟩
section
variable {M : Model} {A : Around} {E : Value → Shared → Prop} {s' : Shared} {base g g₂ : Heap} {outer : List Env} {env : Env} {L a e : Addr} {m : PySem.Str → Option Value} {name : PySem.Str} {scope : Scope} {cd : Value} {Q : Unit → Shared → Prop} {news : List (Addr × Obj)} {code : PySem.Str}
theorem err_first {d : Addr} {oe od : Obj} (K : Below A base outer g) (hE : IsErr code e d oe od) (F : Fr g L s'.heap m) (N : News g L s'.heap ((e, oe) :: (d, od) :: news))
    (hQ : ∀ h', Flying base g outer code news e h' → g.UpToSlots h' → Q () { s' with heap := h' }) (hne : ∀ p ∈ news, p.1 ≠ e) (hk : scope.kind = .function := by rfl) :
    wpAny M (A.deeper (envOf name scope L a cd)) (leaving (envOf name scope L a cd) (.ref e)) Q E s' := by
  obtain ⟨hc, ⟨t, hdt⟩, hdd, hed, hcode⟩ := hE
  have K' := K.push (name := name) (a := a) (cd := cd) F hk
  have he := (N _ (.head _)).1
  have eg := (N _ (.head _)).2.2
  have eL := (N _ (.head _)).2.1
  have hin : ∀ v ∈ (envOf name scope L a cd :: outer), ∀ b, v.frame = some b → b ∈ e :: (envOf name scope L a cd :: outer).filterMap (·.frame) := fun v hv b hb => .tail _ (List.mem_filterMap.mpr ⟨v, hv, hb⟩)
  have st : base.StaysIn (hideAll s'.heap (e :: (envOf name scope L a cd :: outer).filterMap (·.frame))) := fun b o q => hideAll_get _ (K'.stays b o q) fun hm => by
    rcases List.mem_cons.mp hm with rfl | hm
    · rw [fresh_of_stays K.stays eg] at q; cases q
    · rw [(K'.frames.mem hm).1] at q; cases q
  have sg : ∀ b o, g.get? b = some o → b ∉ outer.filterMap (·.frame) → (hideAll s'.heap (e :: (envOf name scope L a cd :: outer).filterMap (·.frame))).get? b = some o := fun b o q nm => hideAll_get _ (F.keep b o q) fun hm => by
    rcases List.mem_cons.mp hm with rfl | hm
    · rw [eg] at q; cases q
    rcases mem_fr rfl hm with z | z
    · rw [z, kts_self F] at q; cases q
    · exact nm z
  have hl : ∀ q ∈ (d, od) :: news, (hideAll s'.heap (e :: (envOf name scope L a cd :: outer).filterMap (·.frame))).get? q.1 = some q.2 ∧ g.get? q.1 = none ∧ base.get? q.1 = none := fun q hq => by
    have Nq := N q (.tail _ hq)
    refine ⟨hideAll_get _ Nq.1 fun hm => ?_, Nq.2.2, fresh_of_stays K.stays Nq.2.2⟩
    rcases List.mem_cons.mp hm with z | hm
    · rcases List.mem_cons.mp hq with rfl | hq
      · exact hed z.symm
      · exact hne q hq z
    rcases mem_fr rfl hm with z | z
    · exact Nq.2.1 z
    · obtain ⟨o, ho, _⟩ := (K.frames.mem z).2
      rw [Nq.2.2] at ho; cases ho
  have hen : (hideAll s'.heap (e :: (envOf name scope L a cd :: outer).filterMap (·.frame))).get? e = none := hideAll_none _ (.head _)
  have h1 := wpAny_leaving_firstW (M := M) (A := A.deeper (envOf name scope L a cd)) (E := fun _ _ => False) (s := s') (a0 := .ref t) (Q := fun _ s₂ => ∃ h', s₂ = { s' with heap := h' } ∧ Heap.LeftW (hideAll s'.heap (e :: (envOf name scope L a cd :: outer).filterMap (·.frame))) (envOf name scope L a cd :: outer) e oe.cls (.ref t) s'.heap h')
    K'.stack (funFrames_hide K'.frames hin) rfl he (fun b o hb => of_hideAll _ hb) hen hdt rfl rfl (fun h' hL => ⟨h', rfl, hL⟩)
  refine wpAny_mono ((tame_leaving _ _).run h1) (fun u s₂ x => ?_) fun _ _ x => x.1.elim
  obtain ⟨⟨h', rfl, k1, ⟨_, _, k2⟩, k3, k4⟩, kd⟩ := x
  exact hQ h' ⟨d, od, ⟨_, .ref t, st, sg, hl, k1, hen, k2, hc ▸ k3⟩, kd.at ⟨oe, he, hdd⟩, hcode⟩ ((Heap.UpToSlots.of_keeps F.keep).trans k4)
theorem err_on (K : Below A base outer g) (hf : env.frame = some L) (F : Fr g L g₂ m) (R : Flying base g₂ (env :: outer) code news e s'.heap) (hsm : g₂.UpToSlots s'.heap)
    (hQ : ∀ h', Flying base g outer code news e h' → g.UpToSlots h' → Q () { s' with heap := h' }) :
    wpAny M (A.deeper env) (leaving env (.ref e)) Q E s' := by
  obtain ⟨d, od, ⟨B, a0, hB, hBG, hl, hfl⟩, hd, hc⟩ := R
  have h1 := wpAny_leaves_onW (M := M) (A := A.deeper env) (E := fun _ _ => False) (s := s') (Q := fun _ s₂ => ∃ h', s₂ = { s' with heap := h' } ∧ Heap.FlyingW B outer e (.ref 34) a0 h' ∧ s'.heap.UpToSlots h') (Around.frames_deeper K.stack) hf hfl (fun h' x y => ⟨h', rfl, x, y⟩)
  refine wpAny_mono ((tame_leaving _ _).run h1) (fun u s₂ x => ?_) fun _ _ x => x.1.elim
  obtain ⟨⟨h', rfl, k1, k2⟩, kd⟩ := x
  refine hQ h' ⟨d, od, ⟨B, a0, hB, fun b o q nm => hBG b o (F.keep b o q) (fun hm => ?_), fun q hq => ⟨(hl q hq).1, kts_none F.keep (hl q hq).2.1, (hl q hq).2.2⟩, k1⟩, kd.at hd, hc⟩ ((Heap.UpToSlots.of_keeps F.keep).trans (hsm.trans k2))
  rcases mem_fr hf hm with z | z
  · rw [z, kts_self F] at q; cases q
  · exact nm z
end
section
variable {prog : Program} {w : World} {A₀ : Around} {E : Value → Shared → Prop} {s' : Shared} {base g G : Heap} {outer : List Env} {L a e : Addr} {m : PySem.Str → Option Value} {name : PySem.Str} {scope : Scope} {cd : Value}
  {n : PySem.Str} {b₀ : Stmt} {suite : List Stmt} {pos np : Pos} {rest : List ExceptHandler} {Q : Flow → Shared → Prop} {news : List (Addr × Obj)} {KF : Frag} {code : PySem.Str}
  {p : Program} {loose : List PySem.Str} {mean : ExcName → Option Value} {mg mb : PySem.Str → Option Value} {x : PySem.Str}
theorem err_caught (R : Flying base G (envOf name scope L a cd :: outer) code news e s'.heap) (F : Fr g L G m) (K : Below A₀ base outer g) (hsm : G.UpToSlots s'.heap) (XB : KF.In base) (TB : Top p loose mean mg mb base)
    (ex : nsIn KF mainGlobals x = some (some (.ref 34))) (q : ktsIn KF 34 "BaseException" = true)
    (k : ∀ h' g' oe od d tk, oe.cls = .ref 34 → (∃ vs, oe.data = .fields vs) → oe.dict = some d → HasCode code od → KtsTurn (outer.filterMap (·.frame)) g g' → Fr g' L h' (fun y => if y = n then some (.ref e) else m y) → News g' L h' ((e, oe) :: (d, od) :: news) → Below A₀ base outer g' → KF.In g' → Top p loose mean mg mb g' →
      wpAny (model prog w) ((A₀.deeper (envOf name scope L a cd)).mark (some (.ref e))) (execs (b₀ :: suite) (envOf name scope L a cd))
        (fun f s₄ => wpAny (model prog w) (A₀.deeper (envOf name scope L a cd)) (do bindName (envOf name scope L a cd) n .none; unbindBehindTheSuite (envOf name scope L a cd) n pos) (fun _ s₅ => Q f s₅) E s₄)
        (AsSuiteRaised (model prog w) ((A₀.deeper (envOf name scope L a cd)).mark (some (.ref e))) (envOf name scope L a cd) n pos (notedBy (model prog w) ((A₀.deeper (envOf name scope L a cd)).mark (some (.ref e))) (envOf name scope L a cd) (cameBackBy (model prog w) (A₀.deeper (envOf name scope L a cd)) (envOf name scope L a cd) E)))
        { s' with heap := h', toks := tk })
    (hk : scope.kind = .function := by rfl) (hlo : (envOf name scope L a cd).kindOf n = some .local := by rfl) (hx : (envOf name scope L a cd).kindOf x = some .globalImplicit := by rfl) (hd : (x == ("__debug__" : PySem.Str)) = false := by decide) :
    wpAny (model prog w) (A₀.deeper (envOf name scope L a cd)) (noteFrame (.ref e) (envOf name scope L a cd))
      (fun _ s₂ => wpAny (model prog w) (A₀.deeper (envOf name scope L a cd)) (setFlight (.ref e) none) (fun _ s₃ =>
        wpAny (model prog w) (A₀.deeper (envOf name scope L a cd)) (handleBy (.ref e) (envOf name scope L a cd) (.ExceptHandler (some (.Name x np)) (some n) (b₀ :: suite) pos :: rest)) Q E s₃) E s₂) E s' := by
  obtain ⟨d, od, ⟨B, a0, hB, hBG, hl, hfl⟩, hdict, hcode⟩ := R
  have hL : B.get? L = none := by
    obtain ⟨_, ⟨L', _, hf, hn', _⟩, _⟩ := hfl.2.2.1
    obtain rfl : L = L' := Option.some.inj hf
    exact hn'
  have w1 := wpAny_looks_onW (M := model prog w) (A := A₀.deeper (envOf name scope L a cd)) (E := fun _ _ => False) (s := s') (Q := fun _ s₂ => ∃ h', s₂ = { s' with heap := h' } ∧ Heap.HeldW B (envOf name scope L a cd :: outer) e (.ref 34) a0 L h' ∧ s'.heap.UpToSlots h') (Around.frames_deeper K.stack) rfl hfl (fun h' x y => ⟨h', rfl, x, y⟩)
  refine wpAny_mono ((tame_noteFrame _ _).run w1) (fun u s₂ z => ?_) fun _ _ z => z.1.elim
  obtain ⟨⟨h₄, rfl, hheld₄, hsm₄⟩, kd₄⟩ := z
  have w2 := wpAny_landsW (M := model prog w) (A := A₀.deeper (envOf name scope L a cd)) (E := fun _ _ => False) (s := { s' with heap := h₄ }) (Q := fun _ s₂ => ∃ h', s₂ = { s' with heap := h' } ∧ Heap.FlyingW B (envOf name scope L a cd :: outer) e (.ref 34) a0 h' ∧ h₄.UpToSlots h') hheld₄ (fun h' x y => ⟨h', rfl, x, y⟩)
  refine wpAny_mono ((tame_setFlight _ _).run w2) (fun u s₂ z => ?_) fun _ _ z => z.1.elim
  obtain ⟨⟨h₅, rfl, hheld, hsm₅'⟩, kd₅⟩ := z
  have hsm₅ := hsm₄.trans hsm₅'
  have hdict₅ := (kd₄.trans kd₅).at hdict
  obtain ⟨g₅, T₅, F₅, K₅⟩ := kts_ground K F hBG hheld.1 (hsm.trans hsm₅)
  have X₅ : KF.In g₅ := XB.keeps K₅.stays
  have P₅ : TopRead p loose mg mb g₅ := topRead_of (TB.keeps K₅.stays)
  obtain ⟨ob, hob, hobc⟩ := hheld.there
  obtain ⟨nm, q', N, bs, bm, hdct, sn, sub, ab, col, dd, k0, k1, k2, k3, k5, newId, hC, hbase, hbT⟩ := kts_cls X₅ q
  have hC₅ := F₅.keep _ _ hC
  refine wpAny_handleBy_cons (codeAny_handlers_test (name_K F₅ X₅ P₅ ex ?_ hk hx hd)) (by intro q; cases q)
  refine wpAny_excMatches_sub_self hC₅ hob hobc hbase (codeAny_handlers_suite_as ?_)
  have w3 := lands_againW (M := model prog w) (A := (A₀.deeper (envOf name scope L a cd)).mark (some (.ref e))) (E := fun _ _ => False) (s := { s' with heap := h₅ }) (Q := fun _ s₂ => ∃ h', s₂ = { s' with heap := h' } ∧ Heap.FlyingW B (envOf name scope L a cd :: outer) e (.ref 34) a0 h' ∧ h₅.UpToSlots h') hheld (fun h' x y => ⟨h', rfl, x, y⟩)
  refine wpAny_mono ((tame_setFlight _ _).run w3) (fun u s₂ z => ?_) fun _ _ z => z.1.elim
  obtain ⟨⟨h₆, rfl, hfl₆, hsm₆⟩, kd₆⟩ := z
  obtain ⟨g₆, T₆, F₆, K₆⟩ := kts_ground K F hBG hfl₆.1 ((hsm.trans hsm₅).trans hsm₆)
  obtain ⟨oe, ws, hoe, hoec, hoed, hoe0⟩ := hfl₆.first
  obtain ⟨oe', hoe', hdd⟩ := kd₆.at hdict₅
  rw [show h₆.get? e = some oe from hoe] at hoe'
  cases hoe'
  have ne₆ : g₆.get? e = none := T₆.none_ _ (kts_fresh F hBG hfl₆.2.1 fun o ho m => by
    obtain ⟨_, o', ho', hd⟩ := K.frames.mem m
    rw [ho] at ho'
    cases ho'
    obtain ⟨sl, hs⟩ := ((hsm.trans hsm₅).trans hsm₆) _ _ (F.keep _ _ ho) hd
    rw [show h₆.get? e = some oe from hoe] at hs
    cases hs
    exact hd _ hoed)
  have Nl : News g₆ L h₆ ((d, od) :: news) := fun q hq => ⟨hfl₆.1 _ _ (hl q hq).1, (fun z => by have := (hl q hq).1; rw [z, hL] at this; cases this), T₆.none_ _ (kts_none F.keep (hl q hq).2.1)⟩
  have N₆ := News.more F₆ Nl hoe (fun es n q => by rw [hoed] at q; cases q) ne₆
  refine stN F₆ N₆ (fun h₇ F₇ N₇ => ?_) hk hlo
  exact k h₇ g₆ oe od d _ hoec ⟨ws, hoed⟩ hdd hcode T₆ F₇ N₇ K₆ (XB.keeps K₆.stays) (TB.keeps K₆.stays)
end
def ErrOk (w : World) (E : Value → Shared → Prop) (v : Value) (s₁ : Shared) : Prop := ∃ e oe, v = .ref e ∧ (Mine.hd.heap_39 w.params).In s₁.heap ∧ s₁.heap.get? e = some oe ∧ oe.cls = .ref 34 ∧ (∃ t, oe.data = .fields #[.ref t, .none, .none, .none, .bool false, .none]) ∧ E (.ref e) s₁
section
variable {w : World} {A : Around} {E : Value → Shared → Prop} {s : Shared} {env : Env}
theorem err_raiseStmt {x : Sem Value} {Q : Flow → Shared → Prop} (hh : A.handled = none)
    (h : wpAny (model PySem.Challenge.rw_pq0135_01.row.prog w) A x (ErrOk w E) E s) :
    wpAny (model PySem.Challenge.rw_pq0135_01.row.prog w) A (raiseStmt env (some x) none) Q E s := by
  have hcB : (Value.ref 34 :: [Value.type "Exception", .type "BaseException", .type "object"]).contains (.type "BaseException") = true := by decide
  unfold raiseStmt
  refine wpAny_bind (wpAny_mono h (fun v s₁ h₁ => ?_) fun _ _ x => x)
  obtain ⟨e, oe, rfl, X, he, hc, ⟨t, hdt⟩, hE⟩ := h₁
  have hC := X 34 _ (hd_cls _)
  obtain ⟨hp, g, d, tk, os⟩ := s₁
  have f1 : (#[.ref t, .none, .none, .none, .bool false, .none] : Array Value)[1]? = some .none := rfl
  repeat (first | (with_reducible refine wpAny_loadPart_at he ?_; rw [hc]) | with_reducible refine wpAny_loadPart_at hC ?_ | (with_reducible refine wpAny_isSubtype_exc hC ?_; rw [hcB]) | (with_reducible refine wpAny_field he hdt f1 ?_) | wp_step)
  exact wpAny_raiseNew_none hh hE
theorem err_Raise {ex : PySem.Expr} {pos : Pos} {Q : Flow → Shared → Prop} (hh : A.handled = none)
    (h : wpAny (model PySem.Challenge.rw_pq0135_01.row.prog w) A (eval ex env) (ErrOk w E) E s) :
    wpAny (model PySem.Challenge.rw_pq0135_01.row.prog w) A (exec (.Raise (some ex) none pos) env) Q E s := by
  rw [arm_exec_Raise]
  exact wpAny_bind (wpAny_standAt (err_raiseStmt hh (wpAny_bind (wpAny_mono h (fun v s' hv => wpAny_bind (wpAny_standAt (wpAny_pure hv))) fun _ _ x => x))))
end
local macro_rules | `(tactic| walk_at "exec Raise some none") => `(tactic| ((with_reducible show wpAny _ _ (exec (Stmt.Raise (some _) none _) _) _ _ _); refine err_Raise rfl ?_))
local macro_rules | `(tactic| walk_at "call ref") => `(tactic| (k_here; k_dflt ((refine' exc_c ?B ?F ?X ?N ?T ?hA ?hf ?hke ?hr _ _ ?_); (case B => k_asm); (case F => k_asm); (case X => k_asm); (case N => k_asm); (case T => k_asm); (case hA => exact rfl); (case hf => exact rfl); (case hke => exact rfl); (case hr => ktr_room); intro e9 d9 oe9 od9 h9 tk9 hE9 hne9 F9 N9; walk_at "mine sw")))
theorem err_ok {w : World} {E : Value → Shared → Prop} {s : Shared} {g : Heap} {L e d : Addr} {m : PySem.Str → Option Value} {oe od : Obj} {code : PySem.Str} {news : List (Addr × Obj)} (hE : IsErr code e d oe od) (XI : (Mine.hd.heap_39 w.params).In g) (F : Fr g L s.heap m) (N : News g L s.heap ((e, oe) :: (d, od) :: news)) (h : E (.ref e) s) : ErrOk w E (.ref e) s :=
  ⟨e, oe, rfl, XI.keeps F.keep, (N _ (.head _)).1, hE.1, hE.2.1, h⟩
section
variable {w : World} {p : Program} {loose : List PySem.Str} {mean : ExcName → Option Value} {mg mb : PySem.Str → Option Value}
 {dp un : Nat} {gd : Option (List Code)} {cn : PySem.Str} {cs : Scope} {a : Addr} {ccd : Value} {cl : List (PySem.Str × Addr)} {outer : List Env} {A₀ : Around} {base h₀ : Heap} {L : Addr} {m : PySem.Str → Option Value} {news : List (Addr × Obj)} {s : Shared} {Q E : Value → Shared → Prop}
theorem fraction_of_tm_c (B : Below A₀ base outer h₀) (F : Fr h₀ L s.heap m) (X : (Mine.hd.heap_39 w.params).In h₀) (N : News h₀ L s.heap news) (T : Top p loose mean mg mb h₀) (hk : cs.kind = .function) (tn : Tok)
 (hd : dp + 10 < recursionLimit) (hu : un + 20 < cLine)
 (hraise : ∀ e G h' tk', Fr h₀ L G m → Flying base G (envX cn cs L a ccd cl :: outer) "TM" news e h' → G.UpToSlots h' → E (.ref e) { s with heap := h', toks := tk' }) :
 wpAny (model PySem.Challenge.rw_pq0135_01.row.prog w) (ktrTop dp un gd cn cs L a ccd cl outer) (call (.ref 79) [.str "7" tn]) Q E s := by
  w_on
  refine wpAny_call ?_
  k_dflt ktr_enter
  walk_at "mine go"
  refine err_ok (by assumption) (by assumption) (by assumption) (by assumption) ?_
  k_unfold
  try dsimp only
  refine err_first (by assumption) (by assumption) (by assumption) (by assumption) (fun h' fly up => ?_) (by assumption)
  exact hraise _ _ _ _ (by assumption) fly up
end
section
variable {prog : Program} {w : World} {p : Program} {loose : List PySem.Str} {mean : ExcName → Option Value} {mg mb : PySem.Str → Option Value}
 {dp un : Nat} {gd : Option (List Code)} {cn : PySem.Str} {cs : Scope} {a : Addr} {ccd : Value} {cl : List (PySem.Str × Addr)} {outer : List Env} {A₀ : Around} {base h₀ : Heap} {L : Addr} {m : PySem.Str → Option Value} {news : List (Addr × Obj)} {s : Shared} {Q E : Value → Shared → Prop}

theorem figures_of_c (B : Below A₀ base outer h₀) (F : Fr h₀ L s.heap m) (X : (Mine.hd.heap_39 w.params).In h₀) (N : News h₀ L s.heap news) (T : Top p loose mean mg mb h₀) (hk : cs.kind = .function)
 (n : Int) (tn : Tok)
 (hd : dp + 1 < recursionLimit) (hu : un + 8 < cLine)
 (hret : ∀ t h' tk', Fr h₀ L h' m → News h₀ L h' news → Q (.int (figs n) t) { s with heap := h', toks := tk' }) :
 wpAny (model prog w) (ktrTop dp un gd cn cs L a ccd cl outer) (call (.ref 44) [.int n tn]) Q E s := by
  w_on
  refine wpAny_call ?_
  k_dflt ktr_enter
  walk_at "mine go"
  (all_goals (try k_data))

  refine' whl_fr (σ := Int × Int × Tok × Tok) (fun x b y => if y = "bound" then some (.int x.1 x.2.2.1) else if y = "many" then some (.int x.2.1 x.2.2.2) else b y) (fun x => ∃ k : Nat, x.1 = 10 ^ (k + 1) ∧ x.2.1 = (k : Int) + 1 ∧ (k = 0 ∨ (10 : Int) ^ k ≤ n)) (fun x => (n + 1 - x.1).toNat) ?hE ?F ?N (10, 1, ?t1, ?t2) ?hm ?hi ?turn
  case hE => passes_own
  case F => assumption
  case N => assumption
  case hm =>
    refine cong2 (a := "bound") (b := "many") ?_ ?_ (fun y h1 h2 => by simp only [if_neg h1, if_neg h2])
    · dsimp only; rfl
    · dsimp only; rfl
  case hi => exact ⟨0, rfl, rfl, .inl rfl⟩
  case turn =>
    rintro ⟨bound, many, t1, t2⟩ h tk F2 N2 ⟨k, hb, hm, hk⟩ IH
    dsimp only at F2 hb hm IH ⊢
    walk_at "mine go"
    (all_goals (try k_data))
    refine whlIf_dec (fun hc => ?_) (fun hc => ?_)
    · walk_at "mine go"
      (all_goals (try k_data))
      refine IH (bound * 10, many + 1, _, _) _ _ (frCong (by assumption) (cong2 (a := "bound") (b := "many") rfl rfl (fun y h1 h2 => by simp only [if_neg h1, if_neg h2]))) (by assumption) ⟨k + 1, ?_, ?_, ?_⟩ ?_
      · dsimp only; rw [hb, ← Int.pow_succ]
      · dsimp only; rw [hm]; omega
      · right; rw [← hb]; exact hc
      · dsimp only
        have : 0 < bound := by rw [hb]; exact Int.pow_pos (by decide)
        omega
    · walk_at "mine go"
      (all_goals (try k_data))
      rw [hb] at hc
      have e : many = (figs n : Int) := by rw [hm, figs_end hk hc]; rfl
      subst e
      exact hret _ _ _ (by assumption) (cb_drop (by assumption) (fun p hp => List.mem_cons_of_mem _ hp))
end
local macro_rules | `(tactic| walk_at "call ref") => `(tactic| (k_here; k_dflt ((refine' figures_of_c ?B ?F ?X ?N ?T ?hk _ _ ?hd ?hu ?_); walk_at "mine sx"; walk_at "mine su"; intro t9 h9 tk9 F9 N9; walk_at "mine sw")))
section
variable {prog : Program} {w : World} {p : Program} {loose : List PySem.Str} {mean : ExcName → Option Value} {mg mb : PySem.Str → Option Value}
 {dp un : Nat} {gd : Option (List Code)} {cn : PySem.Str} {cs : Scope} {a : Addr} {ccd : Value} {cl : List (PySem.Str × Addr)} {outer : List Env} {A₀ : Around} {base h₀ : Heap} {L : Addr} {m : PySem.Str → Option Value} {news : List (Addr × Obj)} {s : Shared} {Q E : Value → Shared → Prop}

theorem rounded_by_c (B : Below A₀ base outer h₀) (F : Fr h₀ L s.heap m) (X : (Mine.hd.heap_39 w.params).In h₀) (N : News h₀ L s.heap news) (T : Top p loose mean mg mb h₀) (hk : cs.kind = .function)
 (n q : Int) (tn tq : Tok) (hb : (figs n : Int) ≤ 1500)
 (hd : dp + 2 < recursionLimit) (hu : un + 16 < cLine)
 (hret : ∀ t h' tk', Fr h₀ L h' m → News h₀ L h' news → Q (.int (rounded n q) t) { s with heap := h', toks := tk' }) :
 wpAny (model prog w) (ktrTop dp un gd cn cs L a ccd cl outer) (call (.ref 51) [.int n tn, .int q tq]) Q E s := by
  w_on
  have hu0 : (0 : Int) < 10 ^ q.toNat := Int.pow_pos (by decide)
  refine wpAny_call ?_
  k_dflt ktr_enter
  walk_at "mine go"
  (all_goals (try k_data))

  all_goals (refine cb_retI hret ?_ (by assumption) (by first | assumption | exact cb_drop (by assumption) (fun p hp => List.mem_cons_of_mem _ hp)); unfold rounded; clear hret)
  all_goals ((repeat' split) <;> first | rfl | omega | (simp_all; done) | (simp_all; omega))
end
local macro_rules | `(tactic| walk_at "call ref") => `(tactic| (k_here; k_dflt ((refine' rounded_by_c ?B ?F ?X ?N ?T ?hk _ _ _ _ ?hb ?hd ?hu ?_); walk_at "mine sx"; (case hb => first | assumption | omega); walk_at "mine su"; intro t9 h9 tk9 F9 N9; walk_at "mine sw")))
section
variable {prog : Program} {w : World} {p : Program} {loose : List PySem.Str} {mean : ExcName → Option Value} {mg mb : PySem.Str → Option Value}
 {dp un : Nat} {gd : Option (List Code)} {cn : PySem.Str} {cs : Scope} {a : Addr} {ccd : Value} {cl : List (PySem.Str × Addr)} {outer : List Env} {A₀ : Around} {base h₀ : Heap} {L : Addr} {m : PySem.Str → Option Value} {news : List (Addr × Obj)} {s : Shared} {Q E : Value → Shared → Prop}

theorem common_divisor_c (B : Below A₀ base outer h₀) (F : Fr h₀ L s.heap m) (X : (Mine.hd.heap_39 w.params).In h₀) (N : News h₀ L s.heap news) (T : Top p loose mean mg mb h₀) (hk : cs.kind = .function)
 (n q : Int) (tn tq : Tok)
 (hd : dp + 1 < recursionLimit) (hu : un + 8 < cLine)
 (hret : ∀ t h' tk', Fr h₀ L h' m → News h₀ L h' news → Q (.int (Int.gcd n q) t) { s with heap := h', toks := tk' }) :
 wpAny (model prog w) (ktrTop dp un gd cn cs L a ccd cl outer) (call (.ref 65) [.int n tn, .int q tq]) Q E s := by
  w_on
  refine wpAny_call ?_
  k_dflt ktr_enter
  walk_at "mine go"
  (all_goals (try k_data))
  refine' whl_fr (σ := Int × Int × Tok × Tok) (fun x b y => if y = "one" then some (.int x.1 x.2.2.1) else if y = "other" then some (.int x.2.1 x.2.2.2) else b y) (fun x => 0 ≤ x.1 ∧ 0 ≤ x.2.1 ∧ Int.gcd x.1 x.2.1 = Int.gcd n q) (fun x => x.2.1.toNat) ?hE ?F ?N (if n < 0 then -n else n, if q < 0 then -q else q, ?t1, ?t2) ?hm ?hi ?turn
  case hE => passes_own
  case F => assumption
  case N => assumption
  case hm =>
    refine cong2 (a := "one") (b := "other") ?_ ?_ (fun y h1 h2 => by simp only [if_neg h1, if_neg h2])
    · dsimp only; rfl
    · dsimp only; rfl
  case hi =>
    dsimp only
    refine ⟨by split <;> omega, by split <;> omega, ?_⟩
    split <;> split <;> simp only [Int.gcd_neg, Int.neg_gcd]
  case turn =>
    rintro ⟨one, other, t1, t2⟩ h tk F2 N2 ⟨h1, h2, hg⟩ IH
    dsimp only at F2 h1 h2 hg IH ⊢
    walk_at "mine go"
    (all_goals (try k_data))
    refine whlIf_dec (fun hc => ?_) (fun hc => ?_)
    · walk_at "mine go"
      (all_goals (try k_data))
      refine IH (other, one.fmod other, _, _) _ _ (frCong (by assumption) (cong2 (a := "one") (b := "other") rfl rfl (fun y h1 h2 => by simp only [if_neg h1, if_neg h2]))) (cb_drop (by assumption) (fun p hp => List.mem_cons_of_mem _ hp)) ⟨h2, ?_, ?_⟩ ?_
      · dsimp only
        rw [Int.fmod_eq_emod_of_nonneg _ h2]; exact Int.emod_nonneg _ (by omega)
      · dsimp only
        rw [Int.fmod_eq_emod_of_nonneg _ h2, gcd_step, hg]
      · dsimp only
        rw [Int.fmod_eq_emod_of_nonneg _ h2]
        have := Int.emod_lt_of_pos one hc
        omega
    · walk_at "mine go"
      (all_goals (try k_data))
      have e : one = (Int.gcd n q : Int) := by
        have e0 : other = 0 := by omega
        subst e0
        rw [← hg, Int.gcd_zero_right]
        omega
      subst e
      exact hret _ _ _ (by assumption) (cb_drop (by assumption) (fun p hp => List.mem_cons_of_mem _ hp))
end
local macro_rules | `(tactic| walk_at "call ref") => `(tactic| (k_here; k_dflt ((refine' common_divisor_c ?B ?F ?X ?N ?T ?hk _ _ _ _ ?hd ?hu ?_); walk_at "mine sx"; walk_at "mine su"; intro t9 h9 tk9 F9 N9; walk_at "mine sw")))
section
variable {prog : Program} {w : World} {p : Program} {loose : List PySem.Str} {mean : ExcName → Option Value} {mg mb : PySem.Str → Option Value}
 {dp un : Nat} {gd : Option (List Code)} {cn : PySem.Str} {cs : Scope} {a : Addr} {ccd : Value} {cl : List (PySem.Str × Addr)} {outer : List Env} {A₀ : Around} {base h₀ : Heap} {L : Addr} {m : PySem.Str → Option Value} {news : List (Addr × Obj)} {s : Shared} {Q E : Value → Shared → Prop}

theorem fraction_c (B : Below A₀ base outer h₀) (F : Fr h₀ L s.heap m) (X : (Mine.hd.heap_39 w.params).In h₀) (N : News h₀ L s.heap news) (T : Top p loose mean mg mb h₀) (hk : cs.kind = .function)
 (n q : Int) (tn tq : Tok) (hb : q ≠ 0) (hb2 : q.natAbs.log2 < 9000)
 (hd : dp + 2 < recursionLimit) (hu : un + 16 < cLine)
 (hret : ∀ D t1 t2 h' tk', (∀ z ∈ news, z.1 < D) → Fr h₀ L h' m → News h₀ L h' ((D, { cls := .type "tuple", data := .seq #[.int (fracN n q) t1, .int (fracD n q) t2] }) :: news) → Q (.ref D) { s with heap := h', toks := tk' }) :
 wpAny (model prog w) (ktrTop dp un gd cn cs L a ccd cl outer) (call (.ref 72) [.int n tn, .int q tq]) Q E s := by
  w_on
  have g1 := gcd_ne (a := n) hb
  have g2 := gcd_log (a := n) hb hb2
  have g3 := neg_log g2
  have g4 : -(Int.gcd n q : Int) ≠ 0 := by omega
  refine wpAny_call ?_
  k_dflt ktr_enter
  walk_at "mine go"
  (all_goals (try k_data))
  all_goals (
    refine' ret_tup2 hret ?F ?N ?l ?hs ?e1 ?e2
    case F => assumption
    case N => assumption
    case l => assumption
    case hs => exact fun z hz => hz
    case e1 => (unfold fracN; first | rw [if_pos (by assumption)] | rw [if_neg (by assumption)])
    case e2 => (unfold fracD; first | rw [if_pos (by assumption)] | rw [if_neg (by assumption)]))
end
section
variable {prog : Program} {w : World} {p : Program} {loose : List PySem.Str} {mean : ExcName → Option Value} {mg mb : PySem.Str → Option Value}
 {dp un : Nat} {gd : Option (List Code)} {cn : PySem.Str} {cs : Scope} {a : Addr} {ccd : Value} {cl : List (PySem.Str × Addr)} {outer : List Env} {A₀ : Around} {base h₀ : Heap} {L : Addr} {m : PySem.Str → Option Value} {news : List (Addr × Obj)} {s : Shared} {Q E : Value → Shared → Prop}

theorem too_great_c (B : Below A₀ base outer h₀) (F : Fr h₀ L s.heap m) (X : (Mine.hd.heap_39 w.params).In h₀) (N : News h₀ L s.heap news) (T : Top p loose mean mg mb h₀) (hk : cs.kind = .function)
 (n q d : Int) (tn tq td : Tok) (hn : Bd 400 n) (hq : Bd 400 q) (hd1 : 1 ≤ d) (hd9 : d ≤ 9)
 (hd : dp + 1 < recursionLimit) (hu : un + 8 < cLine)
 (hret : ∀ h' tk', Fr h₀ L h' m → News h₀ L h' news → Q (.bool (decide (2 * n ≥ q * (2 * 10 ^ 100 - 10 ^ (100 - d).toNat)))) { s with heap := h', toks := tk' }) :
 wpAny (model prog w) (ktrTop dp un gd cn cs L a ccd cl outer) (call (.ref 107) [.int n tn, .int q tq, .int d td]) Q E s := by
  w_on
  refine wpAny_call ?_
  k_dflt ktr_enter
  walk_at "mine go"
  (all_goals (try k_data))
  exact hret _ _ (by assumption) (by assumption)
theorem nought_c (B : Below A₀ base outer h₀) (F : Fr h₀ L s.heap m) (X : (Mine.hd.heap_39 w.params).In h₀) (N : News h₀ L s.heap news) (T : Top p loose mean mg mb h₀) (hk : cs.kind = .function)
 (n q d : Int) (tn tq td : Tok) (hn : Bd 400 n) (hq : Bd 400 q) (hd1 : 1 ≤ d) (hd9 : d ≤ 9)
 (hd : dp + 1 < recursionLimit) (hu : un + 8 < cLine)
 (hret : ∀ h' tk', Fr h₀ L h' m → News h₀ L h' news → Q (.bool (decide (2 * n * 10 ^ (99 + d).toNat < q * (2 * 10 ^ d.toNat - 1)))) { s with heap := h', toks := tk' }) :
 wpAny (model prog w) (ktrTop dp un gd cn cs L a ccd cl outer) (call (.ref 114) [.int n tn, .int q tq, .int d td]) Q E s := by
  w_on
  refine wpAny_call ?_
  k_dflt ktr_enter
  walk_at "mine go"
  (all_goals (try k_data))
  exact hret _ _ (by assumption) (by assumption)
end
local macro_rules | `(tactic| walk_at "call ref") => `(tactic| (k_here; k_dflt ((refine' too_great_c ?B ?F ?X ?N ?T ?hk _ _ _ _ _ _ ?hn ?hq ?hd1 ?hd9 ?hd ?hu ?_); walk_at "mine sx"; walk_at "mine sn"; walk_at "mine sd"; walk_at "mine su"; intro h9 tk9 F9 N9; walk_at "mine sw")))
local macro_rules | `(tactic| walk_at "call ref") => `(tactic| (k_here; k_dflt ((refine' nought_c ?B ?F ?X ?N ?T ?hk _ _ _ _ _ _ ?hn ?hq ?hd1 ?hd9 ?hd ?hu ?_); walk_at "mine sx"; walk_at "mine sn"; walk_at "mine sd"; walk_at "mine su"; intro h9 tk9 F9 N9; walk_at "mine sw")))
section
variable {prog : Program} {w : World} {p : Program} {loose : List PySem.Str} {mean : ExcName → Option Value} {mg mb : PySem.Str → Option Value}
 {dp un : Nat} {gd : Option (List Code)} {cn : PySem.Str} {cs : Scope} {a : Addr} {ccd : Value} {cl : List (PySem.Str × Addr)} {outer : List Env} {A₀ : Around} {base h₀ : Heap} {L : Addr} {m : PySem.Str → Option Value} {news : List (Addr × Obj)} {s : Shared} {Q E : Value → Shared → Prop}

local macro_rules | `(tactic| k_all) => `(tactic| assumption)
theorem law_next_c {Tp I : Addr} {k : Int} {t0 : Tok} {ys : List Value} {ns : List Int} {rest : List (Addr × Obj)} (B : Below A₀ base outer h₀) (F : Fr h₀ L s.heap m) (X : (Mine.hd.heap_39 w.params).In h₀) (N : News h₀ L s.heap ((Tp, listOf #[.int k t0, .ref I] 0) :: (I, LCg.lst ys) :: rest)) (T : Top p loose mean mg mb h₀) (hk : cs.kind = .function)
 (many : Int) (tm : Tok) (hI : IntsAre ys ns) (hlen : ns.length ≤ 20) (hne : ∀ p ∈ rest, p.1 ≠ Tp) (hIT : I ≠ Tp) (hk0 : 0 ≤ k) (hk7 : k ≤ 7) (hm : 0 < many)
 (hd : dp + 1 < recursionLimit) (hu : un + 16 < cLine)
 (hret : ∀ v t t' h' tk', Fr h₀ L h' m → News h₀ L h' ((Tp, listOf #[.int (k + 1) t', .ref I] 0) :: (I, LCg.lst ys) :: rest) → 0 ≤ v → v < many → Q (.int v t) { s with heap := h', toks := tk' }) :
 wpAny (model prog w) (ktrTop dp un gd cn cs L a ccd cl outer) (call (.ref 93) [.ref Tp, .int many tm]) Q E s := by
  w_on
  refine wpAny_call ?_
  k_dflt ktr_enter
  walk_at "mine go"
  (all_goals (try k_data))
  all_goals exact hret _ _ _ _ _ (by assumption) (by assumption) (fmod_rng hm).1 (fmod_rng hm).2
end
local macro_rules | `(tactic| walk_at "call ref") => `(tactic| (k_here; k_dflt ((refine' law_next_c ?B ?F ?X ?N ?T ?hk _ _ ?hI ?hl ?hne ?hit ?hk0 ?hk7 ?hm ?hd ?hu ?_); (case B => k_asm); (case F => k_asm); (case X => k_asm); (case N => first | k_asm | exact cb_drop (by assumption) (fun z hz => List.mem_cons_of_mem _ hz) | exact cb_drop (by assumption) (fun z hz => List.mem_cons_of_mem _ (List.mem_cons_of_mem _ hz))); (case T => k_asm); (case hk => first | exact rfl | assumption); (case hI => assumption); (case hl => first | assumption | omega | (simp only [List.length_map, List.length_take]; omega)); (case hne => k_all); (case hit => first | assumption | k_ne); (case hk0 => omega); (case hk7 => omega); (case hm => omega); walk_at "mine su"; intro v9 t9 u9 h9 tk9 F9 N9 lo9 hi9; walk_at "mine sw")))
section
variable {prog : Program} {w : World} {p : Program} {loose : List PySem.Str} {mean : ExcName → Option Value} {mg mb : PySem.Str → Option Value}
 {dp un : Nat} {gd : Option (List Code)} {cn : PySem.Str} {cs : Scope} {a : Addr} {ccd : Value} {cl : List (PySem.Str × Addr)} {outer : List Env} {A₀ : Around} {base h₀ : Heap} {L : Addr} {m : PySem.Str → Option Value} {news : List (Addr × Obj)} {s : Shared} {Q E : Value → Shared → Prop}

theorem least_c (B : Below A₀ base outer h₀) (F : Fr h₀ L s.heap m) (X : (Mine.hd.heap_39 w.params).In h₀) (N : News h₀ L s.heap news) (T : Top p loose mean mg mb h₀) (hk : cs.kind = .function)
 (n q : Int) (tn tq : Tok) (hq : 0 < q)
 (hd : dp + 1 < recursionLimit) (hu : un + 8 < cLine)
 (hret : ∀ h' tk', Fr h₀ L h' m → News h₀ L h' news → Q (.bool (decide (Int.gcd n q = 1))) { s with heap := h', toks := tk' }) :
 wpAny (model prog w) (ktrTop dp un gd cn cs L a ccd cl outer) (call (.ref 128) [.int n tn, .int q tq]) Q E s := by
  w_on
  refine wpAny_call ?_
  k_dflt ktr_enter
  walk_at "mine go"
  (all_goals (try k_data))
  refine' whl_fr (σ := Int × Int × Tok × Tok) (fun x b y => if y = "one" then some (.int x.1 x.2.2.1) else if y = "other" then some (.int x.2.1 x.2.2.2) else b y) (fun x => 0 ≤ x.1 ∧ 0 ≤ x.2.1 ∧ Int.gcd x.1 x.2.1 = Int.gcd n q) (fun x => x.2.1.toNat) ?hE ?F ?N (if n < 0 then -n else n, q, ?t1, ?t2) ?hm ?hi ?turn
  case hE => passes_own
  case F => assumption
  case N => assumption
  case hm =>
    refine cong2 (a := "one") (b := "other") ?_ ?_ (fun y h1 h2 => by simp only [if_neg h1, if_neg h2])
    · dsimp only; rfl
    · dsimp only; rfl
  case hi =>
    dsimp only
    refine ⟨by split <;> omega, by omega, ?_⟩
    split <;> simp only [Int.neg_gcd]
  case turn =>
    rintro ⟨one, other, t1, t2⟩ h tk F2 N2 ⟨h1, h2, hg⟩ IH
    dsimp only at F2 h1 h2 hg IH ⊢
    walk_at "mine go"
    (all_goals (try k_data))
    refine whlIf_dec (fun hc => ?_) (fun hc => ?_)
    · walk_at "mine go"
      (all_goals (try k_data))
      refine IH (other, one.fmod other, _, _) _ _ (frCong (by assumption) (cong2 (a := "one") (b := "other") rfl rfl (fun y h1 h2 => by simp only [if_neg h1, if_neg h2]))) (cb_drop (by assumption) (fun p hp => List.mem_cons_of_mem _ hp)) ⟨h2, ?_, ?_⟩ ?_
      · dsimp only
        rw [Int.fmod_eq_emod_of_nonneg _ h2]; exact Int.emod_nonneg _ (by omega)
      · dsimp only
        rw [Int.fmod_eq_emod_of_nonneg _ h2, gcd_step, hg]
      · dsimp only
        rw [Int.fmod_eq_emod_of_nonneg _ h2]
        have := Int.emod_lt_of_pos one hc
        omega
    · have e : one = (Int.gcd n q : Int) := by
        have e0 : other = 0 := by omega
        subst e0
        rw [← hg, Int.gcd_zero_right]
        omega
      subst e
      walk_at "mine go"
      (all_goals (try k_data))
      all_goals (refine ret_b hret (by assumption) (by assumption) (fun z hz => List.mem_cons_of_mem _ hz) ?_)
      all_goals first | (have hg1 : n.gcd q = 1 := by omega) | (have hg1 : n.gcd q ≠ 1 := by omega)
      all_goals (simp [hg1, hq]; try omega)
end
section
variable {prog : Program} {w : World} {p : Program} {loose : List PySem.Str} {mean : ExcName → Option Value} {mg mb : PySem.Str → Option Value}
 {dp un : Nat} {gd : Option (List Code)} {cn : PySem.Str} {cs : Scope} {a : Addr} {ccd : Value} {cl : List (PySem.Str × Addr)} {outer : List Env} {A₀ : Around} {base h₀ : Heap} {L : Addr} {m : PySem.Str → Option Value} {news : List (Addr × Obj)} {s : Shared} {Q E : Value → Shared → Prop}

def nextC (P n q f : Int) : Bool :=
  if f = P ∧ n < f * q then decide (10 * (2 * (if n - f * q < 0 then -(n - f * q) else n - f * q)) ≤ q)
  else decide (2 * (if n - f * q < 0 then -(n - f * q) else n - f * q) < q ∨ (2 * (if n - f * q < 0 then -(n - f * q) else n - f * q) = q ∧ f.fmod 2 = 0))
def nextB (n q d f u : Int) : Bool := nextC (10 ^ (d - 1).toNat) (if u < 0 then n * 10 ^ (0 - u).toNat else n) (if u < 0 then q else q * 10 ^ u.toNat) f
theorem nextB_neg {n q d f u : Int} (h : u < 0) : nextB n q d f u = nextC (10 ^ (d - 1).toNat) (n * 10 ^ (0 - u).toNat) q f := by unfold nextB; rw [if_pos h, if_pos h]
theorem nextB_pos {n q d f u : Int} (h : ¬ u < 0) : nextB n q d f u = nextC (10 ^ (d - 1).toNat) n (q * 10 ^ u.toNat) f := by unfold nextB; rw [if_neg h, if_neg h]
theorem nextC_low {P n q f : Int} (h : f = P) (h2 : n < f * q) : decide (10 * (2 * (if n - f * q < 0 then -(n - f * q) else n - f * q)) ≤ q) = nextC P n q f := by unfold nextC; rw [if_pos (show f = P ∧ n < f * q from ⟨h, h2⟩)]
theorem nextC_a {P n q f : Int} (h : ¬ (f = P ∧ n < f * q)) (h2 : 2 * (if n - f * q < 0 then -(n - f * q) else n - f * q) < q) : decide (2 * (if n - f * q < 0 then -(n - f * q) else n - f * q) < q) = nextC P n q f := by
  unfold nextC; rw [if_neg h, decide_eq_true h2, decide_eq_true (Or.inl h2)]
theorem nextC_b {P n q f : Int} (h : ¬ (f = P ∧ n < f * q)) (h1 : ¬ 2 * (if n - f * q < 0 then -(n - f * q) else n - f * q) < q) (h2 : 2 * (if n - f * q < 0 then -(n - f * q) else n - f * q) = q) : (f.fmod 2 == 0) = nextC P n q f := by
  unfold nextC; rw [if_neg h]
  have e : (2 * (if n - f * q < 0 then -(n - f * q) else n - f * q) < q ∨ 2 * (if n - f * q < 0 then -(n - f * q) else n - f * q) = q ∧ f.fmod 2 = 0) ↔ f.fmod 2 = 0 := ⟨fun z => z.elim (fun z => absurd z h1) (fun z => z.2), fun z => Or.inr ⟨h2, z⟩⟩
  simp only [e]
  rfl
theorem nextC_c {P n q f : Int} (h : ¬ (f = P ∧ n < f * q)) (h1 : ¬ 2 * (if n - f * q < 0 then -(n - f * q) else n - f * q) < q) (h2 : 2 * (if n - f * q < 0 then -(n - f * q) else n - f * q) ≠ q) : ((2 * (if n - f * q < 0 then -(n - f * q) else n - f * q)) == q) = nextC P n q f := by
  unfold nextC; rw [if_neg h, decide_eq_false (fun z => z.elim h1 fun z => h2 z.1)]; exact beq_eq_false_iff_ne.mpr h2
theorem is_next_c {D : Addr} {c e : Int} {tc te : Tok} (B : Below A₀ base outer h₀) (F : Fr h₀ L s.heap m) (X : (Mine.hd.heap_39 w.params).In h₀) (N : News h₀ L s.heap news) (T : Top p loose mean mg mb h₀) (hk : cs.kind = .function)
 (hD : (D, ({ cls := .type "tuple", data := .seq #[.int c tc, .int e te] } : Obj)) ∈ news)
 (n q d : Int) (tn tq td : Tok) (hn : Bd 400 n) (hq : Bd 400 q) (hd1 : 1 ≤ d) (hd9 : d ≤ 9) (he1 : -300 ≤ e) (he2 : e ≤ 300)
 (hd : dp + 1 < recursionLimit) (hu : un + 8 < cLine)
 (hbad : (c ≤ 0 ∨ c.fmod 10 = 0 ∨ 10 ^ d.toNat ≤ c) → ∀ h' tk', Fr h₀ L h' m → News h₀ L h' news → Q (.bool false) { s with heap := h', toks := tk' })
 (hok : ∀ i : Nat, ¬ (c ≤ 0 ∨ c.fmod 10 = 0 ∨ 10 ^ d.toNat ≤ c) → (10 : Int) ^ (d - 1).toNat ≤ c * 10 ^ i → c * 10 ^ i < 10 ^ d.toNat → ∀ h' tk', Fr h₀ L h' m → News h₀ L h' news → Q (.bool (nextB n q d (c * 10 ^ i) (e - i))) { s with heap := h', toks := tk' }) :
 wpAny (model prog w) (ktrTop dp un gd cn cs L a ccd cl outer) (call (.ref 121) [.int n tn, .int q tq, .int d td, .ref D]) Q E s := by
  w_on
  refine wpAny_call ?_
  k_dflt ktr_enter
  walk_at "mine go"
  (all_goals (try k_data))
  · exact hbad (Or.inl (by assumption)) _ _ (by assumption) (by assumption)
  · exact hbad (Or.inr (Or.inl (by assumption))) _ _ (by assumption) (by assumption)
  · exact hbad (Or.inr (Or.inr (by assumption))) _ _ (by assumption) (by assumption)
  have hbad' : ¬ (c ≤ 0 ∨ c.fmod 10 = 0 ∨ 10 ^ d.toNat ≤ c) := by omega
  have hc : 0 < c := by omega
  have hcd : c < 10 ^ d.toNat := by omega
  have hsp := pow_split hd1
  have hnine := pow_nine hd9
  clear hbad
  refine' whl_fr (σ := Int × Int × Tok × Tok) (fun x b y => if y = "figure" then some (.int x.1 x.2.2.1) else if y = "unit" then some (.int x.2.1 x.2.2.2) else b y) (fun x => ∃ i : Nat, x.1 = c * 10 ^ i ∧ x.2.1 = e - i ∧ x.1 < 10 ^ d.toNat ∧ 0 < x.1) (fun x => (10 ^ (d - 1).toNat - x.1).toNat) ?hE ?F ?N (c, e, tc, te) ?hm ?hi ?turn
  case hE => passes_own
  case F => assumption
  case N => assumption
  case hm =>
    refine cong2 (a := "figure") (b := "unit") ?_ ?_ (fun y h1 h2 => by simp only [if_neg h1, if_neg h2])
    · dsimp only; rfl
    · dsimp only; rfl
  case hi =>
    dsimp only
    exact ⟨0, by omega, by omega, hcd, hc⟩
  case turn =>
    rintro ⟨f, u, t1, t2⟩ h tk F2 N2 ⟨i, hf, huu, hfd, hf0⟩ IH
    dsimp only at F2 hf huu hfd hf0 IH ⊢
    walk_at "mine go"
    (all_goals (try k_data))
    refine whlIf_dec (fun hlt => ?_) (fun hlt => ?_)
    · walk_at "mine go"
      (all_goals (try k_data))
      refine IH (10 * f, u - 1, _, _) _ _ (frCong (by assumption) (cong2 (a := "figure") (b := "unit") rfl rfl (fun y h1 h2 => by simp only [if_neg h1, if_neg h2]))) (cb_drop (by assumption) (fun p hp => List.mem_cons_of_mem _ hp)) ⟨i + 1, ?_, ?_, ?_, ?_⟩ ?_
      · dsimp only
        rw [hf, Int.pow_succ, Int.mul_comm 10 (c * 10 ^ i), Int.mul_assoc]
      · dsimp only; omega
      · dsimp only; omega
      · dsimp only; omega
      · dsimp only; omega
    · clear IH
      have hi9 := scale_small (i := i) hc hd9 (by omega)
      have hf9 : f < 1000000000 := by omega
      have hul : -310 ≤ u := by omega
      have huh : u ≤ 300 := by omega
      have hok' := hok i hbad' (by omega) (by omega)
      rw [← hf, ← huu] at hok'
      clear hok
      walk_at "mine go"
      (all_goals (try k_data))
      all_goals (
        refine ret_b hok' (by assumption) (by assumption) (fun z hz => List.mem_cons_of_mem _ hz) ?_
        first | rw [nextB_neg (by assumption)] | rw [nextB_pos (by assumption)]
        first
          | ((with_reducible refine nextC_low ?_ ?_) <;> assumption)
          | ((with_reducible refine nextC_a (fun z => absurd z.1 ?_) ?_) <;> assumption)
          | ((with_reducible refine nextC_a (fun z => absurd z.2 ?_) ?_) <;> assumption)
          | ((with_reducible refine nextC_b (fun z => absurd z.1 ?_) ?_ ?_) <;> assumption)
          | ((with_reducible refine nextC_b (fun z => absurd z.2 ?_) ?_ ?_) <;> assumption)
          | ((with_reducible refine nextC_c (fun z => absurd z.1 ?_) ?_ ?_) <;> assumption)
          | ((with_reducible refine nextC_c (fun z => absurd z.2 ?_) ?_ ?_) <;> assumption))
end
def foN (c e : Int) : Int := if 0 ≤ e then c * 10 ^ e.toNat else fracN c (10 ^ (-e).toNat)
def foD (c e : Int) : Int := if 0 ≤ e then 1 else fracD c (10 ^ (-e).toNat)
theorem ten_ne {n : Nat} : (10 : Int) ^ n ≠ 0 := Int.ne_of_gt (Int.pow_pos (by decide))
theorem ten_log {n : Nat} (h : n ≤ 400) : ((10 : Int) ^ n).natAbs.log2 < 9000 := pow10_log2 (by omega)
local macro_rules | `(tactic| walk_at "call ref") => `(tactic| (k_here; k_dflt ((refine' fraction_c ?B ?F ?X ?N ?T ?hk _ _ _ _ ?hb ?hb2 ?hd ?hu ?_); walk_at "mine sx"; (case hb => first | assumption | exact ten_ne | omega); (case hb2 => first | assumption | exact ten_log (by omega)); walk_at "mine su"; walk_at "mine sr")))
section
variable {prog : Program} {w : World} {p : Program} {loose : List PySem.Str} {mean : ExcName → Option Value} {mg mb : PySem.Str → Option Value}
 {dp un : Nat} {gd : Option (List Code)} {cn : PySem.Str} {cs : Scope} {a : Addr} {ccd : Value} {cl : List (PySem.Str × Addr)} {outer : List Env} {A₀ : Around} {base h₀ : Heap} {L : Addr} {m : PySem.Str → Option Value} {news : List (Addr × Obj)} {s : Shared} {Q E : Value → Shared → Prop}

theorem fraction_of_int_c (B : Below A₀ base outer h₀) (F : Fr h₀ L s.heap m) (X : (Mine.hd.heap_39 w.params).In h₀) (N : News h₀ L s.heap news) (T : Top p loose mean mg mb h₀) (hk : cs.kind = .function)
 (n : Int) (tn : Tok)
 (hd : dp + 4 < recursionLimit) (hu : un + 24 < cLine)
 (hret : ∀ D t1 t2 h' tk', (∀ z ∈ news, z.1 < D) → Fr h₀ L h' m → News h₀ L h' ((D, { cls := .type "tuple", data := .seq #[.int n t1, .int 1 t2] }) :: news) → Q (.ref D) { s with heap := h', toks := tk' }) :
 wpAny (model prog w) (ktrTop dp un gd cn cs L a ccd cl outer) (call (.ref 79) [.int n tn]) Q E s := by
  w_on
  refine wpAny_call ?_
  k_dflt ktr_enter
  walk_at "mine go"
  (all_goals (try k_data))
  all_goals (
    refine' ret_tup2 hret ?F ?N ?l ?hs ?e1 ?e2
    case F => assumption
    case N => assumption
    case l => assumption
    case hs => first | exact fun z hz => hz | exact fun z hz => List.mem_cons_of_mem _ hz
    case e1 => first | rfl | (unfold foN; first | rw [if_pos (by assumption)] | rw [if_neg (by assumption)])
    case e2 => first | rfl | (unfold foD; first | rw [if_pos (by assumption)] | rw [if_neg (by assumption)]))
theorem fraction_of_tup_c {D : Addr} {c e : Int} {tc te : Tok} (B : Below A₀ base outer h₀) (F : Fr h₀ L s.heap m) (X : (Mine.hd.heap_39 w.params).In h₀) (N : News h₀ L s.heap news) (T : Top p loose mean mg mb h₀) (hk : cs.kind = .function)
 (hD : (D, ({ cls := .type "tuple", data := .seq #[.int c tc, .int e te] } : Obj)) ∈ news) (hc : Bd 400 c) (he1 : -300 ≤ e) (he2 : e ≤ 300)
 (hd : dp + 4 < recursionLimit) (hu : un + 24 < cLine)
 (hret : ∀ D t1 t2 h' tk', (∀ z ∈ news, z.1 < D) → Fr h₀ L h' m → News h₀ L h' ((D, { cls := .type "tuple", data := .seq #[.int (foN c e) t1, .int (foD c e) t2] }) :: news) → Q (.ref D) { s with heap := h', toks := tk' }) :
 wpAny (model prog w) (ktrTop dp un gd cn cs L a ccd cl outer) (call (.ref 79) [.ref D]) Q E s := by
  w_on
  refine wpAny_call ?_
  k_dflt ktr_enter
  walk_at "mine go"
  (all_goals (try k_data))
  all_goals (
    refine' ret_tup2 hret ?F ?N ?l ?hs ?e1 ?e2
    case F => assumption
    case N => assumption
    case l => assumption
    case hs => first | exact fun z hz => hz | exact fun z hz => List.mem_cons_of_mem _ hz
    case e1 => first | rfl | (unfold foN; first | rw [if_pos (by assumption)] | rw [if_neg (by assumption)])
    case e2 => first | rfl | (unfold foD; first | rw [if_pos (by assumption)] | rw [if_neg (by assumption)]))
end
theorem whlIf_beq {x y : Int} {T F : Prop} (t : x = y → T) (f : x ≠ y → F) : WhlIf (x == y) T F := by
  by_cases h : x = y
  · exact WhlIf.yes (beq_iff_eq.mpr h) (t h)
  · exact WhlIf.no (beq_eq_false_iff_ne.mpr h) (f h)
section
variable {w : World} {p : Program} {loose : List PySem.Str} {mean : ExcName → Option Value} {mg mb : PySem.Str → Option Value}
 {dp un : Nat} {gd : Option (List Code)} {cn : PySem.Str} {cs : Scope} {a : Addr} {ccd : Value} {cl : List (PySem.Str × Addr)} {outer : List Env} {A₀ : Around} {base h₀ : Heap} {L : Addr} {m : PySem.Str → Option Value} {news : List (Addr × Obj)} {s : Shared} {Q E : Value → Shared → Prop}

theorem made_c (B : Below A₀ base outer h₀) (F : Fr h₀ L s.heap m) (X : (Mine.hd.heap_39 w.params).In h₀) (N : News h₀ L s.heap news) (T : Top p loose mean mg mb h₀) (hk : cs.kind = .function)
 (c e d : Int) (tc te td : Tok) (hc : Bd 1500 c) (he1 : -1000 ≤ e) (he2 : e ≤ 1000) (hd1 : 1 ≤ d) (hd9 : d ≤ 9)
 (hd : dp + 12 < recursionLimit) (hu : un + 40 < cLine)
 (hret : ∀ D x y t1 t2 h' tk', madeF c e d = some (x, y) → (∀ z ∈ news, z.1 < D) → Fr h₀ L h' m → News h₀ L h' ((D, { cls := .type "tuple", data := .seq #[.int x t1, .int y t2] }) :: news) → Q (.ref D) { s with heap := h', toks := tk' })
 (hraise : madeF c e d = none → ∀ e G h' tk', Fr h₀ L G m → Flying base G (envX cn cs L a ccd cl :: outer) "OV" news e h' → G.UpToSlots h' → E (.ref e) { s with heap := h', toks := tk' }) :
 wpAny (model PySem.Challenge.rw_pq0135_01.row.prog w) (ktrTop dp un gd cn cs L a ccd cl outer) (call (.ref 58) [.int c tc, .int e te, .int d td]) Q E s := by
  w_on
  have hms1 : (figs (if c < 0 then -c else c) : Int) - d > 0 → msize c d = rounded (if c < 0 then -c else c) (figs (if c < 0 then -c else c) - d) := fun z => by unfold msize aabs; rw [if_pos z]
  have hms2 : ¬ (figs (if c < 0 then -c else c) : Int) - d > 0 → msize c d = (if c < 0 then -c else c) := fun z => by unfold msize aabs; rw [if_neg z]
  have hme1 : (figs (if c < 0 then -c else c) : Int) - d > 0 → mexp c e d = e + (figs (if c < 0 then -c else c) - d) := fun z => by unfold mexp aabs; rw [if_pos z]
  have hme2 : ¬ (figs (if c < 0 then -c else c) : Int) - d > 0 → mexp c e d = e := fun z => by unfold mexp aabs; rw [if_neg z]
  have hmn := msize_nonneg c d
  have hfg : (figs (if c < 0 then -c else c) : Int) ≤ 1500 := figs_le (k := 1499) (by split; exact hc.neg; exact hc)
  refine wpAny_call ?_
  k_dflt ktr_enter
  walk_at "mine go"
  (all_goals (try k_data))
  all_goals (first | (have hms := hms1 (by assumption); have hme := hme1 (by assumption)) | (have hms := hms2 (by assumption); have hme := hme2 (by assumption)))
  any_goals (
    with_reducible show Q _ _
    refine' ret_tup2 (x := 0) (y := 0) (fun D t1 t2 h' tk' l F N => hret D 0 0 t1 t2 h' tk' (madeF_zero (hms.trans (by assumption))) l F N) ?F ?N ?l ?hs rfl rfl
    case F => assumption
    case N => assumption
    case l => first | assumption | exact ktn_ltOf (by assumption) | exact ktn_ltOf (And.right (by assumption))
    case hs => first | exact (fun z hz => hz) | exact (fun z hz => List.mem_cons_of_mem _ hz))
  all_goals (have hmz : msize c d ≠ 0 := fun z => absurd (hms.symm.trans z) (by assumption))
  all_goals (clear hms1 hms2 hme1 hme2)
  all_goals (
    refine' whl_fr (σ := Int × Int × Tok × Tok) (fun x b y => if y = "size" then some (.int x.1 x.2.2.1) else if y = "exponent" then some (.int x.2.1 x.2.2.2) else b y) (fun x => 0 < x.1 ∧ ∃ k : Nat, strip (msize c d).toNat = ((strip x.1.toNat).1, (strip x.1.toNat).2 + k) ∧ x.2.1 = mexp c e d + k) (fun x => x.1.toNat) ?hE ?F ?N (msize c d, mexp c e d, _, _) ?hm ?hi ?turn
    case hE => passes_own
    case F => assumption
    case N => assumption
    case hm =>
      refine cong2 (a := "size") (b := "exponent") ?_ ?_ (fun y h1 h2 => by simp only [if_neg h1, if_neg h2])
      · dsimp only; rw [hms]; rfl
      · dsimp only; rw [hme]; rfl
    case hi =>
      dsimp only
      exact ⟨by omega, 0, rfl, by omega⟩
    case turn =>
      rintro ⟨sz, ex, t1, t2⟩ h tk F2 N2 ⟨h0, k, hs, hx⟩ IH
      dsimp only at F2 h0 hs hx IH ⊢
      walk_at "mine go"
      (all_goals (try k_data))
      refine whlIf_beq (fun hm => ?_) (fun hm => ?_)
      · walk_at "mine go"
        (all_goals (try k_data))
        obtain ⟨s1, s2, s3⟩ := strip_turn h0 hm hs
        refine IH (sz.fdiv 10, ex + 1, _, _) _ _ (frCong (by assumption) (cong2 (a := "size") (b := "exponent") rfl rfl (fun y h1 h2 => by simp only [if_neg h1, if_neg h2]))) (cb_drop (by assumption) (fun p hp => List.mem_cons_of_mem _ hp)) ⟨s2, k + 1, s1, ?_⟩ s3
        dsimp only; omega
      · have hfin := madeF_end hmz h0 hs hx hm
        clear IH hs
        walk_at "mine go"
        (all_goals (try k_data))
        all_goals first
          | (with_reducible refine err_ok (by assumption) (by assumption) (by assumption) (by assumption) ?_
             k_unfold
             try dsimp only
             refine err_first (by assumption) (by assumption) (by assumption) (by assumption) (fun h' fly up => ?_) (by assumption)
             exact hraise (hfin.trans (madeE_none (by omega))) _ _ _ _ (by assumption) (fly.mono (by first | exact (fun z hz => hz) | exact (fun z hz => List.mem_cons_of_mem _ hz))) up)
          | (refine' ret_tup2 (x := 0) (y := 0) (fun D t1 t2 h' tk' l F N => hret D 0 0 t1 t2 h' tk' (hfin.trans (madeE_low (by omega) (by omega))) l F N) ?F ?N ?l ?hs rfl rfl
             case F => assumption
             case N => assumption
             case l => first | assumption | exact ktn_ltOf (by assumption) | exact ktn_ltOf (And.right (by assumption))
             case hs => first | exact (fun z hz => hz) | exact (fun z hz => List.mem_cons_of_mem _ hz))
          | (refine' ret_tup2 (x := -sz) (y := ex) (fun D t1 t2 h' tk' l F N => hret D _ _ t1 t2 h' tk' (hfin.trans (madeE_neg (by omega) (by omega) (by assumption))) l F N) ?F ?N ?l ?hs rfl rfl
             case F => assumption
             case N => assumption
             case l => first | assumption | exact ktn_ltOf (by assumption) | exact ktn_ltOf (And.right (by assumption))
             case hs => first | exact (fun z hz => hz) | exact (fun z hz => List.mem_cons_of_mem _ hz))
          | (refine' ret_tup2 (x := sz) (y := ex) (fun D t1 t2 h' tk' l F N => hret D _ _ t1 t2 h' tk' (hfin.trans (madeE_pos (by omega) (by omega) (by assumption))) l F N) ?F ?N ?l ?hs rfl rfl
             case F => assumption
             case N => assumption
             case l => first | assumption | exact ktn_ltOf (by assumption) | exact ktn_ltOf (And.right (by assumption))
             case hs => first | exact (fun z hz => hz) | exact (fun z hz => List.mem_cons_of_mem _ hz)))
end
local macro_rules | `(tactic| walk_at "mine bd") => `(tactic| ((with_reducible refine' Bd.fdiv ?m0 abs_mul_nonneg ?m1); (case m0 => walk_at "mine bd"); (case m1 => assumption)))
local macro_rules | `(tactic| walk_at "call ref") => `(tactic| (k_here; k_dflt ((refine' made_c ?B ?F ?X ?N ?T ?hk _ _ _ _ _ _ ?hc ?he1 ?he2 ?hd1 ?hd9 ?hd ?hu ?hret ?hraise); walk_at "mine sx"; (case hc => walk_at "mine bdk"); walk_at "mine se"; walk_at "mine sd"; walk_at "mine su"; (case' hret => intro D9 x9 y9 t9 u9 h9 tk9 hm9 l9 F9 N9; (try dsimp only); (try k_lt l9); (try k_sweep)); (case' hraise => intro hm9 e9 G9 h9 tk9 FG9 fly9 up9; (try dsimp only)))))
local macro_rules | `(tactic| walk_at "leaving ref") => `(tactic| (k_here; (rename Flying _ _ _ _ _ _ _ => flyX); k_dflt (refine' err_on ?B ?hf ?F flyX ?U ?_); (case B => k_asm); (case hf => exact rfl); (case F => k_asm); (case U => k_asm); intro h9 fly9 up9; (try dsimp only)))
section
variable {w : World} {p : Program} {loose : List PySem.Str} {mean : ExcName → Option Value} {mg mb : PySem.Str → Option Value}
 {dp un : Nat} {gd : Option (List Code)} {cn : PySem.Str} {cs : Scope} {a : Addr} {ccd : Value} {cl : List (PySem.Str × Addr)} {outer : List Env} {A₀ : Around} {base h₀ : Heap} {L : Addr} {m : PySem.Str → Option Value} {news : List (Addr × Obj)} {s : Shared} {Q E : Value → Shared → Prop}

theorem decimal_c {D : Addr} {n q : Int} {tn tq : Tok} (B : Below A₀ base outer h₀) (F : Fr h₀ L s.heap m) (X : (Mine.hd.heap_39 w.params).In h₀) (N : News h₀ L s.heap news) (T : Top p loose mean mg mb h₀) (hk : cs.kind = .function)
 (hD : (D, ({ cls := .type "tuple", data := .seq #[.int n tn, .int q tq] } : Obj)) ∈ news)
 (d : Int) (td : Tok) (hn : Bd 200 n) (hq : Bd 200 q) (hq0 : 0 < q) (hd1 : 1 ≤ d) (hd9 : d ≤ 9)
 (hd : dp + 16 < recursionLimit) (hu : un + 60 < cLine)
 (hret : ∀ D x y t1 t2 h' tk', decF n q d = some (x, y) → (∀ z ∈ news, z.1 < D) → Fr h₀ L h' m → News h₀ L h' ((D, { cls := .type "tuple", data := .seq #[.int x t1, .int y t2] }) :: news) → Q (.ref D) { s with heap := h', toks := tk' })
 (hraise : decF n q d = none → ∀ e G h' tk', Fr h₀ L G m → Flying base G (envX cn cs L a ccd cl :: outer) "OV" news e h' → G.UpToSlots h' → E (.ref e) { s with heap := h', toks := tk' }) :
 wpAny (model PySem.Challenge.rw_pq0135_01.row.prog w) (ktrTop dp un gd cn cs L a ccd cl outer) (call (.ref 86) [.ref D, .int d td]) Q E s := by
  w_on
  have hfa := figs_pos (if n < 0 then -n else n)
  have hfb := figs_le (k := 199) hq
  have hp1 : d + 3 + figs q - figs (if n < 0 then -n else n) < 0 → plc n q d = 0 := fun z => by unfold plc aabs; rw [if_pos z]
  have hp2 : ¬ d + 3 + figs q - figs (if n < 0 then -n else n) < 0 → plc n q d = d + 3 + figs q - figs (if n < 0 then -n else n) := fun z => by unfold plc aabs; rw [if_neg z]
  have hql := hq.log (by decide)
  refine wpAny_call ?_
  k_dflt ktr_enter
  walk_at "mine go"
  all_goals (try walk_at "call ref")
  all_goals (try (walk_at "mine go"))
  (all_goals (try k_data))
  all_goals (first | (have hp := hp1 (by assumption)) | (have hp := hp2 (by assumption)))
  all_goals (first
    | (have hdf := decF_neg (d := d) hp (by assumption) (if_pos (by assumption))
       have hdf2 := hdf.trans (by assumption))
    | (have hdf := decF_neg (d := d) hp (by assumption) (if_neg (by assumption))
       have hdf2 := hdf.trans (by assumption))
    | (have hdf := decF_pos (d := d) hp (by assumption) (if_pos (by assumption))
       have hdf2 := hdf.trans (by assumption))
    | (have hdf := decF_pos (d := d) hp (by assumption) (if_neg (by assumption))
       have hdf2 := hdf.trans (by assumption)))
  all_goals first
    | (with_reducible show E _ _
       refine hraise hdf2 _ _ _ _ ?_ (Flying.mono (by assumption) ?_) (by assumption)
       · assumption
       · first | exact (fun z hz => hz) | exact (fun z hz => List.mem_cons_of_mem _ hz) | exact (fun z hz => List.mem_cons_of_mem _ (List.mem_cons_of_mem _ hz)))
    | (refine' ret_tup2 (fun D t1 t2 h' tk' l F N => hret D _ _ t1 t2 h' tk' hdf2 l F N) ?F ?N ?l ?hs rfl rfl
       case F => assumption
       case N => assumption
       case l => first | assumption | exact ktn_ltOf (by assumption) | exact ktn_ltOf (And.right (by assumption)) | exact ktn_ltOf (And.right (And.right (by assumption)))
       case hs => first | exact (fun z hz => hz) | exact (fun z hz => List.mem_cons_of_mem _ hz) | exact (fun z hz => List.mem_cons_of_mem _ (List.mem_cons_of_mem _ hz)))
end
section
variable {prog : Program} {w : World} {A₀ A : Around} {s : Shared} {base h₀ : Heap} {env : Env} {L : Addr} {m : PySem.Str → Option Value} {news : List (Addr × Obj)} {K : Frag} {p : Program} {loose : List PySem.Str} {mean : ExcName → Option Value} {mg mb : PySem.Str → Option Value}
  {R : Result → Shared → Prop} {name qual : PySem.Str} {params : Arguments} {body : List Stmt} {scope : Scope} {dV kV doc pm cdv ct oc : Value} {an od : Option Addr} {osl : Array (Option Value)} {f : Addr} {args : Args} {binds : List (PySem.Str × Value)}
/-- entering a def from the lowest frame, whatever cells that frame has; the frame's own object may be turned on the way out -/
theorem code_turn (B : Below A₀ base [] h₀) (F : Fr h₀ L s.heap m) (X₀ : K.In h₀) (N : News h₀ L s.heap news) (T : Top p loose mean mg mb h₀) (hA : A.frames = some [env]) (hf : env.frame = some L) (hke : env.scope.kind = .function)
    (ho : K.lookup f = some ⟨oc, od, .func (fnOf name qual params body scope dV kV doc pm an cdv ct), osl⟩) (hcd : codeIn K cdv qual = true) (hroom : A.depth < recursionLimit)
    (hbind : BindsTo s (fnOf name qual params body scope dV kV doc pm an cdv ct) args binds) (hloc : ∀ y ∈ binds, scope.names.lookup y.1 = some .local)
    (h : ∀ g L' h₁, Fr h₀ L g m → Fr g L' h₁ (fun y => binds.reverse.lookup y) → News g L' h₁ news → Below A base [env] g → K.In g → Top p loose mean mg mb g →
      wpAny (model prog w) (A.deeper (envOf qual scope L' f cdv)) (execs body (envOf qual scope L' f cdv))
        (fun fl s' => LeaveS0 ([env].filterMap (·.frame)) h₀ L m g R (match fl with | .ret v => v | _ => .none) s')
        (fun e s' => wpAny (model prog w) (A.deeper (envOf qual scope L' f cdv)) (leaving (envOf qual scope L' f cdv) e) (fun _ s'' => R (.error e) s'') (fun e' s'' => R (.error e') s'') s')
        { s with heap := h₁, toks := s.toks + binds.length })
    (hco : scope.isCoroutine = false) (hgen : scope.isGenerator = false) (hk : scope.kind = .function)
    (hcell : ∀ x ∈ scope.names, x.2 ≠ .cell) : codeAny (model prog w) A (.call (.ref f) args) R s := by
  obtain ⟨FG, BG, st, _⟩ := groundX (R := R) B F N hA hf hke
  refine codeAny_call_def (fd := fnOf name qual params body scope dV kV doc pm an cdv ct) (body := body) (binds := binds) hroom ((X₀.keeps F.keep) _ _ ho) rfl (T.nolimit.keeps F.keep) (codeRec_of (X₀.keeps F.keep) hcd) rfl hbind hcell hloc (fun h₁ hns hk₁ => ?_) hco hgen hk
  refine wpAny_mono (h _ s.heap.objs.size h₁ FG ⟨hns, fun b o e => hk₁ b o (of_hideAll _ e), Nat.le_of_eq (hideAll_size _ _)⟩
    (fun p hp => ⟨hk₁ _ _ (N p hp).1, Nat.ne_of_lt (Heap.lt_size (N p hp).1), hideAll_none _ (List.mem_map_of_mem hp)⟩) BG (X₀.keeps st) (T.keeps st)) (fun fl s' hl => ?_) fun _ _ y => y
  obtain ⟨g', L', m', news', T', F', N', k⟩ := hl
  have nL₀ : h₀.get? L = none := kts_self F
  obtain ⟨oL, es, ep, hL, hLd, hLk, hLf⟩ := FG.ns
  obtain ⟨sl, hs⟩ := T'.up hL
  have onL : ∀ b, b ∈ [env].filterMap (·.frame) → b = L := fun b hb => (mem_fr hf hb).elim id (fun z => by simp at z)
  refine k ⟨⟨_, es, ep, F'.keep _ _ hs, hLd, hLk, hLf⟩, fun b o e => F'.keep b o (T'.other b o (st b o e) (fun q => by
    rw [onL b q, nL₀] at e
    cases e)), F.above⟩ fun p hp => ⟨(N' p hp).1, fun q => ?_, ?_⟩
  · have := (N' p hp).2.2; rw [q, hs] at this; cases this
  · cases q : h₀.get? p.1 with
    | none => rfl
    | some o =>
      obtain ⟨sl', hs'⟩ := T'.up (st _ _ q)
      have := (N' p hp).2.2
      rw [hs'] at this
      cases this
end
section
variable {w : World} {p : Program} {loose : List PySem.Str} {mean : ExcName → Option Value} {mg mb : PySem.Str → Option Value}
 {dp un : Nat} {gd : Option (List Code)} {cn : PySem.Str} {cs : Scope} {a : Addr} {ccd : Value} {cl : List (PySem.Str × Addr)} {A₀ : Around} {h₀ : Heap} {L : Addr} {m : PySem.Str → Option Value} {news : List (Addr × Obj)} {s : Shared} {Q E : Value → Shared → Prop}
theorem law_code_err (code : PySem.Str) (B : Below A₀ h₀ [] h₀) (F : Fr h₀ L s.heap m) (X : (Mine.hd.heap_39 w.params).In h₀) (N : News h₀ L s.heap news) (T : Top p loose mean mg mb h₀) (hk : cs.kind = .function)
 {fl : Addr} {fc : Value} {fod : Option Addr} {fd : FuncData} {fsl : Array (Option Value)} (hfl : (fl, (⟨fc, fod, .func fd, fsl⟩ : Obj)) ∈ news)
 (hd : dp + 30 < recursionLimit) (hu : un + 100 < cLine)
 (htask : ∀ (g : Heap) (L1 : Addr) (sc : Scope) (m1 : PySem.Str → Option Value) (s1 : Shared) (Q1 E1 : Value → Shared → Prop), sc.kind = .function → Below (ktrTop dp un gd cn cs L a ccd cl []) h₀ [envX cn cs L a ccd cl] g → Fr g L1 s1.heap m1 → News g L1 s1.heap news → (Mine.hd.heap_39 w.params).In g → Top p loose mean mg mb g →
   (∀ e G h' tk', Fr g L1 G m1 → Flying h₀ G (envOf "_law_code" sc L1 100 (.ref 99) :: [envX cn cs L a ccd cl]) code news e h' → G.UpToSlots h' → E1 (.ref e) { s1 with heap := h', toks := tk' }) →
   wpAny (model PySem.Challenge.rw_pq0135_01.row.prog w) ((ktrTop dp un gd cn cs L a ccd cl []).deeper (envOf "_law_code" sc L1 100 (.ref 99))) (call (.ref fl) []) Q1 E1 s1)
 (hret : ∀ t h' tk', Fr h₀ L h' m → News h₀ L h' news → Q (.str code t) { s with heap := h', toks := tk' }) :
 wpAny (model PySem.Challenge.rw_pq0135_01.row.prog w) (ktrTop dp un gd cn cs L a ccd cl []) (call (.ref 100) [.ref fl]) Q E s := by
  w_on
  refine wpAny_call ?_
  k_dflt (refine' code_turn ?k1 ?k2 ?k3 ?k4 ?k5 ?kA ?kF ?kK ?k6 ?k7 ?k8 ?k9 ?kB ?_ ?c2 ?c3 ?c4 ?c5)
  (case kA => exact rfl)
  (case kF => exact rfl)
  (case kK => assumption)
  (case k1 => k_asm); (case k2 => k_asm); (case k3 => k_asm); (case k4 => k_asm); (case k5 => k_asm); (case k6 => k_is); (case k7 => k_is); (case k8 => ktr_room); (case k9 => exact BindsTo.of_eq rfl); (case c5 => decide); (case kB => exact locs rfl); (case c2 => exact rfl); (case c3 => exact rfl); (case c4 => exact rfl)
  intro g' L' h' FG' F' N' B' X' T'
  try dsimp only
  try k_fold
  walk_at "mine go"
  refine callWith_F0 (FnAt.of N' hfl) ?_
  dsimp only [List.nil_append]
  refine htask _ _ _ _ _ _ _ rfl B' F' N' X' T' ?_
  intro e9 G9 h9 tk9 FG9 fly9 up9
  try dsimp only
  k_dflt (refine' err_caught fly9 FG9 B' up9 X T ?ex ?q ?_)
  case ex => k_is
  case q => first | rfl | decide | kernel_rfl
  intro h6 g6 oe od d6 tk6 hoe hvs hdd hcode T6 F6 N6 B6 X6 T6'
  clear F' N' FG9 fly9 up9 htask
  walk_at "mine go"
  obtain ⟨es, ep, tkc, hod, hkey, hfind⟩ := hcode
  obtain ⟨vs, hvs⟩ := hvs
  have X7 := X6.keeps F6.keep
  have hns : h6.Ns 33 (h6.nsMap 33) := .of_isNs (isNs_of_in X7 (by first | rfl | decide | kernel_rfl))
  refine sx_load (mA := fun y => nsFind es y) PySem.F.attrBase_Exception (X7 34 _ (hd_cls _)) hns (nsMap_none_of_in X7 (by first | rfl | decide | kernel_rfl) (by k_is)) (nsMap_none_of_in X7 (by first | rfl | decide | kernel_rfl) (by k_is)) (nsMap_none_of_in X7 (by first | rfl | decide | kernel_rfl) (by k_is)) (by rw [typeLookup_type, builtinLookup_eq_fast]; kernel_rfl) (N6 _ (.head _)).1 hoe hvs hdd ⟨od, es, ep, (N6 _ (.tail _ (.head _))).1, hod, hkey, fun _ => rfl⟩ hfind rfl ?_
  clear X7 hns
  walk_at "mine go"
  (all_goals (try k_data))
  exact hret _ _ _ (by assumption) (cb_drop (by assumption) (fun z hz => List.mem_cons_of_mem _ (List.mem_cons_of_mem _ hz)))
end
def lawRec {q : Program} {loose : List PySem.Str} {XP : (PySem.Str → Option Value) → Heap → Prop} {YP : World → Heap → Prop} {r : RowW} {d : DefRec} {kwd : List (PySem.Str × PySem.Expr)} {run : Value → List Value → Sem Value} {H : Prop} (_ : WalkO q loose XP YP r d kwd run → H) : DefRec := d
def Stop (P : Prop) : Prop := P
theorem stop_ {P : Prop} (h : Stop P) : P := h
section
variable {w : World} {p : Program} {loose : List PySem.Str} {mean : ExcName → Option Value} {mg mb : PySem.Str → Option Value}
 {dp un : Nat} {gd : Option (List Code)} {cn : PySem.Str} {cs : Scope} {a : Addr} {ccd : Value} {cl : List (PySem.Str × Addr)} {outer : List Env} {A₀ : Around} {base h₀ : Heap} {L : Addr} {m : PySem.Str → Option Value} {news : List (Addr × Obj)} {s : Shared} {Q E : Value → Shared → Prop}
theorem decimal_some {D : Addr} {n q : Int} {tn tq : Tok} (B : Below A₀ base outer h₀) (F : Fr h₀ L s.heap m) (X : (Mine.hd.heap_39 w.params).In h₀) (N : News h₀ L s.heap news) (T : Top p loose mean mg mb h₀) (hk : cs.kind = .function)
 (hD : (D, ({ cls := .type "tuple", data := .seq #[.int n tn, .int q tq] } : Obj)) ∈ news)
 (d : Int) (td : Tok) {x y : Int} (hs : decF n q d = some (x, y)) (hn : Bd 200 n) (hq : Bd 200 q) (hq0 : 0 < q) (hd1 : 1 ≤ d) (hd9 : d ≤ 9)
 (hd : dp + 16 < recursionLimit) (hu : un + 60 < cLine)
 (hret : ∀ D t1 t2 h' tk', (∀ z ∈ news, z.1 < D) → Fr h₀ L h' m → News h₀ L h' ((D, { cls := .type "tuple", data := .seq #[.int x t1, .int y t2] }) :: news) → Q (.ref D) { s with heap := h', toks := tk' }) :
 wpAny (model PySem.Challenge.rw_pq0135_01.row.prog w) (ktrTop dp un gd cn cs L a ccd cl outer) (call (.ref 86) [.ref D, .int d td]) Q E s :=
  decimal_c B F X N T hk hD d td hn hq hq0 hd1 hd9 hd hu (fun D x' y' t1 t2 h' tk' e l F' N' => by rw [hs] at e; cases e; exact hret D t1 t2 h' tk' l F' N') (fun e => by rw [hs] at e; cases e)
theorem decimal_none {D : Addr} {n q : Int} {tn tq : Tok} (B : Below A₀ base outer h₀) (F : Fr h₀ L s.heap m) (X : (Mine.hd.heap_39 w.params).In h₀) (N : News h₀ L s.heap news) (T : Top p loose mean mg mb h₀) (hk : cs.kind = .function)
 (hD : (D, ({ cls := .type "tuple", data := .seq #[.int n tn, .int q tq] } : Obj)) ∈ news)
 (d : Int) (td : Tok) (hs : decF n q d = none) (hn : Bd 200 n) (hq : Bd 200 q) (hq0 : 0 < q) (hd1 : 1 ≤ d) (hd9 : d ≤ 9)
 (hd : dp + 16 < recursionLimit) (hu : un + 60 < cLine)
 (hraise : ∀ e G h' tk', Fr h₀ L G m → Flying base G (envX cn cs L a ccd cl :: outer) "OV" news e h' → G.UpToSlots h' → E (.ref e) { s with heap := h', toks := tk' }) :
 wpAny (model PySem.Challenge.rw_pq0135_01.row.prog w) (ktrTop dp un gd cn cs L a ccd cl outer) (call (.ref 86) [.ref D, .int d td]) Q E s :=
  decimal_c B F X N T hk hD d td hn hq hq0 hd1 hd9 hd hu (fun D x' y' t1 t2 h' tk' e l F' N' => by rw [hs] at e; cases e) (fun _ => hraise)
end
local macro_rules | `(tactic| walk_at "call ref") => `(tactic| (k_here; k_dflt ((refine' decimal_some ?B ?F ?X ?N ?T ?hk ?hD _ _ ?hs ?hn ?hq ?hq0 ?hd1 ?hd9 ?hd ?hu ?_); walk_at "mine sx"; (case hD => k_mem); (case hs => assumption); walk_at "mine sn"; (case hq0 => first | assumption | exact Int.mul_pos (by omega) (by omega) | omega); walk_at "mine sd"; walk_at "mine su"; walk_at "mine sr")))
local macro_rules | `(tactic| walk_at "call ref") => `(tactic| (k_here; k_dflt ((refine' decimal_none ?B ?F ?X ?N ?T ?hk ?hD _ _ ?hs ?hn ?hq ?hq0 ?hd1 ?hd9 ?hd ?hu ?_); walk_at "mine sx"; (case hD => k_mem); (case hs => assumption); walk_at "mine sn"; (case hq0 => first | assumption | exact Int.mul_pos (by omega) (by omega) | omega); walk_at "mine sd"; walk_at "mine su"; intro e9 G9 h9 tk9 FG9 fly9 up9; (try dsimp only))))
local macro_rules | `(tactic| walk_at "callWith ref") => `(tactic| (k_here; k_dflt (refine' callWith_K ?k1 ?k2 ?_; (case k1 => k_asm); (case k2 => k_is); k_whole)))
section
variable {prog : Program} {w : World} {p : Program} {loose : List PySem.Str} {mean : ExcName → Option Value} {mg mb : PySem.Str → Option Value}
 {dp un : Nat} {gd : Option (List Code)} {cn : PySem.Str} {cs : Scope} {a : Addr} {ccd : Value} {cl : List (PySem.Str × Addr)} {outer : List Env} {A₀ : Around} {base h₀ : Heap} {L : Addr} {m : PySem.Str → Option Value} {news : List (Addr × Obj)} {s : Shared} {Q E : Value → Shared → Prop}
def NextOk (n q d c e : Int) : Prop := 0 < c ∧ c.fmod 10 ≠ 0 ∧ c < 10 ^ d.toNat ∧ ∀ i : Nat, (10 : Int) ^ (d - 1).toNat ≤ c * 10 ^ i → c * 10 ^ i < 10 ^ d.toNat → nextB n q d (c * 10 ^ i) (e - i) = true
theorem next_true {D : Addr} {c e : Int} {tc te : Tok} (B : Below A₀ base outer h₀) (F : Fr h₀ L s.heap m) (X : (Mine.hd.heap_39 w.params).In h₀) (N : News h₀ L s.heap news) (T : Top p loose mean mg mb h₀) (hk : cs.kind = .function)
 (hD : (D, ({ cls := .type "tuple", data := .seq #[.int c tc, .int e te] } : Obj)) ∈ news)
 (n q d : Int) (tn tq td : Tok) (hs : NextOk n q d c e) (hn : Bd 400 n) (hq : Bd 400 q) (hd1 : 1 ≤ d) (hd9 : d ≤ 9) (he1 : -300 ≤ e) (he2 : e ≤ 300)
 (hd : dp + 1 < recursionLimit) (hu : un + 8 < cLine)
 (hret : ∀ h' tk', Fr h₀ L h' m → News h₀ L h' news → Q (.bool true) { s with heap := h', toks := tk' }) :
 wpAny (model prog w) (ktrTop dp un gd cn cs L a ccd cl outer) (call (.ref 121) [.int n tn, .int q tq, .int d td, .ref D]) Q E s := by
  obtain ⟨h1, h2, h3, h4⟩ := hs
  refine is_next_c B F X N T hk hD n q d tn tq td hn hq hd1 hd9 he1 he2 hd hu (fun z => ?_) (fun i _ z1 z2 h' tk' F' N' => ?_)
  · rcases z with z | z | z
    · exact absurd z (Int.not_le.mpr h1)
    · exact absurd z h2
    · exact absurd z (Int.not_le.mpr h3)
  · rw [h4 i z1 z2]
    exact hret h' tk' F' N'
end
local macro_rules | `(tactic| walk_at "call ref") => `(tactic| (k_here; k_dflt ((refine' next_true ?B ?F ?X ?N ?T ?hk ?hD _ _ _ _ _ _ ?hs ?hn ?hq ?hd1 ?hd9 ?he1 ?he2 ?hd ?hu ?_); walk_at "mine sx"; (case hD => k_mem); (case hs => first | assumption | (walk_at "mine next")); walk_at "mine sn"; walk_at "mine sd"; walk_at "mine se"; walk_at "mine su"; intro h9 tk9 F9 N9; walk_at "mine sw")))
local macro_rules | `(tactic| walk_at "call ref") => `(tactic| (k_here; k_dflt ((refine' least_c ?B ?F ?X ?N ?T ?hk _ _ _ _ ?hq ?hd ?hu ?_); walk_at "mine sx"; (case hq => assumption); walk_at "mine su"; intro h9 tk9 F9 N9; walk_at "mine sw")))
local macro_rules | `(tactic| walk_at "call ref") => `(tactic| (k_here; k_dflt ((refine' fraction_of_int_c ?B ?F ?X ?N ?T ?hk _ _ ?hd ?hu ?_); walk_at "mine sx"; walk_at "mine su"; walk_at "mine sr")))
local macro_rules | `(tactic| walk_at "call ref") => `(tactic| (k_here; k_dflt ((refine' fraction_of_tup_c ?B ?F ?X ?N ?T ?hk ?hD ?hc ?he1 ?he2 ?hd ?hu ?_); walk_at "mine sx"; (case hD => k_mem); (case hc => walk_at "mine bdk"); walk_at "mine se"; walk_at "mine su"; walk_at "mine sr")))
local macro_rules | `(tactic| walk_at "call ref") => `(tactic| (k_here; k_dflt ((refine' fraction_of_tm_c ?B ?F ?X ?N ?T ?hk _ ?hd ?hu ?_); walk_at "mine sx"; walk_at "mine su"; intro e9 G9 h9 tk9 FG9 fly9 up9; (try dsimp only))))
local macro_rules | `(tactic| walk_at "mine lam") => `(tactic| (k_dflt (refine wpAny_call ?_; (refine' kla_code ?k1 ?k2 ?k3 ?k4 ?k5 ?kA ?kF ?kK ?k6 ?k7 ?k8 ?k9 ?kB ?_ ?c2 ?c3 ?c4 ?c5; (case kA => exact rfl); (case kF => exact rfl); (case kK => assumption); (case k1 => k_asm); (case k2 => k_asm); (case k3 => k_asm); (case k4 => k_asm); (case k5 => k_asm); (case k6 => k_mem); (case k7 => exact codeRec_news (by k_asm) (by k_mem) (by assumption) (by assumption)); (case k8 => k_room); (case k9 => exact rfl); (case c5 => decide); (case kB => exact locs rfl); (case c2 => exact rfl); (case c3 => exact rfl); (case c4 => exact rfl); k_whole; intro g' L' h' FG' F' N' B' X' T'; (try dsimp only); (try k_lift B'); (try k_fold)))))
local macro_rules | `(tactic| walk_at "call ref") => `(tactic| (k_here; k_dflt ((refine' law_code_err _ ?B ?F ?X ?N ?T ?hk ?hfl ?hd ?hu ?htask ?_); walk_at "mine sx"; (case hfl => k_mem); walk_at "mine su"; (case htask => (intro g8 L8 sc8 m8 s8 Q8 E8 k8 B8 F8 N8 X8 T8 r8; walk_at "mine lam"; walk_at "mine go"; first | exact r8 _ _ _ _ (by assumption) (by assumption) (by assumption) | exact r8 _ _ _ _ (by assumption) (Flying.mono (by assumption) (fun z hz => List.mem_cons_of_mem _ hz)) (by assumption))); intro t9 h9 tk9 F9 N9; walk_at "mine sw")))
theorem eq_tup_str {prog : Program} {w : World} {A : Around} {E : Value → Shared → Prop} {h₀ : Heap} {L D : Addr} {items : Array Value} {news : List (Addr × Obj)} {s : Shared} {Q : Value → Shared → Prop} {c : PySem.Str} {u : Tok} (N : News h₀ L s.heap news) (hD : (D, ({ cls := .type "tuple", data := .seq items } : Obj)) ∈ news) (hu : A.units < cLine) (h : Q (.bool false) s) :
    wpAny (model prog w) A (compareOp .Eq (.ref D) (.str c u)) Q E s := by
  show wpAny _ A (richCompare .Eq _ _) Q E s
  exact PySem.SeqAt.RcAt.tuple_str c u ⟨_, (N _ hD).1, rfl, _, rfl⟩ hu _ _ _ _ h
local macro_rules | `(tactic| walk_at "compareOp Eq ref") => `(tactic| (k_here; k_dflt ((refine' eq_tup_str ?N ?hD ?hu ?_); (case N => k_asm); (case hD => k_mem); (case hu => ktr_units))))
/-- T / W rounded to the nearest whole, half to even -/
def rne (T W : Nat) : Nat := if W < 2 * (T % W) ∨ (2 * (T % W) = W ∧ (T / W) % 2 = 1) then T / W + 1 else T / W
theorem rne_scale {k T W : Nat} (hk : 0 < k) : rne (k * T) (k * W) = rne T W := by
  have e1 : k * T / (k * W) = T / W := Nat.mul_div_mul_left T W hk
  have e2 : k * T % (k * W) = k * (T % W) := Nat.mul_mod_mul_left k T W
  have i1 : k * W < 2 * (k * (T % W)) ↔ W < 2 * (T % W) := by
    rw [show 2 * (k * (T % W)) = k * (2 * (T % W)) by rw [Nat.mul_left_comm]]
    exact Nat.mul_lt_mul_left hk
  have i2 : 2 * (k * (T % W)) = k * W ↔ 2 * (T % W) = W := by
    rw [show 2 * (k * (T % W)) = k * (2 * (T % W)) by rw [Nat.mul_left_comm]]
    exact ⟨fun h => Nat.eq_of_mul_eq_mul_left hk h, fun h => by rw [h]⟩
  unfold rne
  rw [e1, e2]
  simp only [i1, i2]
/-- what rounding to the nearest means -/
theorem rne_spec {T W : Nat} (hW : 0 < W) : 2 * T ≤ (2 * rne T W + 1) * W ∧ 2 * rne T W * W ≤ 2 * T + W ∧ (2 * T = (2 * rne T W + 1) * W → rne T W % 2 = 0) ∧ (2 * rne T W * W = 2 * T + W → rne T W % 2 = 0) := by
  have h := Nat.div_add_mod T W
  have hm := Nat.mod_lt T hW
  generalize hq : T / W = q at *
  generalize hr : T % W = r at *
  unfold rne
  rw [hq, hr]
  have e : T = q * W + r := by rw [Nat.mul_comm q W]; omega
  subst e
  have a1 : (2 * q + 1) * W = 2 * (q * W) + W := by rw [Nat.add_mul, Nat.mul_assoc, Nat.one_mul]
  have a2 : 2 * q * W = 2 * (q * W) := Nat.mul_assoc ..
  have a3 : (2 * (q + 1) + 1) * W = 2 * (q * W) + 3 * W := by
    rw [Nat.add_mul, Nat.mul_assoc, Nat.add_mul, Nat.one_mul]; omega
  have a4 : 2 * (q + 1) * W = 2 * (q * W) + 2 * W := by rw [Nat.mul_assoc, Nat.add_mul, Nat.one_mul]; omega
  split
  · rename_i hc
    rw [a3, a4]
    refine ⟨by omega, by omega, by omega, fun z => ?_⟩
    omega
  · rename_i hc
    rw [a1, a2]
    refine ⟨by omega, by omega, fun z => ?_, by omega⟩
    omega
/-- rounding keeps within whole bounds -/
theorem rne_ge {T W m : Nat} (hW : 0 < W) (h : m * W ≤ T) : m ≤ rne T W := by
  have h1 : m ≤ T / W := (Nat.le_div_iff_mul_le hW).mpr h
  unfold rne
  split <;> omega
theorem rne_le {T W m : Nat} (hW : 0 < W) (h : T < m * W) : rne T W ≤ m := by
  have h1 : T / W < m := (Nat.div_lt_iff_lt_mul hW).mpr h
  unfold rne
  split <;> omega
/-- the last figure that is reached: m itself comes out from m - 1/2 on, for an even m -/
theorem rne_top {T W m : Nat} (hW : 0 < W) (hm : m % 2 = 0) (h1 : (m - 1) * W ≤ T) (h2 : T < m * W) (h0 : 0 < m) : rne T W = m ↔ (2 * m - 1) * W ≤ 2 * T := by
  have hq : T / W = m - 1 := by
    refine Nat.le_antisymm ?_ ((Nat.le_div_iff_mul_le hW).mpr h1)
    have := (Nat.div_lt_iff_lt_mul hW).mpr h2
    omega
  have h := Nat.div_add_mod T W
  rw [hq] at h
  have e1 : (2 * m - 1) * W = 2 * (W * (m - 1)) + W := by
    have : 2 * m - 1 = 2 * (m - 1) + 1 := by omega
    rw [this, Nat.add_mul, Nat.one_mul, Nat.mul_assoc, Nat.mul_comm (m - 1) W]
  rw [e1]
  unfold rne
  rw [hq]
  split <;> rename_i hc <;> constructor <;> intro z <;> omega
theorem figsN_spec : ∀ (m n : Nat), n ≤ m → 0 < n → 10 ^ (figsN n - 1) ≤ n ∧ n < 10 ^ figsN n := by
  intro m
  induction m with
  | zero => intro n h1 h2; omega
  | succ m ih =>
    intro n h1 h2
    rw [figsN]
    split
    · rename_i h
      exact ⟨by simp; omega, by simp; omega⟩
    · rename_i h
      have ⟨i1, i2⟩ := ih (n / 10) (by omega) (by omega)
      have hp := figsN_pos (n / 10)
      have e1 : 10 ^ (figsN (n / 10) + 1 - 1) = 10 ^ (figsN (n / 10) - 1) * 10 := by
        rw [← Nat.pow_succ]; congr 1; omega
      have e2 : 10 ^ (figsN (n / 10) + 1) = 10 ^ figsN (n / 10) * 10 := Nat.pow_succ ..
      rw [e1, e2]
      omega
theorem figsN_mul {s : Nat} (hs : 0 < s) : ∀ i, figsN (s * 10 ^ i) = figsN s + i
  | 0 => by simp
  | i + 1 => by
    have hp : 0 < 10 ^ i := Nat.pow_pos (by decide)
    have h1 : 0 < s * 10 ^ i := Nat.mul_pos hs hp
    have e : s * 10 ^ (i + 1) = s * 10 ^ i * 10 := by rw [Nat.pow_succ, Nat.mul_assoc]
    rw [figsN, if_neg (by omega), e, Nat.mul_div_cancel _ (by decide), figsN_mul hs i]
    omega
theorem strip_spec : ∀ (m n : Nat), n ≤ m → 0 < n → n = (strip n).1 * 10 ^ (strip n).2 ∧ (strip n).1 % 10 ≠ 0 ∧ 0 < (strip n).1 := by
  intro m
  induction m with
  | zero => intro n h1 h2; omega
  | succ m ih =>
    intro n h1 h2
    by_cases h : n % 10 = 0
    · rw [strip_step h2 h]
      have ⟨i1, i2, i3⟩ := ih (n / 10) (by omega) (by omega)
      refine ⟨?_, i2, i3⟩
      dsimp only
      rw [Nat.pow_succ, ← Nat.mul_assoc, ← i1]
      omega
    · rw [strip_end h]
      exact ⟨by simp, h, h2⟩
theorem rne_sticky {T b U h : Nat} (hb : 0 < b) (hU : U = 2 * h) (hU0 : 0 < U) : rne (10 * (T / b) + (if 0 < T % b then 1 else 0)) (10 * U) = rne T (b * U) := by
  have hr := Nat.mod_lt T hb
  have e1 : (10 * (T / b) + (if 0 < T % b then 1 else 0)) / (10 * U) = T / b / U := by
    rw [← Nat.div_div_eq_div_mul]
    congr 1
    split <;> omega
  have e2 : (10 * (T / b) + (if 0 < T % b then 1 else 0)) % (10 * U) = 10 * (T / b % U) + (if 0 < T % b then 1 else 0) := by
    rw [Nat.mod_mul]
    have g1 : (10 * (T / b) + (if 0 < T % b then 1 else 0)) % 10 = (if 0 < T % b then 1 else 0) := by split <;> omega
    have g2 : (10 * (T / b) + (if 0 < T % b then 1 else 0)) / 10 = T / b := by split <;> omega
    rw [g1, g2]; omega
  have e3 : T / (b * U) = T / b / U := (Nat.div_div_eq_div_mul T b U).symm
  have e4 : T % (b * U) = T % b + b * (T / b % U) := Nat.mod_mul
  unfold rne
  rw [e1, e2, e3, e4]
  generalize T / b % U = q
  generalize T % b = r at hr ⊢
  subst hU
  have m1 : b * (2 * h) = 2 * (b * h) := Nat.mul_left_comm ..
  rw [m1]
  have key : (h < q → b * h + b ≤ b * q) ∧ (q < h → b * q + b ≤ b * h) := by
    refine ⟨fun z => ?_, fun z => ?_⟩
    · rw [← Nat.mul_succ]; exact Nat.mul_le_mul_left b z
    · rw [← Nat.mul_succ]; exact Nat.mul_le_mul_left b z
  have c1 : 10 * (2 * h) < 2 * (10 * q + (if 0 < r then 1 else 0)) ↔ 2 * (b * h) < 2 * (r + b * q) := by
    rcases Nat.lt_trichotomy h q with z | z | z
    · have := key.1 z
      constructor <;> intro _ <;> (try split) <;> omega
    · subst z
      split <;> constructor <;> intro _ <;> omega
    · have := key.2 z
      constructor
      · intro y; split at y <;> omega
      · intro y; omega
  have c2 : 2 * (10 * q + (if 0 < r then 1 else 0)) = 10 * (2 * h) ↔ 2 * (r + b * q) = 2 * (b * h) := by
    rcases Nat.lt_trichotomy h q with z | z | z
    · have := key.1 z
      constructor
      · intro y; split at y <;> omega
      · intro y; omega
    · subst z
      split <;> constructor <;> intro _ <;> omega
    · have := key.2 z
      constructor
      · intro y; split at y <;> omega
      · intro y; omega
  simp only [c1, c2]
theorem pow10_split {i j : Nat} (h : i ≤ j) : 10 ^ j = 10 ^ i * 10 ^ (j - i) := by rw [← Nat.pow_add]; congr 1; omega
theorem ten_pow_pos (n : Nat) : 0 < 10 ^ n := Nat.pow_pos (by decide)
theorem rounded_rne {c p : Nat} (hp : 0 < p) (hf : p ≤ figsN c + 1) : rounded (c : Int) (p : Int) = ((rne c (10 ^ p) : Nat) : Int) := by
  have hu : (10 : Int) ^ ((p : Int)).toNat = ((10 ^ p : Nat) : Int) := by simp
  have hfig : figs (c : Int) = figsN c := by unfold figs; simp
  have h0 : (0 : Int) ≤ ((10 ^ p : Nat) : Int) := Int.natCast_nonneg _
  unfold rounded
  rw [if_neg (by omega), hfig, if_neg (by omega), hu, Int.fdiv_eq_ediv_of_nonneg _ h0, Int.fmod_eq_emod_of_nonneg _ h0, Int.fmod_eq_emod_of_nonneg _ (by decide)]
  generalize 10 ^ p = U
  rw [← Int.natCast_ediv, ← Int.natCast_emod]
  unfold rne
  have e2 : ((c / U : Nat) : Int) % 2 = ((c / U % 2 : Nat) : Int) := by omega
  rw [e2]
  have i : (2 * ((c % U : Nat) : Int) > (U : Int) ∨ 2 * ((c % U : Nat) : Int) = (U : Int) ∧ ((c / U % 2 : Nat) : Int) = 1) ↔ (U < 2 * (c % U) ∨ 2 * (c % U) = U ∧ c / U % 2 = 1) := by omega
  simp only [i]
  split <;> omega
/-- the core: rounding the one more figure with its sticky mark is rounding the fraction itself -/
theorem core {a b d P : Nat} (hb : 0 < b) (hd : 1 ≤ d) (hP : P ≤ 1000) (hbig : 10 ^ (d + 2) * b ≤ a * 10 ^ P) :
    ∃ n : Nat, 10 ^ (d - 1) * (b * 10 ^ n) ≤ a * 10 ^ 1000 ∧ a * 10 ^ 1000 < 10 ^ d * (b * 10 ^ n) ∧
      (d : Int) < (figsN (10 * (a * 10 ^ P / b) + (if 0 < a * 10 ^ P % b then 1 else 0)) : Nat) ∧
      rounded ((10 * (a * 10 ^ P / b) + (if 0 < a * 10 ^ P % b then 1 else 0) : Nat) : Int) ((figsN (10 * (a * 10 ^ P / b) + (if 0 < a * 10 ^ P % b then 1 else 0)) : Nat) - (d : Int)) = ((rne (a * 10 ^ 1000) (b * 10 ^ n) : Nat) : Int) ∧
      -(P : Int) - 1 + ((figsN (10 * (a * 10 ^ P / b) + (if 0 < a * 10 ^ P % b then 1 else 0)) : Nat) - (d : Int)) = (n : Int) - 1000 := by
  generalize hT : a * 10 ^ P = T at *
  generalize hst : (if 0 < T % b then 1 else 0) = st
  have hst1 : st ≤ 1 := by rw [← hst]; split <;> omega
  have hS : 10 ^ (d + 2) ≤ T / b := (Nat.le_div_iff_mul_le hb).mpr hbig
  have hc0 : 0 < 10 * (T / b) + st := by have := ten_pow_pos (d + 2); omega
  have ⟨f1, f2⟩ := figsN_spec _ _ (Nat.le_refl _) hc0
  generalize hf : figsN (10 * (T / b) + st) = f at *
  have hfd : d + 3 < f := by
    refine (Nat.pow_lt_pow_iff_right (a := 10) (by decide)).mp (Nat.lt_of_le_of_lt ?_ f2)
    rw [show d + 3 = (d + 2) + 1 from rfl, Nat.pow_succ]
    omega
  -- e2 = f - d - 1
  obtain ⟨e2, he2⟩ : ∃ e2, f = d + e2 + 1 := ⟨f - d - 1, by omega⟩
  subst he2
  have he3 : 3 ≤ e2 := by omega
  have hW : 10 ^ e2 = 2 * (5 * 10 ^ (e2 - 1)) := by
    have : 10 ^ e2 = 10 ^ (e2 - 1) * 10 := by rw [← Nat.pow_succ]; congr 1; omega
    omega
  have hr1 : rne (10 * (T / b) + st) (10 ^ (e2 + 1)) = rne T (b * 10 ^ e2) := by
    rw [← hst, show 10 ^ (e2 + 1) = 10 * 10 ^ e2 by rw [Nat.pow_succ, Nat.mul_comm]]
    exact rne_sticky hb hW (ten_pow_pos _)
  -- bounds of T
  have b1 : 10 ^ (d - 1) * (b * 10 ^ e2) ≤ T := by
    have g : 10 ^ (d + e2 - 1) ≤ T / b := by
      have : 10 ^ (d + e2 + 1 - 1) = 10 * 10 ^ (d + e2 - 1) := by rw [Nat.mul_comm, ← Nat.pow_succ]; congr 1; omega
      omega
    have g2 := (Nat.le_div_iff_mul_le hb).mp g
    have : 10 ^ (d + e2 - 1) = 10 ^ (d - 1) * 10 ^ e2 := by rw [← Nat.pow_add]; congr 1; omega
    rw [this] at g2
    rw [Nat.mul_comm b, ← Nat.mul_assoc]
    exact g2
  have b2 : T < 10 ^ d * (b * 10 ^ e2) := by
    have g : T / b < 10 ^ (d + e2) := by
      have : 10 ^ (d + e2 + 1) = 10 * 10 ^ (d + e2) := by rw [Nat.mul_comm, ← Nat.pow_succ]
      omega
    have g2 := (Nat.div_lt_iff_lt_mul hb).mp g
    rw [Nat.pow_add] at g2
    rw [Nat.mul_comm b, ← Nat.mul_assoc]
    exact g2
  -- to the common place
  have hq : 0 < 10 ^ (1000 - P) := ten_pow_pos _
  have t1 : a * 10 ^ 1000 = 10 ^ (1000 - P) * T := by
    rw [← hT, pow10_split hP, Nat.mul_comm (10 ^ (1000 - P)), Nat.mul_assoc]
  have t2 : b * 10 ^ (e2 + (1000 - P)) = 10 ^ (1000 - P) * (b * 10 ^ e2) := by
    rw [Nat.pow_add, ← Nat.mul_assoc, Nat.mul_comm]
  refine ⟨e2 + (1000 - P), ?_, ?_, by omega, ?_, by omega⟩
  · rw [t1, t2, Nat.mul_left_comm]
    exact Nat.mul_le_mul_left _ b1
  · rw [t1, t2, Nat.mul_left_comm]
    exact Nat.mul_lt_mul_of_pos_left b2 hq
  · rw [t1, t2, rne_scale hq, ← hr1]
    have e : (((d + e2 + 1 : Nat) : Int) - (d : Int)) = ((e2 + 1 : Nat) : Int) := by omega
    rw [e]
    exact rounded_rne (by omega) (by omega)
theorem madeE_sign {c c' s x : Int} (h : c < 0 ↔ c' < 0) : madeE c s x = madeE c' s x := by
  unfold madeE
  by_cases z : c < 0
  · rw [if_pos z, if_pos (h.mp z)]
  · rw [if_neg z, if_neg (fun y => z (h.mpr y))]
theorem decF_main {a b d : Nat} {n : Int} (ha : 0 < a) (hb : 0 < b) (hd : 1 ≤ d) (hd9 : d ≤ 9) (hB : b < 10 ^ 200) (hn : aabs n = a) :
    ∃ N : Nat, 10 ^ (d - 1) * (b * 10 ^ N) ≤ a * 10 ^ 1000 ∧ a * 10 ^ 1000 < 10 ^ d * (b * 10 ^ N) ∧
      decF n b d = madeE n ((strip (rne (a * 10 ^ 1000) (b * 10 ^ N))).1 : Nat) ((N : Int) - 1000 + (strip (rne (a * 10 ^ 1000) (b * 10 ^ N))).2) := by
  have ⟨fa1, fa2⟩ := figsN_spec a a (Nat.le_refl _) ha
  have ⟨fb1, fb2⟩ := figsN_spec b b (Nat.le_refl _) hb
  have fap := figsN_pos a
  have fbp := figsN_pos b
  have fbl : figsN b ≤ 200 := figsN_le 199 b hB
  have efb : figs (b : Int) = figsN b := by unfold figs; simp
  have efa : figs (a : Int) = figsN a := by unfold figs; simp
  obtain ⟨P, hP⟩ : ∃ P : Nat, plc n b d = P := ⟨(plc n b d).toNat, by have := plc_nonneg n b d; omega⟩
  have hP' := hP
  unfold plc at hP'
  rw [hn, efb, efa] at hP'
  have hPl : P ≤ 1000 := by split at hP' <;> omega
  have hbig : 10 ^ (d + 2) * b ≤ a * 10 ^ P := by
    have g0 : d + 2 + figsN b ≤ figsN a - 1 + P := by split at hP' <;> omega
    have g1 : 10 ^ (d + 2) * b ≤ 10 ^ (d + 2) * 10 ^ figsN b := Nat.mul_le_mul_left _ (Nat.le_of_lt fb2)
    have g2 : 10 ^ (figsN a - 1) * 10 ^ P ≤ a * 10 ^ P := Nat.mul_le_mul_right _ fa1
    rw [← Nat.pow_add] at g1 g2
    exact Nat.le_trans g1 (Nat.le_trans (Nat.pow_le_pow_right (by decide) g0) g2)
  obtain ⟨N, c1, c2, c3, c4, c5⟩ := core (d := d) hb hd hPl hbig
  have eds : dsize n b d = ((10 * (a * 10 ^ P / b) + (if 0 < a * 10 ^ P % b then 1 else 0) : Nat) : Int) := by
    unfold dsize
    rw [hn, hP]
    have e1 : (a : Int) * 10 ^ ((P : Int)).toNat = ((a * 10 ^ P : Nat) : Int) := by simp
    rw [e1, Int.fdiv_eq_ediv_of_nonneg _ (Int.natCast_nonneg b), Int.fmod_eq_emod_of_nonneg _ (Int.natCast_nonneg b), ← Int.natCast_ediv, ← Int.natCast_emod]
    generalize a * 10 ^ P / b = x
    generalize a * 10 ^ P % b = y
    by_cases hy : 0 < y
    · rw [if_pos (by omega), if_pos hy]; omega
    · rw [if_neg (by omega), if_neg hy]; omega
  refine ⟨N, c1, c2, ?_⟩
  have hM : 10 ^ (d - 1) ≤ rne (a * 10 ^ 1000) (b * 10 ^ N) := rne_ge (Nat.mul_pos hb (ten_pow_pos _)) c1
  have hM0 : 0 < rne (a * 10 ^ 1000) (b * 10 ^ N) := Nat.lt_of_lt_of_le (ten_pow_pos _) hM
  generalize hC : 10 * (a * 10 ^ P / b) + (if 0 < a * 10 ^ P % b then 1 else 0) = C at *
  generalize rne (a * 10 ^ 1000) (b * 10 ^ N) = M at *
  have hC0 : 0 < C := by
    rcases Nat.eq_zero_or_pos C with z | z
    · subst z
      have : figsN 0 = 1 := by rw [figsN]; rfl
      omega
    · exact z
  unfold decF
  rw [hP, eds]
  have eab : aabs (if n < 0 then -(C : Int) else (C : Int)) = C := by unfold aabs; split <;> (try split) <;> omega
  have efc : figs (C : Int) = figsN C := by unfold figs; simp
  have ems : msize (if n < 0 then -(C : Int) else (C : Int)) d = (M : Int) := by
    unfold msize
    rw [eab, efc, if_pos (by omega)]
    exact c4
  have eme : mexp (if n < 0 then -(C : Int) else (C : Int)) (-(P : Int) - 1) d = (N : Int) - 1000 := by
    unfold mexp
    rw [eab, efc, if_pos (by omega)]
    exact c5
  unfold madeF
  rw [ems, eme, if_neg (by omega), Int.toNat_natCast]
  exact madeE_sign (by split <;> omega)
theorem N_unique {A b d N N' : Nat} (hd : 1 ≤ d) (h1 : 10 ^ (d - 1) * (b * 10 ^ N) ≤ A) (h2 : A < 10 ^ d * (b * 10 ^ N)) (h1' : 10 ^ (d - 1) * (b * 10 ^ N') ≤ A) (h2' : A < 10 ^ d * (b * 10 ^ N')) : N = N' := by
  have key : ∀ {x y : Nat}, x < y → 10 ^ d * (b * 10 ^ x) ≤ 10 ^ (d - 1) * (b * 10 ^ y) := by
    intro x y h
    have e1 : 10 ^ d = 10 ^ (d - 1) * 10 := by rw [← Nat.pow_succ]; congr 1; omega
    rw [e1, Nat.mul_assoc]
    refine Nat.mul_le_mul_left _ ?_
    rw [Nat.mul_left_comm, Nat.mul_comm 10 (10 ^ x), ← Nat.pow_succ]
    exact Nat.mul_le_mul_left _ (Nat.pow_le_pow_right (by decide) h)
  rcases Nat.lt_trichotomy N N' with z | z | z
  · have := key z; omega
  · exact z
  · have := key z; omega
theorem decF_zero {b d : Int} (hd : 1 ≤ d) : decF 0 b d = some (0, 0) := by
  have e : dsize 0 b d = 0 := by
    unfold dsize aabs
    rw [if_neg (by decide), Int.zero_mul, Int.zero_fdiv, Int.zero_fmod, if_neg (by decide)]
    rfl
  unfold decF
  rw [e, if_neg (by decide)]
  refine madeF_zero ?_
  have ef : figs 0 = 1 := by unfold figs; rw [figsN]; rfl
  have ea : aabs 0 = 0 := rfl
  unfold msize
  rw [ea, ef, if_neg (by omega)]
theorem decF_scale {a b d k : Nat} {n : Int} (ha : 0 < a) (hb : 0 < b) (hd : 1 ≤ d) (hd9 : d ≤ 9) (hk : 0 < k) (hB : b < 10 ^ 200) (hB' : k * b < 10 ^ 200) (hn : aabs n = a) :
    decF ((k : Int) * n) ((k : Int) * b) d = decF n b d := by
  obtain ⟨N, c1, c2, c3⟩ := decF_main ha hb hd hd9 hB hn
  have hkn : aabs ((k : Int) * n) = ((k * a : Nat) : Int) := by
    unfold aabs at hn ⊢
    have kp : (0 : Int) < k := by omega
    by_cases z : n < 0
    · rw [if_pos z] at hn
      rw [if_pos (Int.mul_neg_of_pos_of_neg kp z), ← Int.mul_neg, hn]; simp
    · rw [if_neg z] at hn
      have : ¬ (k : Int) * n < 0 := Int.not_lt.mpr (Int.mul_nonneg (Int.le_of_lt kp) (by omega))
      rw [if_neg this, hn]; simp
  obtain ⟨N', c1', c2', c3'⟩ := decF_main (n := (k : Int) * n) (Nat.mul_pos hk ha) (Nat.mul_pos hk hb) hd hd9 hB' hkn
  have r1 : k * a * 10 ^ 1000 = k * (a * 10 ^ 1000) := Nat.mul_assoc ..
  have r2 : k * b * 10 ^ N' = k * (b * 10 ^ N') := Nat.mul_assoc ..
  rw [r1, r2] at c1' c2' c3'
  have d1 : 10 ^ (d - 1) * (b * 10 ^ N') ≤ a * 10 ^ 1000 := by
    rw [Nat.mul_left_comm] at c1'
    exact Nat.le_of_mul_le_mul_left c1' hk
  have d2 : a * 10 ^ 1000 < 10 ^ d * (b * 10 ^ N') := by
    rw [Nat.mul_left_comm (10 ^ d)] at c2'
    exact Nat.lt_of_mul_lt_mul_left c2'
  have hN : N = N' := N_unique hd c1 c2 d1 d2
  subst hN
  rw [rne_scale hk] at c3'
  have ek : ((k * b : Nat) : Int) = (k : Int) * b := by simp
  rw [ek] at c3'
  rw [c3, c3']
  refine madeE_sign ?_
  have kp : (0 : Int) < k := by omega
  constructor
  · intro z
    rcases Int.lt_or_le n 0 with y | y
    · exact y
    · exact absurd z (Int.not_lt.mpr (Int.mul_nonneg (Int.le_of_lt kp) y))
  · exact fun z => Int.mul_neg_of_pos_of_neg kp z
/-- where the greatest place is reached -/
theorem edge {A b d N : Nat} (N0 : Nat) (hb : 0 < b) (hd : 1 ≤ d) (h1 : 10 ^ (d - 1) * (b * 10 ^ N) ≤ A) (h2 : A < 10 ^ d * (b * 10 ^ N)) :
    N0 + d < N + figsN (rne A (b * 10 ^ N)) ↔ (2 * 10 ^ d - 1) * (b * 10 ^ N0) ≤ 2 * A := by
  have hW : 0 < b * 10 ^ N := Nat.mul_pos hb (ten_pow_pos _)
  have hge : 10 ^ (d - 1) ≤ rne A (b * 10 ^ N) := rne_ge hW h1
  have hle : rne A (b * 10 ^ N) ≤ 10 ^ d := rne_le hW h2
  have e10 : 10 ^ d = 10 ^ (d - 1) * 10 := by rw [← Nat.pow_succ]; congr 1; omega
  have pd := ten_pow_pos (d - 1)
  have hev : 10 ^ d % 2 = 0 := by omega
  have hM0 : 0 < rne A (b * 10 ^ N) := Nat.lt_of_lt_of_le pd hge
  have ⟨f1, f2⟩ := figsN_spec _ _ (Nat.le_refl _) hM0
  have fM1 : rne A (b * 10 ^ N) < 10 ^ d → figsN (rne A (b * 10 ^ N)) = d := fun z => by
    have g1 : figsN (rne A (b * 10 ^ N)) - 1 < d := (Nat.pow_lt_pow_iff_right (a := 10) (by decide)).mp (Nat.lt_of_le_of_lt f1 z)
    have g2 : d - 1 < figsN (rne A (b * 10 ^ N)) := (Nat.pow_lt_pow_iff_right (a := 10) (by decide)).mp (Nat.lt_of_le_of_lt hge f2)
    omega
  have fM2 : rne A (b * 10 ^ N) = 10 ^ d → figsN (rne A (b * 10 ^ N)) = d + 1 := fun z => by
    rw [z] at f1 f2 ⊢
    have g1 : figsN (10 ^ d) - 1 < d + 1 := (Nat.pow_lt_pow_iff_right (a := 10) (by decide)).mp (Nat.lt_of_le_of_lt f1 (by rw [Nat.pow_succ]; have := ten_pow_pos d; omega))
    have g2 : d < figsN (10 ^ d) := (Nat.pow_lt_pow_iff_right (a := 10) (by decide)).mp f2
    omega
  have step : ∀ {x y : Nat}, x < y → 10 * (b * 10 ^ x) ≤ b * 10 ^ y := fun {x y} h => by
    rw [Nat.mul_left_comm, Nat.mul_comm 10 (10 ^ x), ← Nat.pow_succ]
    exact Nat.mul_le_mul_left _ (Nat.pow_le_pow_right (by decide) h)
  rcases Nat.lt_trichotomy N N0 with z | z | z
  · -- below the edge
    have s := step z
    have u : (2 * 10 ^ d - 1) * (b * 10 ^ N0) > 2 * A := by
      have v1 : 10 ^ d * (b * 10 ^ N) ≤ 10 ^ (d - 1) * (b * 10 ^ N0) := by
        rw [e10, Nat.mul_assoc]; exact Nat.mul_le_mul_left _ s
      have v2 : 2 * (10 ^ (d - 1) * (b * 10 ^ N0)) ≤ (2 * 10 ^ d - 1) * (b * 10 ^ N0) := by
        rw [← Nat.mul_assoc]; exact Nat.mul_le_mul_right _ (by omega)
      omega
    constructor
    · intro y
      rcases Nat.lt_or_ge (rne A (b * 10 ^ N)) (10 ^ d) with q | q
      · have := fM1 q; omega
      · have := fM2 (by omega); omega
    · intro y; omega
  · subst z
    rcases Nat.lt_or_ge A ((10 ^ d - 1) * (b * 10 ^ N)) with q | q
    · have hl := rne_le hW q
      have := fM1 (by omega)
      constructor
      · intro y; omega
      · intro y
        have v : 2 * ((10 ^ d - 1) * (b * 10 ^ N)) ≤ (2 * 10 ^ d - 1) * (b * 10 ^ N) := by
          rw [← Nat.mul_assoc]; exact Nat.mul_le_mul_right _ (by omega)
        omega
    · have t := rne_top hW hev q h2 (by omega)
      constructor
      · intro y
        rcases Nat.lt_or_ge (rne A (b * 10 ^ N)) (10 ^ d) with r | r
        · have := fM1 r; omega
        · exact t.mp (by omega)
      · intro y
        have := fM2 (t.mpr y)
        omega
  · have s := step z
    have v1 : 10 ^ d * (b * 10 ^ N0) ≤ 10 ^ (d - 1) * (b * 10 ^ N) := by
      rw [e10, Nat.mul_assoc]; exact Nat.mul_le_mul_left _ s
    have v2 : (2 * 10 ^ d - 1) * (b * 10 ^ N0) ≤ 2 * (10 ^ d * (b * 10 ^ N0)) := by
      have w := Nat.mul_le_mul_right (b * 10 ^ N0) (show 2 * 10 ^ d - 1 ≤ 2 * 10 ^ d by omega)
      rw [Nat.mul_assoc 2] at w
      exact w
    constructor
    · intro _; omega
    · intro _
      rcases Nat.lt_or_ge (rne A (b * 10 ^ N)) (10 ^ d) with q | q
      · have := fM1 q; omega
      · have := fM2 (by omega); omega
theorem nextC_mid {P A B f : Nat} (h1 : P * B ≤ A) (h2 : 2 * A ≤ (2 * f + 1) * B) (h3 : 2 * f * B ≤ 2 * A + B) (t1 : 2 * A = (2 * f + 1) * B → f % 2 = 0) (t2 : 2 * f * B = 2 * A + B → f % 2 = 0) :
    nextC (P : Int) (A : Int) (B : Int) (f : Int) = true := by
  have e : (f : Int) * (B : Int) = ((f * B : Nat) : Int) := by simp
  have a1 : (2 * f + 1) * B = 2 * (f * B) + B := by rw [Nat.add_mul, Nat.mul_assoc, Nat.one_mul]
  have a2 : 2 * f * B = 2 * (f * B) := Nat.mul_assoc ..
  rw [a1] at h2 t1
  rw [a2] at h3 t2
  have e2 : (f : Int).fmod 2 = ((f % 2 : Nat) : Int) := by rw [Int.fmod_eq_emod_of_nonneg _ (by decide)]; omega
  unfold nextC
  have hn : ¬ ((f : Int) = (P : Int) ∧ (A : Int) < (f : Int) * (B : Int)) := by
    rintro ⟨x, y⟩
    have : f = P := by omega
    subst this
    rw [e] at y
    omega
  rw [if_neg hn, e, e2]
  generalize f * B = X at *
  refine decide_eq_true ?_
  by_cases q1 : 2 * A = 2 * X + B
  · right
    have := t1 q1
    split <;> omega
  · by_cases q2 : 2 * X = 2 * A + B
    · right
      have := t2 q2
      split <;> omega
    · left
      split <;> omega
theorem nextC_top {P A B : Nat} (h1 : A < P * B) (h2 : 20 * (P * B) ≤ 20 * A + B) : nextC (P : Int) (A : Int) (B : Int) (P : Int) = true := by
  have e : (P : Int) * (B : Int) = ((P * B : Nat) : Int) := by simp
  unfold nextC
  rw [e]
  generalize P * B = X at *
  rw [if_pos ⟨rfl, by omega⟩]
  refine decide_eq_true ?_
  split <;> omega
theorem nextB_pair {a b d N : Nat} (f : Int) (u : Int) (hu : u = (N : Int) - 1000) (hd : 1 ≤ d) : ∃ A B g : Nat, 0 < g ∧ a * 10 ^ 1000 = A * g ∧ b * 10 ^ N = B * g ∧ nextB (a : Int) (b : Int) (d : Int) f u = nextC ((10 ^ (d - 1) : Nat) : Int) (A : Int) (B : Int) f := by
  have p : (10 : Int) ^ ((d : Int) - 1).toNat = ((10 ^ (d - 1) : Nat) : Int) := by
    rw [show ((d : Int) - 1).toNat = d - 1 by omega]; simp
  by_cases h : N < 1000
  · refine ⟨a * 10 ^ (1000 - N), b, 10 ^ N, ten_pow_pos _, ?_, rfl, ?_⟩
    · rw [Nat.mul_assoc, ← Nat.pow_add]; congr 2; omega
    · rw [nextB_neg (by omega), p, show (0 - u).toNat = 1000 - N by omega]
      simp
  · refine ⟨a, b * 10 ^ (N - 1000), 10 ^ 1000, ten_pow_pos _, rfl, ?_, ?_⟩
    · rw [Nat.mul_assoc, ← Nat.pow_add]; congr 2; omega
    · rw [nextB_pos (by omega), p, show u.toNat = N - 1000 by omega]
      simp
theorem dec_unique {s d j j' : Nat} (hd : 1 ≤ d) (h1 : 10 ^ (d - 1) ≤ s * 10 ^ j) (h2 : s * 10 ^ j < 10 ^ d) (h1' : 10 ^ (d - 1) ≤ s * 10 ^ j') (h2' : s * 10 ^ j' < 10 ^ d) : j = j' := by
  have e10 : 10 ^ d = 10 ^ (d - 1) * 10 := by rw [← Nat.pow_succ]; congr 1; omega
  have step : ∀ {x y : Nat}, x < y → s * 10 ^ x * 10 ≤ s * 10 ^ y := fun {x y} h => by
    rw [Nat.mul_assoc, ← Nat.pow_succ]
    exact Nat.mul_le_mul_left _ (Nat.pow_le_pow_right (by decide) h)
  rcases Nat.lt_trichotomy j j' with z | z | z
  · have := step z; omega
  · exact z
  · have := step z; omega
theorem next_ok {a b d N s i : Nat} (hb : 0 < b) (hd : 1 ≤ d) (h1 : 10 ^ (d - 1) * (b * 10 ^ N) ≤ a * 10 ^ 1000) (h2 : a * 10 ^ 1000 < 10 ^ d * (b * 10 ^ N))
    (hM : rne (a * 10 ^ 1000) (b * 10 ^ N) = s * 10 ^ i) (hs10 : s % 10 ≠ 0) (hs : 0 < s) : s < 10 ^ d ∧ NextOk (a : Int) (b : Int) (d : Int) (s : Int) ((N : Int) - 1000 + i) := by
  have hW : 0 < b * 10 ^ N := Nat.mul_pos hb (ten_pow_pos _)
  have hge : 10 ^ (d - 1) ≤ s * 10 ^ i := hM ▸ rne_ge hW h1
  have hle : s * 10 ^ i ≤ 10 ^ d := hM ▸ rne_le hW h2
  have ⟨r1, r2, r3, r4⟩ := rne_spec (T := a * 10 ^ 1000) hW
  rw [hM] at r1 r2 r3 r4
  have e10 : 10 ^ d = 10 ^ (d - 1) * 10 := by rw [← Nat.pow_succ]; congr 1; omega
  have hsd : s < 10 ^ d := by
    have g1 : s ≤ s * 10 ^ i := Nat.le_mul_of_pos_right _ (ten_pow_pos _)
    rcases Nat.lt_or_ge s (10 ^ d) with q | q
    · exact q
    · have : s = 10 ^ d := by omega
      exact absurd (by omega : s % 10 = 0) hs10
  refine ⟨hsd, by omega, ?_, ?_, fun j z1 z2 => ?_⟩
  · rw [Int.fmod_eq_emod_of_nonneg _ (by decide)]; omega
  · have : (10 : Int) ^ ((d : Int)).toNat = ((10 ^ d : Nat) : Int) := by simp
    rw [this]; omega
  have ej : (s : Int) * 10 ^ j = ((s * 10 ^ j : Nat) : Int) := by simp
  have y1 : 10 ^ (d - 1) ≤ s * 10 ^ j := by
    rw [ej, show ((d : Int) - 1).toNat = d - 1 by omega, show (10 : Int) ^ (d - 1) = ((10 ^ (d - 1) : Nat) : Int) by simp] at z1
    omega
  have y2 : s * 10 ^ j < 10 ^ d := by
    rw [ej, show ((d : Int)).toNat = d by omega, show (10 : Int) ^ d = ((10 ^ d : Nat) : Int) by simp] at z2
    omega
  rw [ej]
  rcases Nat.lt_or_ge (s * 10 ^ i) (10 ^ d) with q | q
  · have hij := dec_unique hd hge q y1 y2
    subst hij
    obtain ⟨A, B, g, hg, p1, p2, p3⟩ := nextB_pair (a := a) (b := b) (d := d) (N := N) ((s * 10 ^ i : Nat) : Int) ((N : Int) - 1000 + i - i) (by omega) hd
    rw [p3]
    rw [p1, p2] at r1 r2 r3 r4 h1
    have c1 : 2 * A ≤ (2 * (s * 10 ^ i) + 1) * B := Nat.le_of_mul_le_mul_right (by rw [Nat.mul_assoc, Nat.mul_assoc]; exact r1) hg
    have c2 : 2 * (s * 10 ^ i) * B ≤ 2 * A + B := Nat.le_of_mul_le_mul_right (by rw [Nat.add_mul, Nat.mul_assoc _ B, Nat.mul_assoc 2 A]; exact r2) hg
    have c3 : 10 ^ (d - 1) * B ≤ A := Nat.le_of_mul_le_mul_right (by rw [Nat.mul_assoc]; exact h1) hg
    refine nextC_mid c3 c1 c2 (fun w => r3 ?_) (fun w => r4 ?_)
    · rw [← Nat.mul_assoc, w, Nat.mul_assoc]
    · rw [← Nat.mul_assoc (2 * (s * 10 ^ i)), w, Nat.add_mul, Nat.mul_assoc]
  · have hM10 : s * 10 ^ i = 10 ^ d := by omega
    obtain ⟨i', hi'⟩ : ∃ i', i = i' + 1 := by
      cases i with
      | zero => exact absurd (by rw [Nat.pow_zero, Nat.mul_one] at hM10; omega : s < s) (Nat.lt_irrefl _)
      | succ i' => exact ⟨i', rfl⟩
    subst hi'
    have hP : s * 10 ^ i' = 10 ^ (d - 1) := by
      have : s * 10 ^ (i' + 1) = s * 10 ^ i' * 10 := by rw [Nat.pow_succ, Nat.mul_assoc]
      omega
    have pd := ten_pow_pos (d - 1)
    have hij := dec_unique hd (Nat.le_of_eq hP.symm) (by omega) y1 y2
    subst hij
    obtain ⟨A, B, g, hg, p1, p2, p3⟩ := nextB_pair (a := a) (b := b) (d := d) (N := N + 1) ((s * 10 ^ i' : Nat) : Int) ((N : Int) - 1000 + ((i' + 1 : Nat) : Int) - (i' : Int)) (by omega) hd
    rw [p3, hP]
    have pB : 10 * (b * 10 ^ N) = B * g := by rw [← p2, Nat.pow_succ, Nat.mul_left_comm, Nat.mul_comm 10]
    rw [hM10] at r2
    have k1 : A * g < 10 ^ (d - 1) * B * g := by
      rw [← p1, Nat.mul_assoc, ← pB, ← Nat.mul_assoc, ← e10]; exact h2
    have k2 : 20 * (10 ^ (d - 1) * B) * g ≤ (20 * A + B) * g := by
      rw [Nat.add_mul, Nat.mul_assoc 20 A, ← p1, ← pB, Nat.mul_assoc, Nat.mul_assoc, ← pB]
      have w : 10 ^ (d - 1) * (10 * (b * 10 ^ N)) = 10 ^ d * (b * 10 ^ N) := by rw [e10, Nat.mul_assoc]
      rw [w]
      rw [Nat.mul_assoc] at r2
      omega
    exact nextC_top (Nat.lt_of_mul_lt_mul_right k1) (Nat.le_of_mul_le_mul_right k2 hg)
theorem frac_again {k l0 l1 : Int} (hk : 0 < k) (h1 : 0 < l1) (hg : Int.gcd l0 l1 = 1) : fracN (k * l0) (0 - k * l1) = 0 - l0 ∧ fracD (k * l0) (0 - k * l1) = l1 := by
  have hneg : ¬ (0 : Int) < 0 - k * l1 := by have := Int.mul_pos hk h1; omega
  have hgg : ((Int.gcd (k * l0) (0 - k * l1) : Nat) : Int) = k := by
    rw [Int.zero_sub, Int.gcd_neg, Int.gcd_mul_left, hg, Nat.mul_one]
    omega
  have hk0 : -k ≠ 0 := by omega
  unfold fracN fracD
  rw [if_neg hneg, hgg]
  constructor
  · rw [show k * l0 = (-k) * (-l0) by rw [Int.neg_mul_neg], Int.mul_fdiv_cancel_left _ hk0]; omega
  · rw [show 0 - k * l1 = (-k) * l1 by rw [Int.neg_mul]; omega, Int.mul_fdiv_cancel_left _ hk0]
theorem frac_facts {x y k : Int} (hx : Bd 20 x) (hy1 : -200 ≤ y) (hy2 : y ≤ 200) (hk1 : 2 ≤ k) (hk6 : k ≤ 6) :
    Bd 400 (foN x y) ∧ Bd 400 (foD x y) ∧ 0 < foD x y ∧ Int.gcd (foN x y) (foD x y) = 1 ∧
    foN x y * 10 ^ (if 0 - y > 0 then 0 - y else 0).toNat = x * 10 ^ (if y > 0 then y else 0).toNat * foD x y ∧
    0 - k * foD x y ≠ 0 ∧ (0 - k * foD x y).natAbs.log2 < 9000 ∧ fracN (k * foN x y) (0 - k * foD x y) = 0 - foN x y ∧ fracD (k * foN x y) (0 - k * foD x y) = foD x y := by
  have main : Bd 400 (foN x y) ∧ Bd 399 (foD x y) ∧ 0 < foD x y ∧ Int.gcd (foN x y) (foD x y) = 1 ∧
      foN x y * 10 ^ (if 0 - y > 0 then 0 - y else 0).toNat = x * 10 ^ (if y > 0 then y else 0).toNat * foD x y := by
    unfold foN foD
    by_cases hy : 0 ≤ y
    · rw [if_pos hy, if_pos hy]
      refine ⟨(hx.mul (Bd.pow (k := 201) (by omega))).mono (by decide), Bd.mono (Bd.small (by decide) (by decide)) (by decide), by decide, Int.gcd_one_right _, ?_⟩
      rw [if_neg (by omega), Int.mul_one, show (0 : Int).toNat = 0 from rfl, Int.pow_zero, Int.mul_one]
      by_cases h0 : y > 0
      · rw [if_pos h0]
      · rw [if_neg h0, show y = 0 by omega]
    · rw [if_neg hy, if_neg hy]
      have hp : (0 : Int) < 10 ^ (-y).toNat := Int.pow_pos (by decide)
      have hg : 0 < Int.gcd x (10 ^ (-y).toNat) := Nat.pos_of_ne_zero (Int.gcd_ne_zero_right (Int.ne_of_gt hp))
      have hgi : (0 : Int) < (Int.gcd x (10 ^ (-y).toNat) : Int) := by omega
      have d1 := Int.mul_ediv_cancel' (Int.gcd_dvd_left x (10 ^ (-y).toNat))
      have d2 := Int.mul_ediv_cancel' (Int.gcd_dvd_right x (10 ^ (-y).toNat))
      have cop := Int.gcd_ediv_gcd_ediv_gcd hg
      unfold fracN fracD
      rw [if_pos hp, Int.fdiv_eq_ediv_of_nonneg _ (Int.le_of_lt hgi), Int.fdiv_eq_ediv_of_nonneg _ (Int.le_of_lt hgi)]
      have bp : Bd 399 ((10 : Int) ^ (-y).toNat) := Bd.pow (by omega)
      generalize hW : (10 : Int) ^ (-y).toNat = W at *
      generalize hG : (Int.gcd x W : Int) = g at *
      generalize hq0 : x / g = l0 at *
      generalize hq1 : W / g = l1 at *
      have hl1 : 0 < l1 := by
        rcases Int.lt_or_le 0 l1 with q | q
        · exact q
        · have := Int.mul_nonneg (Int.le_of_lt hgi) (show 0 ≤ -l1 by omega)
          rw [Int.mul_neg] at this
          omega
      have n1 : l1.natAbs ≤ W.natAbs := by
        rw [← d2, Int.natAbs_mul]
        exact Nat.le_mul_of_pos_left _ (by omega)
      have n0 : l0.natAbs ≤ x.natAbs := by
        rw [← d1, Int.natAbs_mul]
        exact Nat.le_mul_of_pos_left _ (by omega)
      refine ⟨Bd.mono (Nat.lt_of_le_of_lt n0 hx) (by decide), Nat.lt_of_le_of_lt n1 bp, hl1, cop, ?_⟩
      rw [if_pos (by omega), if_neg (by omega), show (0 : Int).toNat = 0 from rfl, Int.pow_zero, Int.mul_one, show (0 - y) = -y by omega, hW]
      calc l0 * W = l0 * (g * l1) := by rw [d2]
        _ = (g * l0) * l1 := by rw [Int.mul_left_comm, Int.mul_assoc]
        _ = x * l1 := by rw [d1]
  obtain ⟨m1, m2, m3, m4, m5⟩ := main
  have kp : 0 < k * foD x y := Int.mul_pos (by omega) m3
  have ⟨a1, a2⟩ := frac_again (k := k) (by omega) m3 m4
  refine ⟨m1, m2.mono (by decide), m3, m4, m5, by omega, ?_, a1, a2⟩
  rw [Int.zero_sub]
  have bk : Bd 1 k := by unfold Bd; omega
  exact (bk.mul m2).neg.log (by decide)

theorem madeE_cases (c : Int) {s : Nat} {x : Int} {K : Int} (hK : x + figs (s : Int) - 1 = K) :
    (99 < K ∧ madeE c s x = none) ∨ (K < -99 ∧ madeE c s x = some (0, 0)) ∨ (¬ 99 < K ∧ ¬ K < -99 ∧ madeE c s x = some (if c < 0 then -(s : Int) else s, x)) := by
  unfold madeE
  rw [hK]
  by_cases h1 : 99 < K
  · exact .inl ⟨h1, by rw [if_pos h1]⟩
  by_cases h2 : K < -99
  · exact .inr (.inl ⟨h2, by rw [if_neg h1, if_pos h2]⟩)
  · exact .inr (.inr ⟨h1, h2, by rw [if_neg h1, if_neg h2]⟩)
theorem low_nat {a b c U V Z : Nat} (hZ : Z = U * V) (hV : 0 < V) : 2 * (a * U) < c * b ↔ ¬ (c * (b * V) ≤ 2 * (a * Z)) := by
  subst hZ
  have e1 : c * (b * V) = (c * b) * V := (Nat.mul_assoc ..).symm
  have e2 : 2 * (a * (U * V)) = (2 * (a * U)) * V := by rw [← Nat.mul_assoc a, ← Nat.mul_assoc 2]
  rw [Nat.not_le, e1, e2]
  exact (Nat.mul_lt_mul_right hV).symm
theorem high_nat {a b c W V Z : Nat} (hV : V = W * Z) (hZ : 0 < Z) : b * (c * W) ≤ 2 * a ↔ c * (b * V) ≤ 2 * (a * Z) := by
  subst hV
  have e1 : c * (b * (W * Z)) = (b * (c * W)) * Z := by rw [Nat.mul_left_comm c b, ← Nat.mul_assoc c W Z, Nat.mul_assoc b (c * W) Z]
  have e2 : 2 * (a * Z) = (2 * a) * Z := (Nat.mul_assoc ..).symm
  rw [e1, e2]
  exact (Nat.mul_le_mul_right_iff hZ).symm
theorem low_iff {a b d : Nat} (hd : 1 ≤ d) (hd9 : d ≤ 9) : (2 * (a : Int) * 10 ^ (99 + (d : Int)).toNat < (b : Int) * (2 * 10 ^ ((d : Int)).toNat - 1)) ↔ ¬ ((2 * 10 ^ d - 1) * (b * 10 ^ (901 - d)) ≤ 2 * (a * 10 ^ 1000)) := by
  have hZ : 10 ^ 1000 = 10 ^ (99 + d) * 10 ^ (901 - d) := by rw [← Nat.pow_add]; congr 1; omega
  rw [← low_nat (c := 2 * 10 ^ d - 1) (a := a) (b := b) hZ (ten_pow_pos _)]
  have p9 : (10 : Int) ^ (99 + (d : Int)).toNat = ((10 ^ (99 + d) : Nat) : Int) := by
    rw [show (99 + (d : Int)).toNat = 99 + d by omega]; simp
  have pd : (10 : Int) ^ ((d : Int)).toNat = ((10 ^ d : Nat) : Int) := by simp
  have pdp := ten_pow_pos d
  rw [p9, pd]
  generalize 10 ^ (99 + d) = U
  generalize 10 ^ d = D at *
  have e1 : (2 * (D : Int) - 1) = ((2 * D - 1 : Nat) : Int) := by omega
  have e2 : 2 * (a : Int) * (U : Int) = ((2 * (a * U) : Nat) : Int) := by simp [Int.mul_assoc]
  have e3 : (b : Int) * ((2 * D - 1 : Nat) : Int) = (((2 * D - 1) * b : Nat) : Int) := by rw [Int.mul_comm]; simp
  rw [e1, e2, e3, Int.ofNat_lt]
theorem high_iff {a b d : Nat} (hd : 1 ≤ d) (hd9 : d ≤ 9) : (2 * (a : Int) ≥ (b : Int) * (2 * 10 ^ 100 - 10 ^ (100 - (d : Int)).toNat)) ↔ ((2 * 10 ^ d - 1) * (b * 10 ^ (1100 - d)) ≤ 2 * (a * 10 ^ 1000)) := by
  have hV : 10 ^ (1100 - d) = 10 ^ (100 - d) * 10 ^ 1000 := by rw [← Nat.pow_add]; congr 1; omega
  rw [← high_nat (c := 2 * 10 ^ d - 1) (a := a) (b := b) hV (ten_pow_pos _)]
  have p1 : (10 : Int) ^ (100 - (d : Int)).toNat = ((10 ^ (100 - d) : Nat) : Int) := by
    rw [show (100 - (d : Int)).toNat = 100 - d by omega]; simp
  have h100 : (10 : Int) ^ 100 = ((10 ^ d * 10 ^ (100 - d) : Nat) : Int) := by
    rw [← Nat.pow_add, show d + (100 - d) = 100 by omega]; simp
  have pdp := ten_pow_pos d
  rw [p1, h100]
  generalize 10 ^ (100 - d) = W
  generalize 10 ^ d = D at *
  have hDW : W ≤ D * W := Nat.le_mul_of_pos_left _ pdp
  have e0 : (2 * ((D * W : Nat) : Int) - (W : Int)) = (((2 * D - 1) * W : Nat) : Int) := by
    rw [Nat.sub_mul, Nat.mul_assoc, Nat.one_mul]
    omega
  have e3 : (b : Int) * (((2 * D - 1) * W : Nat) : Int) = ((b * ((2 * D - 1) * W) : Nat) : Int) := by simp
  rw [e0, e3, ge_iff_le]
  omega
theorem figs_cast (s : Nat) : figs (s : Int) = figsN s := by unfold figs; rw [Int.toNat_natCast]
/-- the plain law -/
theorem plain {a b d k z : Int} {nb : Bool} (ha : 0 ≤ a) (hb : 0 < b) (hd1 : 1 ≤ d) (hd9 : d ≤ 9) (hk1 : 2 ≤ k) (hk6 : k ≤ 6) (hb2 : Bd 140 b) (hz : z = if nb then 0 - a else a) :
    (decF z b d = none ∧ decF (k * z) (k * b) d = none ∧ a ≠ 0 ∧ ¬ 2 * a * 10 ^ (99 + d).toNat < b * (2 * 10 ^ d.toNat - 1) ∧ 2 * a ≥ b * (2 * 10 ^ 100 - 10 ^ (100 - d).toNat)) ∨
    (decF z b d = some (0, 0) ∧ decF (k * z) (k * b) d = some (0, 0) ∧ (a ≠ 0 → 2 * a * 10 ^ (99 + d).toNat < b * (2 * 10 ^ d.toNat - 1))) ∨
    (∃ x y, decF z b d = some (x, y) ∧ decF (k * z) (k * b) d = some (x, y) ∧ a ≠ 0 ∧ ¬ 2 * a * 10 ^ (99 + d).toNat < b * (2 * 10 ^ d.toNat - 1) ∧ ¬ 2 * a ≥ b * (2 * 10 ^ 100 - 10 ^ (100 - d).toNat) ∧
      (nb = true → NextOk a b d (0 - x) y) ∧ (nb = false → NextOk a b d x y) ∧ Bd 20 x ∧ -200 ≤ y ∧ y ≤ 200) := by
  obtain ⟨a, rfl⟩ := Int.eq_ofNat_of_zero_le ha
  obtain ⟨b, rfl⟩ := Int.eq_ofNat_of_zero_le (Int.le_of_lt hb)
  obtain ⟨d, rfl⟩ := Int.eq_ofNat_of_zero_le (show 0 ≤ d by omega)
  obtain ⟨k, rfl⟩ := Int.eq_ofNat_of_zero_le (show 0 ≤ k by omega)
  have hbN : 0 < b := by omega
  have hbB : b < 10 ^ 140 := by unfold Bd at hb2; simpa using hb2
  have hB1 : b < 10 ^ 200 := Nat.lt_of_lt_of_le hbB (Nat.pow_le_pow_right (by decide) (by decide))
  have hB2 : k * b < 10 ^ 200 := by
    have e1 : k * b ≤ 6 * b := Nat.mul_le_mul_right _ (by omega)
    have e2 : 10 ^ 140 * 10 ≤ 10 ^ 200 := by rw [← Nat.pow_succ]; exact Nat.pow_le_pow_right (by decide) (by decide)
    generalize 10 ^ 200 = U at *
    generalize 10 ^ 140 = V at *
    omega
  rcases Nat.eq_zero_or_pos a with h0 | h0
  · subst h0
    have ez : z = 0 := by rw [hz]; cases nb <;> rfl
    subst ez
    refine .inr (.inl ⟨decF_zero (by omega), ?_, fun h => absurd rfl h⟩)
    rw [Int.mul_zero]
    exact decF_zero (by omega)
  have hzn : aabs z = a := by
    subst hz
    unfold aabs
    cases nb
    · rw [if_neg Bool.false_ne_true, if_neg (by omega)]
    · rw [if_pos rfl, if_pos (by omega)]; omega
  have same := decF_scale (d := d) (n := z) (k := k) h0 hbN (by omega) (by omega) (by omega) hB1 hB2 hzn
  rw [same]
  obtain ⟨N, c1, c2, c3⟩ := decF_main (d := d) h0 hbN (by omega) (by omega) hB1 hzn
  rw [c3]
  have hW : 0 < b * 10 ^ N := Nat.mul_pos hbN (ten_pow_pos _)
  have hM0 : 0 < rne (a * 10 ^ 1000) (b * 10 ^ N) := Nat.lt_of_lt_of_le (ten_pow_pos _) (rne_ge hW c1)
  have ⟨s1, s2, s3⟩ := strip_spec _ _ (Nat.le_refl _) hM0
  have d1 : 1 ≤ d := by omega
  have eg := edge (901 - d) hbN d1 c1 c2
  have eh := edge (1100 - d) hbN d1 c1 c2
  have fm := figsN_mul s3 (strip (rne (a * 10 ^ 1000) (b * 10 ^ N))).2
  rw [← s1] at fm
  rw [fm] at eg eh
  have nx := next_ok hbN d1 c1 c2 s1 s2 s3
  have efs := figs_cast (strip (rne (a * 10 ^ 1000) (b * 10 ^ N))).1
  rw [low_iff d1 (by omega), high_iff d1 (by omega), ← eg, ← eh]
  generalize 10 ^ 1000 = Z at *
  generalize (strip (rne (a * Z) (b * 10 ^ N))).1 = s at *
  generalize (strip (rne (a * Z) (b * 10 ^ N))).2 = i at *
  generalize 10 ^ 200 = V at *
  generalize 10 ^ 140 = V' at *
  have sfl : figsN s ≤ 9 := by
    have g1 := (figsN_spec s s (Nat.le_refl _) s3).1
    have g2 : figsN s - 1 < d := (Nat.pow_lt_pow_iff_right (a := 10) (by decide)).mp (Nat.lt_of_le_of_lt g1 nx.1)
    omega
  have sfp := figsN_pos s
  have s20 : s < 10 ^ 20 := Nat.lt_of_lt_of_le nx.1 (Nat.pow_le_pow_right (by decide) (by omega))
  have a0 : (a : Int) ≠ 0 := by omega
  rcases madeE_cases z (s := s) (x := (N : Int) - 1000 + (i : Int)) rfl with ⟨q1, q2⟩ | ⟨q1, q2⟩ | ⟨q1, q2, q3⟩
  · rw [efs] at q1
    exact .inl ⟨q2, q2, a0, by omega, by omega⟩
  · rw [efs] at q1
    exact .inr (.inl ⟨q2, q2, fun _ => by omega⟩)
  · rw [efs] at q1 q2
    refine .inr (.inr ⟨_, _, q3, q3, a0, by omega, by omega, fun y => ?_, fun y => ?_, ?_, by omega, by omega⟩)
    · subst y
      have : z < 0 := by rw [hz]; simp; omega
      rw [if_pos this, show 0 - -(s : Int) = s by omega]
      exact nx.2
    · subst y
      have : ¬ z < 0 := by rw [hz]; simp
      rw [if_neg this]
      exact nx.2
    · unfold Bd
      split <;> (try rw [Int.natAbs_neg]) <;> (rw [Int.natAbs_natCast]; exact s20)
section
variable {w : World} {fa : Addr} {p : Program} {loose : List PySem.Str} {mean : ExcName → Option Value} {mg mb mm : PySem.Str → Option Value} {h₀ : Heap} {L : Nat} {s : Shared} {Q : Flow → Shared → Prop} {E : Value → Shared → Prop}
theorem tail1 (B : Below callerA h₀ [] h₀) (nb : Bool) (a z b d k : Int) (ta tz tb td tm : Tok) (oz om od ob : Obj)
  (F : Fr h₀ L s.heap (fun y => if y = "is_below" then some (.bool nb) else if y = "above" then some (.int a ta) else mm y)) (X : (Mine.hd.heap_39 w.params).In h₀)
  (N : News h₀ L s.heap [((L + 1 + 1 + 1 + 1 : Nat), oz), ((L + 1 + 1 + 1 : Nat), om), ((L + 1 + 1 : Nat), od), ((L + 1 : Nat), ob), ((130 : Nat), tabObj #[])])
  (hz : oz.data = .cell (some (.int z tz))) (hm : om.data = .cell (some (.int k tm))) (hdd : od.data = .cell (some (.int d td))) (hb : ob.data = .cell (some (.int b tb)))
  (T : Top p loose mean mg mb h₀) (CH : CodeHd h₀ 132 130) (l0 : (130 : Nat) < L)
  (hz2 : Bd 140 z) (hb2 : Bd 140 b) (hb0 : 0 < b) (hd1 : 1 ≤ d) (hd9 : d ≤ 9) (hk1 : 2 ≤ k) (hk6 : k ≤ 6)
  (hs : decF z b d = none) (hs2 : decF (k * z) (k * b) d = none) (ha2 : Bd 140 a) (ha0 : a ≠ 0) (hng : ¬ 2 * a * 10 ^ (99 + d).toNat < b * (2 * 10 ^ d.toNat - 1)) (hgr : 2 * a ≥ b * (2 * 10 ^ 100 - 10 ^ (100 - d).toNat)) 
  (hret : ∀ h' tk' m' news' ps, Fr h₀ L h' m' → News h₀ L h' news' → ((130 : Nat), tabObj ps) ∈ news' → Q (.ret (.bool true)) { s with heap := h', toks := tk' }) :
  wpAny (model PySem.Challenge.rw_pq0135_01.row.prog w) (callerA.deeper (envOfC "law" (lawRec Mine.hd).scope L fa (.ref 132))) (execs ((lawRec Mine.hd).body.drop 6) (envOfC "law" (lawRec Mine.hd).scope L fa (.ref 132))) Q E s := by
  w_on
  dsimp only [lawRec, List.drop]
  walk_at "mine go"
  all_goals first
    | exact absurd (by assumption) ha0
    | (show Q (Flow.ret (Value.bool ((PySem.Str.ofString "OV" : PySem.Str) == PySem.Str.ofString "OV"))) _
       rw [show ((PySem.Str.ofString "OV" : PySem.Str) == PySem.Str.ofString "OV") = true from by decide]
       exact hret _ _ _ _ _ (by assumption) (by assumption) (by k_mem))
end
section
variable {w : World} {fa : Addr} {p : Program} {loose : List PySem.Str} {mean : ExcName → Option Value} {mg mb mm : PySem.Str → Option Value} {h₀ : Heap} {L : Nat} {s : Shared} {Q : Flow → Shared → Prop} {E : Value → Shared → Prop}
theorem tail2 (B : Below callerA h₀ [] h₀) (nb : Bool) (a z b d k : Int) (ta tz tb td tm : Tok) (oz om od ob : Obj)
  (F : Fr h₀ L s.heap (fun y => if y = "is_below" then some (.bool nb) else if y = "above" then some (.int a ta) else mm y)) (X : (Mine.hd.heap_39 w.params).In h₀)
  (N : News h₀ L s.heap [((L + 1 + 1 + 1 + 1 : Nat), oz), ((L + 1 + 1 + 1 : Nat), om), ((L + 1 + 1 : Nat), od), ((L + 1 : Nat), ob), ((130 : Nat), tabObj #[])])
  (hz : oz.data = .cell (some (.int z tz))) (hm : om.data = .cell (some (.int k tm))) (hdd : od.data = .cell (some (.int d td))) (hb : ob.data = .cell (some (.int b tb)))
  (T : Top p loose mean mg mb h₀) (CH : CodeHd h₀ 132 130) (l0 : (130 : Nat) < L)
  (hz2 : Bd 140 z) (hb2 : Bd 140 b) (hb0 : 0 < b) (hd1 : 1 ≤ d) (hd9 : d ≤ 9) (hk1 : 2 ≤ k) (hk6 : k ≤ 6)
  (hs : decF z b d = some (0, 0)) (hs2 : decF (k * z) (k * b) d = some (0, 0)) (ha2 : Bd 140 a) (hng : a ≠ 0 → 2 * a * 10 ^ (99 + d).toNat < b * (2 * 10 ^ d.toNat - 1))
  (hret : ∀ h' tk' m' news' ps, Fr h₀ L h' m' → News h₀ L h' news' → ((130 : Nat), tabObj ps) ∈ news' → Q (.ret (.bool true)) { s with heap := h', toks := tk' }) :
  wpAny (model PySem.Challenge.rw_pq0135_01.row.prog w) (callerA.deeper (envOfC "law" (lawRec Mine.hd).scope L fa (.ref 132))) (execs ((lawRec Mine.hd).body.drop 6) (envOfC "law" (lawRec Mine.hd).scope L fa (.ref 132))) Q E s := by
  w_on
  dsimp only [lawRec, List.drop]
  by_cases ha0 : a = 0
  · subst ha0
    clear hng
    walk_at "mine go"
    all_goals first
      | exact hret _ _ _ _ _ (by assumption) (by assumption) (by k_mem)
      | exact absurd (by assumption) ha0
  · replace hng := hng ha0
    walk_at "mine go"
    all_goals first
      | exact hret _ _ _ _ _ (by assumption) (by assumption) (by k_mem)
      | exact absurd (by assumption) ha0
end
section
variable {w : World} {fa : Addr} {p : Program} {loose : List PySem.Str} {mean : ExcName → Option Value} {mg mb mm : PySem.Str → Option Value} {h₀ : Heap} {L : Nat} {s : Shared} {Q : Flow → Shared → Prop} {E : Value → Shared → Prop}
theorem tail3b (B : Below callerA h₀ [] h₀) (k : Int) (tm : Tok) (om : Obj) {D c1 c2 : Nat} {x y : Int} {t1 t2 : Tok}
  (F : Fr h₀ L s.heap (fun y => if y = "told" then some (.ref D) else mm y)) (X : (Mine.hd.heap_39 w.params).In h₀)
  (N : News h₀ L s.heap [(D, ({ cls := .type "tuple", data := .seq #[.int x t1, .int y t2] } : Obj)), ((L + 1 + 1 + 1 : Nat), om), ((130 : Nat), tabObj (#[] ++ #[rawInt ((106 : Nat) : Int), rawInt ((21 : Nat) : Int), .ref c1] ++ #[rawInt ((107 : Nat) : Int), rawInt ((25 : Nat) : Int), .ref c2]))])
  (hm : om.data = .cell (some (.int k tm)))
  (T : Top p loose mean mg mb h₀) (CH : CodeHd h₀ 132 130) (l0 : (130 : Nat) < L) (l1 : L + 1 + 1 + 1 < D)
  (hk1 : 2 ≤ k) (hk6 : k ≤ 6)
  (hx2 : Bd 20 x) (hy1 : -200 ≤ y) (hy2 : y ≤ 200) (hl0 : Bd 400 (foN x y)) (hl1 : Bd 400 (foD x y)) (hl2 : 0 < foD x y) (hgcd : Int.gcd (foN x y) (foD x y) = 1)
  (hlead : foN x y * 10 ^ (if 0 - y > 0 then 0 - y else 0).toNat = x * 10 ^ (if y > 0 then y else 0).toNat * foD x y)
  (hq1 : 0 - k * foD x y ≠ 0) (hq2 : (0 - k * foD x y).natAbs.log2 < 9000) (hfn : fracN (k * foN x y) (0 - k * foD x y) = 0 - foN x y) (hfd : fracD (k * foN x y) (0 - k * foD x y) = foD x y)
  (hret : ∀ h' tk' m' news' ps, Fr h₀ L h' m' → News h₀ L h' news' → ((130 : Nat), tabObj ps) ∈ news' → Q (.ret (.bool true)) { s with heap := h', toks := tk' }) :
  wpAny (model PySem.Challenge.rw_pq0135_01.row.prog w) (callerA.deeper (envOfC "law" (lawRec Mine.hd).scope L fa (.ref 132))) (execs ((lawRec Mine.hd).body.drop 11) (envOfC "law" (lawRec Mine.hd).scope L fa (.ref 132))) Q E s := by
  w_on
  dsimp only [lawRec, List.drop]
  walk_at "mine go"
  all_goals first
    | exact absurd hlead (by assumption)
    | (have hh : (fracN (k * foN x y) (0 - k * foD x y) == 0 - foN x y && fracD (k * foN x y) (0 - k * foD x y) == foD x y) = false := by assumption
       rw [hfn, hfd, beq_self_eq_true, beq_self_eq_true] at hh
       exact absurd hh (by decide))
    | (show Q (Flow.ret (Value.bool ((PySem.Str.ofString "TM" : PySem.Str) == PySem.Str.ofString "TM"))) _
       rw [show ((PySem.Str.ofString "TM" : PySem.Str) == PySem.Str.ofString "TM") = true from by decide]
       exact hret _ _ _ _ _ (by assumption) (by assumption) (by k_mem))
end
local macro_rules | `(tactic| walk_at "execs cons") => `(tactic| ((with_reducible show wpAny _ _ (execs (Stmt.Assign [Expr.Name (PySem.Str.ofString "lead") _] _ _ :: _) _) _ _ _); refine stop_ ?_))
section
variable {w : World} {fa : Addr} {p : Program} {loose : List PySem.Str} {mean : ExcName → Option Value} {mg mb mm : PySem.Str → Option Value} {h₀ : Heap} {L : Nat} {s : Shared} {Q : Flow → Shared → Prop} {E : Value → Shared → Prop}
theorem tail3 (B : Below callerA h₀ [] h₀) (nb : Bool) (a z b d k : Int) (ta tz tb td tm : Tok) (oz om od ob : Obj)
  (F : Fr h₀ L s.heap (fun y => if y = "is_below" then some (.bool nb) else if y = "above" then some (.int a ta) else mm y)) (X : (Mine.hd.heap_39 w.params).In h₀)
  (N : News h₀ L s.heap [((L + 1 + 1 + 1 + 1 : Nat), oz), ((L + 1 + 1 + 1 : Nat), om), ((L + 1 + 1 : Nat), od), ((L + 1 : Nat), ob), ((130 : Nat), tabObj #[])])
  (hz : oz.data = .cell (some (.int z tz))) (hm : om.data = .cell (some (.int k tm))) (hdd : od.data = .cell (some (.int d td))) (hb : ob.data = .cell (some (.int b tb)))
  (T : Top p loose mean mg mb h₀) (CH : CodeHd h₀ 132 130) (l0 : (130 : Nat) < L)
  (hz2 : Bd 140 z) (hb2 : Bd 140 b) (hb0 : 0 < b) (hd1 : 1 ≤ d) (hd9 : d ≤ 9) (hk1 : 2 ≤ k) (hk6 : k ≤ 6)
  {x y : Int} (hs : decF z b d = some (x, y)) (hs2 : decF (k * z) (k * b) d = some (x, y)) (ha2 : Bd 140 a) (ha0 : a ≠ 0) (hng : ¬ 2 * a * 10 ^ (99 + d).toNat < b * (2 * 10 ^ d.toNat - 1)) (hgr : ¬ 2 * a ≥ b * (2 * 10 ^ 100 - 10 ^ (100 - d).toNat))
  (hnt : nb = true → NextOk a b d (0 - x) y) (hnf : nb = false → NextOk a b d x y) (hx2 : Bd 20 x) (hy1 : -200 ≤ y) (hy2 : y ≤ 200) (hl0 : Bd 400 (foN x y)) (hl1 : Bd 400 (foD x y)) (hl2 : 0 < foD x y) (hgcd : Int.gcd (foN x y) (foD x y) = 1)
  (hlead : foN x y * 10 ^ (if 0 - y > 0 then 0 - y else 0).toNat = x * 10 ^ (if y > 0 then y else 0).toNat * foD x y)
  (hq1 : 0 - k * foD x y ≠ 0) (hq2 : (0 - k * foD x y).natAbs.log2 < 9000) (hfn : fracN (k * foN x y) (0 - k * foD x y) = 0 - foN x y) (hfd : fracD (k * foN x y) (0 - k * foD x y) = foD x y)
  (hret : ∀ h' tk' m' news' ps, Fr h₀ L h' m' → News h₀ L h' news' → ((130 : Nat), tabObj ps) ∈ news' → Q (.ret (.bool true)) { s with heap := h', toks := tk' }) :
  wpAny (model PySem.Challenge.rw_pq0135_01.row.prog w) (callerA.deeper (envOfC "law" (lawRec Mine.hd).scope L fa (.ref 132))) (execs ((lawRec Mine.hd).body.drop 6) (envOfC "law" (lawRec Mine.hd).scope L fa (.ref 132))) Q E s := by
  w_on
  dsimp only [lawRec, List.drop]
  cases nb
  · replace hnf := hnf rfl
    clear hnt
    walk_at "mine go"
    all_goals first
      | exact absurd (by assumption) ha0
      | (unfold Stop
         refine' tail3b B k tm om ?F X ?N hm T CH l0 ?l1 hk1 hk6 hx2 hy1 hy2 hl0 hl1 hl2 hgcd hlead hq1 hq2 hfn hfd ?hr
         case F => assumption
         case N => exact cb_drop (by assumption) (List.forall_mem_cons.mpr ⟨by k_mem, List.forall_mem_cons.mpr ⟨by k_mem, List.forall_mem_cons.mpr ⟨by k_mem, fun _ h => nomatch h⟩⟩⟩)
         case l1 => omega
         case hr => exact hret)
  · replace hnt := hnt rfl
    clear hnf
    walk_at "mine go"
    all_goals first
      | exact absurd (by assumption) ha0
      | (unfold Stop
         refine' tail3b B k tm om ?F X ?N hm T CH l0 ?l1 hk1 hk6 hx2 hy1 hy2 hl0 hl1 hl2 hgcd hlead hq1 hq2 hfn hfd ?hr
         case F => assumption
         case N => exact cb_drop (by assumption) (List.forall_mem_cons.mpr ⟨by k_mem, List.forall_mem_cons.mpr ⟨by k_mem, List.forall_mem_cons.mpr ⟨by k_mem, fun _ h => nomatch h⟩⟩⟩)
         case l1 => omega
         case hr => exact hret)
end
section
variable {w : World} {fa : Addr} {p : Program} {loose : List PySem.Str} {mean : ExcName → Option Value} {mg mb mm : PySem.Str → Option Value} {h₀ : Heap} {L : Nat} {s : Shared} {Q : Flow → Shared → Prop} {E : Value → Shared → Prop}
theorem tail_all (B : Below callerA h₀ [] h₀) (nb : Bool) (a z b d k : Int) (ta tz tb td tm : Tok) (oz om od ob : Obj)
  (F : Fr h₀ L s.heap (fun y => if y = "is_below" then some (.bool nb) else if y = "above" then some (.int a ta) else mm y)) (X : (Mine.hd.heap_39 w.params).In h₀)
  (N : News h₀ L s.heap [((L + 1 + 1 + 1 + 1 : Nat), oz), ((L + 1 + 1 + 1 : Nat), om), ((L + 1 + 1 : Nat), od), ((L + 1 : Nat), ob), ((130 : Nat), tabObj #[])])
  (hz : oz.data = .cell (some (.int z tz))) (hm : om.data = .cell (some (.int k tm))) (hdd : od.data = .cell (some (.int d td))) (hb : ob.data = .cell (some (.int b tb)))
  (T : Top p loose mean mg mb h₀) (CH : CodeHd h₀ 132 130) (l0 : (130 : Nat) < L)
  (ha : 0 ≤ a) (ha2 : Bd 140 a) (hb0 : 0 < b) (hb2 : Bd 140 b) (hd1 : 1 ≤ d) (hd9 : d ≤ 9) (hk1 : 2 ≤ k) (hk6 : k ≤ 6) (hzz : z = if nb then 0 - a else a)
  (hret : ∀ h' tk' m' news' ps, Fr h₀ L h' m' → News h₀ L h' news' → ((130 : Nat), tabObj ps) ∈ news' → Q (.ret (.bool true)) { s with heap := h', toks := tk' }) :
  wpAny (model PySem.Challenge.rw_pq0135_01.row.prog w) (callerA.deeper (envOfC "law" (lawRec Mine.hd).scope L fa (.ref 132))) (execs ((lawRec Mine.hd).body.drop 6) (envOfC "law" (lawRec Mine.hd).scope L fa (.ref 132))) Q E s := by
  have hz2 : Bd 140 z := by
    rw [hzz]
    unfold Bd at *
    split <;> omega
  rcases plain ha hb0 hd1 hd9 hk1 hk6 hb2 hzz with ⟨r1, r2, r3, r4, r5⟩ | ⟨r1, r2, r3⟩ | ⟨x, y, r1, r2, r3, r4, r5, r6, r7, r8, r9, r10⟩
  · exact tail1 B nb a z b d k ta tz tb td tm oz om od ob F X N hz hm hdd hb T CH l0 hz2 hb2 hb0 hd1 hd9 hk1 hk6 r1 r2 ha2 r3 r4 r5 hret
  · exact tail2 B nb a z b d k ta tz tb td tm oz om od ob F X N hz hm hdd hb T CH l0 hz2 hb2 hb0 hd1 hd9 hk1 hk6 r1 r2 ha2 r3 hret
  · obtain ⟨f1, f2, f3, f4, f5, f6, f7, f8, f9⟩ := frac_facts r8 r9 r10 hk1 hk6
    exact tail3 B nb a z b d k ta tz tb td tm oz om od ob F X N hz hm hdd hb T CH l0 hz2 hb2 hb0 hd1 hd9 hk1 hk6 r1 r2 ha2 r3 r4 r5 r6 r7 r8 r9 r10 f1 f2 f3 f4 f5 f6 f7 f8 f9 hret
end
theorem top_pow {v : Int} (h9 : v < 9) : (10 : Int) ^ (1 + v - 1).toNat ≤ 100000000 := by
  have h : 10 ^ (1 + v - 1).toNat ≤ 10 ^ 8 := Nat.pow_le_pow_right (by decide) (by omega)
  have e : ((10 ^ (1 + v - 1).toNat : Nat) : Int) = (10 : Int) ^ (1 + v - 1).toNat := by simp
  omega
theorem top_a1 {v u e : Int} (h1 : 0 ≤ u) : 0 ≤ (2 * ((10 : Int) ^ (1 + v - 1).toNat + u) + 1) * 10 ^ e.toNat := by
  have : (0 : Int) < 10 ^ (1 + v - 1).toNat := Int.pow_pos (by decide)
  exact Int.mul_nonneg (by omega) (Int.pow_nonneg (by decide))
theorem top_a2 {v u e : Int} (h1 : 0 ≤ u) (h2 : u < 1000) (h9 : v < 9) (he : e < 131) : Bd 140 ((2 * ((10 : Int) ^ (1 + v - 1).toNat + u) + 1) * 10 ^ e.toNat) := by
  have h0 : (0 : Int) < 10 ^ (1 + v - 1).toNat := Int.pow_pos (by decide)
  have h3 := top_pow h9
  have hb : Bd 9 (2 * ((10 : Int) ^ (1 + v - 1).toNat + u) + 1) := by unfold Bd; omega
  exact (hb.mul (Bd.pow (n := e.toNat) (k := 131) (by omega))).mono (by decide)
theorem top_c1 {u e : Int} (h1 : 0 ≤ u) : 0 ≤ u * (10 : Int) ^ e.toNat := Int.mul_nonneg h1 (Int.pow_nonneg (by decide))
theorem top_c2 {u e : Int} (h1 : 0 ≤ u) (h2 : u < 1000) (he : e < 131) : Bd 140 (u * (10 : Int) ^ e.toNat) := by
  have hb : Bd 3 u := by unfold Bd; omega
  exact (hb.mul (Bd.pow (n := e.toNat) (k := 131) (by omega))).mono (by decide)
theorem top_b1 {u e : Int} (h1 : 0 < u) : 0 < u * (10 : Int) ^ e.toNat := Int.mul_pos h1 (Int.pow_pos (by decide))
theorem fr_dup {h₀ h : Heap} {L : Nat} {n : PySem.Str} {v v2 : Option Value} {m : PySem.Str → Option Value} (F : Fr h₀ L h (fun y => if y = n then v else if y = n then v2 else m y)) : Fr h₀ L h (fun y => if y = n then v else m y) :=
  frCong F (fun y => by by_cases h : y = n <;> simp [h])
theorem mid_bd {u e : Int} (h : Bd 9 u) (he : e < 131) : Bd 140 (u * (10 : Int) ^ e.toNat) :=
  (h.mul (Bd.pow (n := e.toNat) (k := 131) (by omega))).mono (by decide)
local macro_rules | `(tactic| walk_at "execs cons") => `(tactic| ((with_reducible show wpAny _ _ (execs (Stmt.Assign [Expr.Name (PySem.Str.ofString "told") _] _ _ :: _) _) _ _ _); refine stop_ ?_))
section
variable {w : World} {fa : Addr} {p : Program} {loose : List PySem.Str} {mean : ExcName → Option Value} {mg mb mm : PySem.Str → Option Value} {h₀ : Heap} {L : Nat} {s : Shared} {Q : Flow → Shared → Prop} {E : Value → Shared → Prop}
theorem mid (B : Below callerA h₀ [] h₀) (a b d k0 : Int) (ta tb td tk : Tok) (oz om od ob : Obj) {cz cm : Option Value} (tp ip : Nat) (ys : List Value) (ns : List Int)
  (F : Fr h₀ L s.heap (fun y => if y = "above" then some (.int a ta) else if y = "tape" then some (.ref tp) else mm y)) (X : (Mine.hd.heap_39 w.params).In h₀)
  (N : News h₀ L s.heap [((tp : Nat), listOf #[.int k0 tk, .ref ip] 0), ((ip : Nat), LCg.lst ys), ((L + 1 + 1 + 1 + 1 : Nat), oz), ((L + 1 + 1 + 1 : Nat), om), ((L + 1 + 1 : Nat), od), ((L + 1 : Nat), ob), ((130 : Nat), tabObj #[])])
  (hz : oz.data = .cell cz) (hm : om.data = .cell cm) (hdd : od.data = .cell (some (.int d td))) (hb : ob.data = .cell (some (.int b tb)))
  (T : Top p loose mean mg mb h₀) (CH : CodeHd h₀ 132 130) (l0 : (130 : Nat) < L)
  (hI : IntsAre ys ns) (hlen : ns.length ≤ 20) (hk0 : 0 ≤ k0) (hk4 : k0 ≤ 4)
  (htp : ip < tp ∧ L + 1 + 1 + 1 + 1 < tp ∧ L + 1 + 1 + 1 < tp ∧ L + 1 + 1 < tp ∧ L + 1 < tp ∧ 130 < tp)
  (hip : L + 1 + 1 + 1 + 1 ≠ ip ∧ L + 1 + 1 + 1 ≠ ip ∧ L + 1 + 1 ≠ ip ∧ L + 1 ≠ ip ∧ 130 ≠ ip)
  (ha : 0 ≤ a) (ha2 : Bd 9 a) (hb0 : 0 < b) (hb2 : Bd 9 b) (hd1 : 1 ≤ d) (hd9 : d ≤ 9)
  (hret : ∀ h' tk' m' news' ps, Fr h₀ L h' m' → News h₀ L h' news' → ((130 : Nat), tabObj ps) ∈ news' → Q (.ret (.bool true)) { s with heap := h', toks := tk' }) :
  wpAny (model PySem.Challenge.rw_pq0135_01.row.prog w) (callerA.deeper (envOfC "law" (lawRec Mine.hd).scope L fa (.ref 132))) (execs ((lawRec Mine.hd).body.drop 3) (envOfC "law" (lawRec Mine.hd).scope L fa (.ref 132))) Q E s := by
  w_on
  dsimp only [lawRec, List.drop]
  walk_at "mine go"
  (all_goals (try k_data))
  all_goals (
    unfold Stop
    k_dflt (refine' tail_all ?B _ _ _ _ _ _ _ _ _ _ _ _ _ _ _ ?F ?X ?N ?hz ?hm ?hdd ?hb ?T ?CH ?l0 ?ha ?ha2 ?hb0 ?hb2 ?hd1 ?hd9 ?hk1 ?hk6 ?hzz ?hret)
    case B => assumption
    case F => assumption
    case X => assumption
    case N => exact cb_drop (by assumption) (List.forall_mem_cons.mpr ⟨by k_mem, List.forall_mem_cons.mpr ⟨by k_mem, List.forall_mem_cons.mpr ⟨by k_mem, List.forall_mem_cons.mpr ⟨by k_mem, List.forall_mem_cons.mpr ⟨by k_mem, fun _ h => absurd h List.not_mem_nil⟩⟩⟩⟩⟩)
    case T => assumption
    case CH => assumption
    case l0 => assumption
    case hz => assumption
    case hm => assumption
    case hdd => assumption
    case hb => assumption
    case ha => exact Int.mul_nonneg ha (Int.pow_nonneg (by decide))
    case ha2 => exact mid_bd ha2 (by assumption)
    case hb0 => exact Int.mul_pos hb0 (Int.pow_pos (by decide))
    case hb2 => exact mid_bd hb2 (by assumption)
    case hd1 => omega
    case hd9 => omega
    case hk1 => omega
    case hk6 => omega
    case hzz => first | exact (if_pos (beq_iff_eq.mpr (by assumption))).symm | exact (if_neg (fun q => absurd (beq_iff_eq.mp q) (by assumption))).symm
    case hret =>
      intro h9 tk9 m9 news9 ps9 F9 N9 hm9
      exact hret _ _ _ _ _ F9 N9 hm9)
end
def Stop2 (P : Prop) : Prop := P
theorem stop2_ {P : Prop} (h : Stop2 P) : P := h
theorem mid_a {v u : Int} (h1 : 0 ≤ u) : 0 ≤ (2 * ((10 : Int) ^ (1 + v - 1).toNat + u) + 1) := by
  have : (0 : Int) < 10 ^ (1 + v - 1).toNat := Int.pow_pos (by decide)
  omega
theorem mid_a2 {v u : Int} (h1 : 0 ≤ u) (h2 : u < 1000) (h9 : v < 9) : Bd 9 (2 * ((10 : Int) ^ (1 + v - 1).toNat + u) + 1) := by
  have h0 : (0 : Int) < 10 ^ (1 + v - 1).toNat := Int.pow_pos (by decide)
  have h3 := top_pow h9
  unfold Bd; omega
theorem mid_s {u : Int} (h1 : 0 ≤ u) (h2 : u < 1000000) : Bd 9 u := by unfold Bd; omega
local macro_rules | `(tactic| walk_at "execs cons") => `(tactic| ((with_reducible show wpAny _ _ (execs (Stmt.Assign [Expr.Tuple (Expr.Name (PySem.Str.ofString "above") _ :: _) _ _] _ _ :: _ :: _) _) _ _ _); refine stop2_ ?_))
theorem lw0 : PySem.Challenge.rw_pq0135_01.Holds := Mine.hd (by
  k_go0
  all_goals (try k_fold)
  walk_at "mine go"
  (all_goals (try k_data))
  all_goals (
    unfold Stop2
    k_dflt (refine' mid ?B _ _ _ _ _ _ _ _ _ _ _ _ _ _ _ _ ?F ?X ?N ?hz ?hm ?hdd ?hb ?T ?CH ?l0 ?hI ?hlen ?hk0 ?hk4 ?htp ?hip ?ha ?ha2 ?hb0 ?hb2 ?hd1 ?hd9 ?hret)
    case B => assumption
    case F => first | exact fr_dup (by assumption) | assumption
    case X => assumption
    case N => exact cb_drop (by assumption) (List.forall_mem_cons.mpr ⟨by k_mem, List.forall_mem_cons.mpr ⟨by k_mem, List.forall_mem_cons.mpr ⟨by k_mem, List.forall_mem_cons.mpr ⟨by k_mem, List.forall_mem_cons.mpr ⟨by k_mem, List.forall_mem_cons.mpr ⟨by k_mem, List.forall_mem_cons.mpr ⟨by k_mem, fun _ h => absurd h List.not_mem_nil⟩⟩⟩⟩⟩⟩⟩)
    case T => assumption
    case CH => assumption
    case l0 => assumption
    case hz => assumption
    case hm => assumption
    case hdd => assumption
    case hb => assumption
    case hI => assumption
    case hlen => simp only [List.length_map, List.length_take]; omega
    case hk0 => decide
    case hk4 => decide
    case htp => omega
    case hip => omega
    case ha => first | exact mid_a (by assumption) | assumption
    case ha2 => first | exact mid_a2 (by assumption) (by assumption) (by assumption) | exact mid_s (by omega) (by omega)
    case hb0 => omega
    case hb2 => exact mid_s (by omega) (by omega)
    case hd1 => omega
    case hd9 => omega
    case hret =>
      intro h9 tk9 m9 news9 ps9 F9 N9 hm9
      have N10 := cb_drop N9 (List.forall_mem_cons.mpr ⟨hm9, fun _ h => absurd h List.not_mem_nil⟩)
      clear N9 hm9
      try dsimp only
      walk_at "mine go"))
end Mine
theorem PySem.Challenge.cw_pq0135_01_holds : PySem.Challenge.rw_pq0135_01.Holds := by
  exact Mine.lw0
