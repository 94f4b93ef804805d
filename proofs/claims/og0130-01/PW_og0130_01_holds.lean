import PyProof.Rows.All
import Wide.All
import OpenK.AllK
import Wide.FinOn
import PySem.Challenge.RW_og0130_01
set_option Elab.async false
set_option maxRecDepth 100000

namespace Mine

/-- ten to the k -/
def PW (k : Int) : Int := 10 ^ k.toNat
theorem PW_add {a b : Int} (ha : 0 ≤ a) (hb : 0 ≤ b) : PW (a + b) = PW a * PW b := by
  unfold PW
  rw [Int.toNat_add ha hb, Int.pow_add]
theorem PW_pos (k : Int) : 0 < PW k := by
  unfold PW
  exact Int.pow_pos (by decide)
theorem PW_zero : PW 0 = 1 := rfl
theorem PW_one : PW 1 = 10 := rfl
theorem PW_le {a b : Int} (ha : 0 ≤ a) (h : a ≤ b) : PW a ≤ PW b := by
  have e : b = a + (b - a) := by omega
  rw [e, PW_add ha (by omega)]
  have h1 := PW_pos a
  have h2 := PW_pos (b - a)
  have := Int.mul_le_mul_of_nonneg_left (show (1 : Int) ≤ PW (b - a) by omega) (Int.le_of_lt h1)
  omega
theorem PW_7 : PW 7 = 10000000 := by decide
theorem PW_9 : PW 9 = 1000000000 := by decide

/-- the number's worth in units of the ninth place -/
def UU (t p : Int) : Int := t * PW (9 - p)

/-- the loop of __init__ -/
def nrm : Nat → Int → Int × Nat
  | 0, t => (t, 0)
  | k + 1, t => if t.fmod 10 = 0 then nrm k (t.fdiv 10) else (t, k + 1)
def nT (t p : Int) : Int := (nrm p.toNat t).1
def nP (t p : Int) : Int := (nrm p.toNat t).2

/-- a number in lowest terms -/
def Low (t p : Int) : Prop := p = 0 ∨ t.fmod 10 ≠ 0

theorem toNat_pos {p : Int} (h : 0 < p) : p.toNat = (p - 1).toNat + 1 := by omega
theorem n_step {t p : Int} (hp : 0 < p) (hm : t.fmod 10 = 0) : nT (t.fdiv 10) (p - 1) = nT t p ∧ nP (t.fdiv 10) (p - 1) = nP t p := by
  unfold nT nP
  rw [toNat_pos hp]
  simp [nrm, hm]
theorem n_low {t p : Int} (hp : 0 ≤ p) (h : Low t p) : nT t p = t ∧ nP t p = p := by
  unfold nT nP
  rcases h with h | h
  · subst h; exact ⟨rfl, rfl⟩
  · by_cases h0 : p = 0
    · subst h0; exact ⟨rfl, rfl⟩
    · rw [toNat_pos (by omega)]
      simp [nrm, h]
      omega
theorem nrm_low : ∀ (k : Nat) (t : Int), (nrm k t).2 = 0 ∨ (nrm k t).1.fmod 10 ≠ 0
  | 0, _ => .inl rfl
  | k + 1, t => by
    unfold nrm
    split
    · exact nrm_low k _
    · rename_i h; exact .inr h
theorem nrm_le : ∀ (k : Nat) (t : Int), (nrm k t).2 ≤ k
  | 0, _ => Nat.le_refl _
  | k + 1, t => by
    unfold nrm
    split
    · exact Nat.le_succ_of_le (nrm_le k _)
    · exact Nat.le_refl _
theorem n_is_low (t p : Int) : Low (nT t p) (nP t p) := by
  unfold Low nT nP
  rcases nrm_low p.toNat t with h | h
  · left; omega
  · exact .inr h
theorem nP_nonneg (t p : Int) : 0 ≤ nP t p := by unfold nP; omega
theorem nP_le {t p : Int} (hp : 0 ≤ p) : nP t p ≤ p := by
  unfold nP
  have := nrm_le p.toNat t
  omega
theorem fmod10 (t : Int) : t.fmod 10 = t % 10 := Int.fmod_eq_emod_of_nonneg _ (by decide)
theorem fdiv10 (t : Int) : t.fdiv 10 = t / 10 := Int.fdiv_eq_ediv_of_nonneg _ (by decide)
theorem nrm_UU : ∀ (k : Nat) (t : Int), k ≤ 9 → UU (nrm k t).1 (nrm k t).2 = UU t k
  | 0, _, _ => rfl
  | k + 1, t, hk => by
    unfold nrm
    split
    · rename_i h
      rw [nrm_UU k _ (by omega)]
      rw [fmod10] at h
      rw [fdiv10]
      unfold UU
      have e : (9 : Int) - (k : Int) = 1 + (9 - ((k + 1 : Nat) : Int)) := by omega
      rw [e, PW_add (by decide) (by omega), PW_one, ← Int.mul_assoc]
      congr 1
      omega
    · rfl
theorem n_UU {t p : Int} (hp : 0 ≤ p) (h9 : p ≤ 9) : UU (nT t p) (nP t p) = UU t p := by
  have := nrm_UU p.toNat t (by omega)
  unfold nT nP
  rw [this]
  congr 1
  omega
theorem neg_div10 {t : Int} (h : t % 10 = 0) : (-t) / 10 = -(t / 10) := by omega
theorem nrm_neg : ∀ (k : Nat) (t : Int), nrm k (-t) = (-(nrm k t).1, (nrm k t).2)
  | 0, _ => rfl
  | k + 1, t => by
    unfold nrm
    rw [fmod10, fmod10, fdiv10, fdiv10]
    by_cases h : t % 10 = 0
    · have h' : (-t) % 10 = 0 := by omega
      rw [if_pos h, if_pos h', neg_div10 h, nrm_neg k]
    · have h' : ¬ (-t) % 10 = 0 := by omega
      rw [if_neg h, if_neg h']
theorem nT_neg (t p : Int) : nT (-t) p = -nT t p := by unfold nT; rw [nrm_neg]
theorem nP_neg (t p : Int) : nP (-t) p = nP t p := by unfold nP; rw [nrm_neg]

/-- the sign -/
def sg (a : Int) : Int := if a = 0 then 0 else if 0 < a then 1 else -1
theorem sg_neg (a : Int) : sg (-a) = -sg a := by unfold sg; repeat' split <;> omega
/-- rounded_quotient -/
def rq (a b : Int) : Int := (2 * (a.natAbs : Int) + (b.natAbs : Int)).fdiv (2 * (b.natAbs : Int)) * sg a * sg b
theorem rq_neg (a b : Int) : rq (-a) b = -rq a b := by
  unfold rq
  rw [sg_neg, Int.natAbs_neg]
  simp [Int.mul_neg, Int.neg_mul]
theorem rq_pos {a b : Int} (hb : 0 < b) : rq a b = (2 * (a.natAbs : Int) + b) / (2 * b) * sg a := by
  unfold rq
  have e : (b.natAbs : Int) = b := by omega
  have e2 : sg b = 1 := by unfold sg; rw [if_neg (by omega), if_pos hb]
  rw [e, e2, Int.mul_one, Int.fdiv_eq_ediv_of_nonneg _ (by omega)]
theorem rq_near {a b : Int} (hb : 0 < b) : 2 * ((rq a b * b - a).natAbs : Int) ≤ b ∧ (2 * ((rq a b * b - a).natAbs : Int) = b → (0 < rq a b * b - a ↔ 0 < a)) := by
  rw [rq_pos hb]
  have h1 := Int.mul_ediv_add_emod (2 * (a.natAbs : Int) + b) (2 * b)
  have h2 := Int.emod_nonneg (2 * (a.natAbs : Int) + b) (show (2 * b) ≠ 0 by omega)
  have h3 := Int.emod_lt_of_pos (2 * (a.natAbs : Int) + b) (show 0 < 2 * b by omega)
  generalize (2 * (a.natAbs : Int) + b) / (2 * b) = q at *
  generalize (2 * (a.natAbs : Int) + b) % (2 * b) = r at *
  have h4 : 2 * (q * b) + r = 2 * (a.natAbs : Int) + b := by rw [← h1]; rw [Int.mul_assoc, Int.mul_comm b q]
  unfold sg
  split
  · rename_i h0; subst h0; simp at *; omega
  · split
    · rw [Int.mul_one]
      generalize q * b = z at *
      omega
    · rw [Int.mul_neg, Int.mul_one, Int.neg_mul]
      generalize q * b = z at *
      omega

/-- rounded -/
def rT (t p m : Int) : Int := if p ≤ m then t else nT (rq t (PW (p - m))) m
def rP (t p m : Int) : Int := if p ≤ m then p else nP (rq t (PW (p - m))) m
theorem rT_le {t p m : Int} (h : p ≤ m) : rT t p m = t := if_pos h
theorem rP_le {t p m : Int} (h : p ≤ m) : rP t p m = p := if_pos h
theorem rT_gt {t p m : Int} (h : ¬ p ≤ m) : rT t p m = nT (rq t (PW (p - m))) m := if_neg h
theorem rP_gt {t p m : Int} (h : ¬ p ≤ m) : rP t p m = nP (rq t (PW (p - m))) m := if_neg h
theorem rP_nonneg {t p m : Int} (hp : 0 ≤ p) : 0 ≤ rP t p m := by
  unfold rP; split
  · exact hp
  · exact nP_nonneg _ _
theorem rP_most {t p m : Int} (hm : 0 ≤ m) : rP t p m ≤ m := by
  unfold rP; split
  · assumption
  · exact nP_le hm
theorem r_low {t p m : Int} (h : Low t p) : Low (rT t p m) (rP t p m) := by
  unfold rT rP; split
  · exact h
  · exact n_is_low _ _
theorem rT_neg (t p m : Int) : rT (-t) p m = -rT t p m := by
  unfold rT; split
  · rfl
  · rw [rq_neg, nT_neg]
theorem rP_neg (t p m : Int) : rP (-t) p m = rP t p m := by
  unfold rP; split
  · rfl
  · rw [rq_neg, nP_neg]

/-- what rounding means, in units: N a number of G's, at most half a G from X, further from nought in the middle -/
def Near (X N G : Int) : Prop := (∃ n, N = n * G) ∧ 2 * ((N - X).natAbs : Int) ≤ G ∧ (2 * ((N - X).natAbs : Int) = G → (0 < N - X ↔ 0 < X))

theorem UU_mult {t p m : Int} (h : p ≤ m) (hm : m ≤ 9) : UU t p = t * PW (m - p) * PW (9 - m) := by
  unfold UU
  have e : 9 - p = (m - p) + (9 - m) := by omega
  rw [e, PW_add (by omega) (by omega), Int.mul_assoc]
theorem natAbs_mul_pos (a : Int) {c : Int} (hc : 0 < c) : ((a * c).natAbs : Int) = (a.natAbs : Int) * c := by
  rw [Int.natAbs_mul, Int.natCast_mul]
  congr 1
  omega
theorem mul_pos_iff' (a : Int) {c : Int} (hc : 0 < c) : 0 < a * c ↔ 0 < a := by
  constructor
  · intro h
    rcases Int.lt_trichotomy a 0 with h0 | h0 | h0
    · have := Int.mul_neg_of_neg_of_pos h0 hc; omega
    · subst h0; simp at h
    · exact h0
  · exact fun h => Int.mul_pos h hc
theorem r_near {t p m : Int} (hp : 0 ≤ p) (h9 : p ≤ 9) (hm : 0 ≤ m) (hm9 : m ≤ 9) : Near (UU t p) (UU (rT t p m) (rP t p m)) (PW (9 - m)) := by
  by_cases h : p ≤ m
  · rw [rT_le h, rP_le h]
    refine ⟨⟨t * PW (m - p), UU_mult h hm9⟩, ?_, ?_⟩
    · have := PW_pos (9 - m); simp; omega
    · have := PW_pos (9 - m); simp; omega
  · rw [rT_gt h, rP_gt h, n_UU hm hm9]
    have eb := PW_pos (p - m)
    have ec := PW_pos (9 - p)
    obtain ⟨k1, k2⟩ := rq_near (a := t) eb
    generalize hq : rq t (PW (p - m)) = q at *
    have e : 9 - m = (p - m) + (9 - p) := by omega
    have eG : PW (9 - m) = PW (p - m) * PW (9 - p) := by rw [e, PW_add (by omega) (by omega)]
    have eN : UU q m - UU t p = (q * PW (p - m) - t) * PW (9 - p) := by
      unfold UU
      rw [eG, Int.sub_mul, Int.mul_assoc]
    have eX : UU t p = t * PW (9 - p) := rfl
    refine ⟨⟨q, rfl⟩, ?_, ?_⟩
    · rw [eN, natAbs_mul_pos _ ec, eG, ← Int.mul_assoc]
      exact Int.mul_le_mul_of_nonneg_right k1 (Int.le_of_lt ec)
    · rw [eN, natAbs_mul_pos _ ec, eG, ← Int.mul_assoc, eX, mul_pos_iff' _ ec, mul_pos_iff' _ ec]
      intro h
      exact k2 (Int.eq_of_mul_eq_mul_right (by omega) h)

/-- two steps are at most one unit from one step -/
theorem near_two {X N A B g G : Int} (hg : g ≤ G) (h1 : Near X N g) (h2 : Near N A G) (h3 : Near X B G) (hG : 0 < G) : ((A - B).natAbs : Int) ≤ G := by
  obtain ⟨⟨a, rfl⟩, h2, _⟩ := h2
  obtain ⟨⟨b, rfl⟩, h3, _⟩ := h3
  obtain ⟨_, h1, _⟩ := h1
  have h4 : 2 * ((a * G - b * G).natAbs : Int) ≤ 3 * G := by omega
  have e : a * G - b * G = (a - b) * G := (Int.sub_mul _ _ _).symm
  rw [e, natAbs_mul_pos _ hG] at h4 ⊢
  have h5 : 2 * (((a - b).natAbs : Int)) ≤ 3 := by
    have : 2 * (((a - b).natAbs : Int)) * G ≤ 3 * G := by rw [Int.mul_assoc]; exact h4
    exact Int.le_of_mul_le_mul_right this hG
  have h6 : ((a - b).natAbs : Int) ≤ 1 := by omega
  have := Int.mul_le_mul_of_nonneg_right h6 (Int.le_of_lt hG)
  omega
/-- the greater is never rounded to a lesser -/
theorem near_mono {X Y N M G : Int} (hG : 0 < G) (h1 : Near X N G) (h2 : Near Y M G) (h : X ≤ Y) : N ≤ M := by
  obtain ⟨⟨a, rfl⟩, k1, k2⟩ := h1
  obtain ⟨⟨b, rfl⟩, l1, l2⟩ := h2
  by_cases c : a ≤ b
  · exact Int.mul_le_mul_of_nonneg_right c (Int.le_of_lt hG)
  · exfalso
    have c' : b + 1 ≤ a := by omega
    have := Int.mul_le_mul_of_nonneg_right c' (Int.le_of_lt hG)
    rw [Int.add_mul, Int.one_mul] at this
    generalize a * G = u at *
    generalize b * G = v at *
    have e1 : 2 * ((u - X).natAbs : Int) = G := by omega
    have e2 : 2 * ((v - Y).natAbs : Int) = G := by omega
    have := k2 e1
    have := l2 e2
    omega

/-- compared -/
def cp (t p u q : Int) : Int := sg (t * PW (max p q - p) - u * PW (max p q - q))
theorem sg_pos {a : Int} (h : 0 < a) : sg a = 1 := by unfold sg; rw [if_neg (by omega), if_pos h]
theorem sg_zero : sg 0 = 0 := rfl
theorem sg_minus {a : Int} (h : a < 0) : sg a = -1 := by unfold sg; rw [if_neg (by omega), if_neg (by omega)]
theorem sg_mul (a : Int) {c : Int} (hc : 0 < c) : sg (a * c) = sg a := by
  rcases Int.lt_trichotomy a 0 with h | h | h
  · rw [sg_minus h, sg_minus (Int.mul_neg_of_neg_of_pos h hc)]
  · subst h; simp
  · rw [sg_pos h, sg_pos (Int.mul_pos h hc)]
theorem cp_UU {t p u q : Int} (h1 : p ≤ 9) (h2 : q ≤ 9) : cp t p u q = sg (UU t p - UU u q) := by
  unfold cp
  rw [UU_mult (m := max p q) (by omega) (by omega), UU_mult (p := q) (m := max p q) (by omega) (by omega), ← Int.sub_mul, sg_mul _ (PW_pos _)]
theorem cp_mono {t p u q m : Int} (hp : 0 ≤ p) (h9 : p ≤ 9) (hq : 0 ≤ q) (k9 : q ≤ 9) (hm : 0 ≤ m) (hm9 : m ≤ 9) :
    0 ≤ cp (rT t p m) (rP t p m) (rT u q m) (rP u q m) * cp t p u q := by
  have a1 : rP t p m ≤ 9 := Int.le_trans (rP_most hm) hm9
  have a2 : rP u q m ≤ 9 := Int.le_trans (rP_most hm) hm9
  rw [cp_UU a1 a2, cp_UU h9 k9]
  have n1 := r_near (t := t) hp h9 hm hm9
  have n2 := r_near (t := u) hq k9 hm hm9
  generalize UU (rT t p m) (rP t p m) = N at *
  generalize UU (rT u q m) (rP u q m) = M at *
  generalize UU t p = X at *
  generalize UU u q = Y at *
  have hG := PW_pos (9 - m)
  rcases Int.lt_trichotomy X Y with h | h | h
  · have := near_mono hG n1 n2 (Int.le_of_lt h)
    rw [sg_minus (show X - Y < 0 by omega)]
    rcases Int.lt_trichotomy N M with c | c | c
    · rw [sg_minus (show N - M < 0 by omega)]; decide
    · subst c; simp [sg_zero]
    · omega
  · subst h; simp [sg_zero]
  · have := near_mono hG n2 n1 (Int.le_of_lt h)
    rw [sg_pos (show 0 < X - Y by omega)]
    rcases Int.lt_trichotomy N M with c | c | c
    · omega
    · subst c; simp [sg_zero]
    · rw [sg_pos (show 0 < N - M by omega)]; decide
theorem low_neg {t p : Int} (h : Low t p) : Low (-t) p := by
  unfold Low at *
  rcases h with h | h
  · exact .inl h
  · right
    rw [fmod10] at *
    omega
theorem neg_low {t p : Int} (hp : 0 ≤ p) (h : Low t p) : nT (-t) p = -t ∧ nP (-t) p = p := n_low hp (low_neg h)
theorem neg_one {t p : Int} (hp : 0 ≤ p) (h : Low t p) : nT (-t) p = -t := (neg_low hp h).1
theorem neg_two {t p : Int} (hp : 0 ≤ p) (h : Low t p) : nP (-t) p = p := (neg_low hp h).2
/-- the law's tests of one number -/
theorem t_near {t p m : Int} (hp : 0 ≤ p) (h9 : p ≤ 9) (hm : 0 ≤ m) (hm9 : m ≤ 9) : 2 * ((UU (rT t p m) (rP t p m) - UU t p).natAbs : Int) ≤ PW (9 - m) := (r_near hp h9 hm hm9).2.1
theorem UU_sign (t p : Int) : 0 < UU t p ↔ 0 < t := mul_pos_iff' t (PW_pos _)
theorem t_tie {t p m : Int} (hp : 0 ≤ p) (h9 : p ≤ 9) (hm : 0 ≤ m) (hm9 : m ≤ 9) (h : 2 * ((UU (rT t p m) (rP t p m) - UU t p).natAbs : Int) = PW (9 - m)) : 0 < UU (rT t p m) (rP t p m) - UU t p ↔ 0 < t :=
  ((r_near hp h9 hm hm9).2.2 h).trans (UU_sign t p)
theorem t_two {t p m f : Int} (hp : 0 ≤ p) (h9 : p ≤ 9) (hf : 0 ≤ f) (hfm : f ≤ m) (hm9 : m ≤ 9) :
    ((UU (rT (rT t p m) (rP t p m) f) (rP (rT t p m) (rP t p m) f) - UU (rT t p f) (rP t p f)).natAbs : Int) ≤ PW (9 - f) := by
  have a1 : rP t p m ≤ 9 := Int.le_trans (rP_most (by omega)) hm9
  exact near_two (PW_le (by omega) (by omega)) (r_near hp h9 (by omega) hm9) (r_near (rP_nonneg hp) a1 hf (by omega)) (r_near hp h9 hf (by omega)) (PW_pos _)
end Mine

open PySem PySem.W PySem.Spec PySem.Calls PyProof.Rows
namespace Mine
set_option maxHeartbeats 8000000 in
open_top hd for PySem.Challenge.rw_og0130_01
end Mine

namespace Mine


/-- a call of the callable at f with the arguments vs, where the ledger is news: it ends, and what is asked behind it is as Back says -/
def Does (w : World) (f : Addr) (vs : List Value) (need : Nat) (news : List (Addr × Obj)) (Back : (Value → List (Addr × Obj) → Prop) → Prop) : Prop :=
  ∀ (mean : ExcName → Option Value) (mg mb : Str → Option Value) (dp un : Nat) (gd : Option (List Code)) (cn : Str) (cs : Scope) (a : Addr) (ccd : Value) (cl : List (Str × Addr)) (outer : List Env) (A₀ : Around) (base h₀ : Heap) (L : Addr) (m : Str → Option Value) (s : Shared) (Q E : Value → Shared → Prop),
    Below A₀ base outer h₀ → Fr h₀ L s.heap m → (hd.heap_39 w.params).In h₀ → News h₀ L s.heap news → Top hd.view_39 (looseW hd.view_39 [Str.ofString "PaperError"]) mean mg mb h₀ → cs.kind = .function →
    dp + need ≤ 900 → un + 20 * need ≤ 5000 →
    Back (fun (r : Value) (tl : List (Addr × Obj)) => ∀ (h' : Heap) (tk' : Nat), Fr h₀ L h' m → News h₀ L h' tl → Q r { s with heap := h', toks := tk' }) →
    wpAny (model PySem.Challenge.rw_og0130_01.row.prog w) (ktrTop dp un gd cn cs L a ccd cl outer) (call (.ref f) vs) Q E s

theorem Does.use {w : World} {f : Addr} {vs : List Value} {need : Nat} {news : List (Addr × Obj)} {Back : (Value → List (Addr × Obj) → Prop) → Prop} {mean : ExcName → Option Value} {mg mb : Str → Option Value} {dp un : Nat} {gd : Option (List Code)} {cn : Str} {cs : Scope} {a : Addr} {ccd : Value} {cl : List (Str × Addr)} {outer : List Env} {A₀ : Around} {base h₀ : Heap} {L : Addr} {m : Str → Option Value} {s : Shared} {Q E : Value → Shared → Prop}
    (B : Below A₀ base outer h₀) (F : Fr h₀ L s.heap m) (X : (hd.heap_39 w.params).In h₀) (N : News h₀ L s.heap news) (T : Top hd.view_39 (looseW hd.view_39 [Str.ofString "PaperError"]) mean mg mb h₀) (hk : cs.kind = .function)
    (C : Does w f vs need news Back) (hd : dp + need ≤ 900) (hu : un + 20 * need ≤ 5000)
    (ret : Back (fun (r : Value) (tl : List (Addr × Obj)) => ∀ (h' : Heap) (tk' : Nat), Fr h₀ L h' m → News h₀ L h' tl → Q r { s with heap := h', toks := tk' })) :
    wpAny (model PySem.Challenge.rw_og0130_01.row.prog w) (ktrTop dp un gd cn cs L a ccd cl outer) (call (.ref f) vs) Q E s :=
  C mean mg mb dp un gd cn cs a ccd cl outer A₀ base h₀ L m s Q E B F X N T hk hd hu ret
theorem news_tail {h₀ h : Heap} {L : Addr} {p : Addr × Obj} {news : List (Addr × Obj)} (N : News h₀ L h (p :: news)) : News h₀ L h news := fun q hq => N q (.tail _ hq)
/-- the dict of a Decimal -/
noncomputable abbrev decD (P : Params) (k1 k2 : Tok) (t : Int) (u1 : Tok) (p : Int) (u2 : Tok) : Obj :=
  dictOf [{ hash := PyData.keyHash P (Str.ofString "top"), key := Value.str (Str.ofString "top") k1, val := Value.int t u1 }, { hash := PyData.keyHash P (Str.ofString "places"), key := Value.str (Str.ofString "places") k2, val := Value.int p u2 }] 2
end Mine

namespace Mine
section
variable {prog : Program} {w : World} {A : Around} {E : Value → Shared → Prop} {s : Shared} {a b : Int} {t u : Tok} {Q : Value → Shared → Prop}

/-- a remainder by a positive number, its bounds alone -/
theorem mod_gen (hb : 0 < b) (h : ∀ r : Int, 0 ≤ r → r < b → Q (.int r s.toks) { s with toks := s.toks + 1 }) : wpAny (model prog w) A (binaryOp .Mod (.int a t) (.int b u)) Q E s := by
  refine mod_int' (by omega) (h _ ?_ ?_)
  · rw [Int.fmod_eq_emod_of_nonneg _ (by omega)]; exact Int.emod_nonneg _ (by omega)
  · rw [Int.fmod_eq_emod_of_nonneg _ (by omega)]; exact Int.emod_lt_of_pos _ hb
/-- a quotient of numbers that are not negative, its sign alone -/
theorem div_gen (ha : 0 ≤ a) (hb : 0 < b) (hs : b ≤ 1000000000) (h : ∀ r : Int, 0 ≤ r → Q (.int r s.toks) { s with toks := s.toks + 1 }) : wpAny (model prog w) A (binaryOp .FloorDiv (.int a t) (.int b u)) Q E s := by
  refine floordiv_int (by omega) (h _ ?_) (Or.inl (PyProof.noPylong_small (by omega)))
  rw [Int.fdiv_eq_ediv_of_nonneg _ (by omega)]; exact Int.ediv_nonneg ha (by omega)
/-- a power: some number -/
theorem pow_gen (hn : 0 ≤ b) (hn2 : b ≤ 1000000) (ha : a.natAbs < 2 ^ 64) (h : ∀ r : Int, Q (.int r s.toks) { s with toks := s.toks + 1 }) : wpAny (model prog w) A (binaryOp .Pow (.int a t) (.int b u)) Q E s :=
  pow_int_small hn hn2 ha (h _)
theorem pow_18 (h : Q (.int 1000000000000000000 s.toks) { s with toks := s.toks + 1 }) : wpAny (model prog w) A (binaryOp .Pow (.int 10 t) (.int 18 u)) Q E s :=
  pow_int_small (by decide) (by decide) (by decide) h
/-- a product of bounded numbers, its bounds alone -/
theorem mul_gen (ha0 : 0 ≤ a) (ha : a ≤ 4000000000) (hb0 : 0 ≤ b) (hb : b ≤ 1000000) (h : ∀ r : Int, 0 ≤ r → r ≤ 4000000000000000 → Q (.int r s.toks) { s with toks := s.toks + 1 }) : wpAny (model prog w) A (binaryOp .Mult (.int a t) (.int b u)) Q E s := by
  have h1 : a * b ≤ 4000000000 * 1000000 := Int.mul_le_mul ha hb hb0 (by decide)
  exact PyProof.Rows.mul_int (h _ (Int.mul_nonneg ha0 hb0) (by omega)) (IntMulOk.of_right (intBits_le_64 (by omega) (by omega)))
theorem mul_lit (ha : Builtin.Int.intBits a ≤ 64) (h : Q (.int (a * b) s.toks) { s with toks := s.toks + 1 }) : wpAny (model prog w) A (binaryOp .Mult (.int a t) (.int b u)) Q E s :=
  PyProof.Rows.mul_int h (IntMulOk.of_left ha)
theorem abs_gen (h : ∀ u tk, Q (.int (a.natAbs : Int) u) { s with toks := tk }) : wpAny (model prog w) A (call (.builtin "abs") [.int a t]) Q E s := by
  refine call_abs_int fun u tk => ?_
  have e : (if a < 0 then -a else a) = (a.natAbs : Int) := by split <;> omega
  rw [e]
  exact h u tk
/-- ten to a bounded power -/
theorem pow10 (h0 : 0 ≤ b) (h9 : b ≤ 9) (h : 1 ≤ PW b → PW b ≤ 1000000000 → (b ≤ 7 → PW b ≤ 10000000) → Q (.int (PW b) s.toks) { s with toks := s.toks + 1 }) : wpAny (model prog w) A (binaryOp .Pow (.int 10 t) (.int b u)) Q E s :=
  pow_int_small h0 (by omega) (by decide) (h (by have := PW_pos b; omega) (by have := PW_le h0 h9; rw [PW_9] at this; exact this) (fun h7 => by have := PW_le h0 h7; rw [PW_7] at this; exact this))
/-- a product with a factor of at most sixty-four bits -/
theorem mul_right (h1 : -1000000000 ≤ b) (h2 : b ≤ 1000000000) (h : Q (.int (a * b) s.toks) { s with toks := s.toks + 1 }) : wpAny (model prog w) A (binaryOp .Mult (.int a t) (.int b u)) Q E s :=
  PyProof.Rows.mul_int h (IntMulOk.of_right (intBits_le_64 (by omega) (by omega)))
theorem sg_bounds (a : Int) : -1000000000 ≤ sg a ∧ sg a ≤ 1000000000 := by unfold sg; repeat' split <;> omega
theorem mul_sg {c : Int} (h : Q (.int (a * sg c) s.toks) { s with toks := s.toks + 1 }) : wpAny (model prog w) A (binaryOp .Mult (.int a t) (.int (sg c) u)) Q E s :=
  mul_right (sg_bounds c).1 (sg_bounds c).2 h
theorem item_gen {value slice : PySem.Expr} {l : Addr} {vs : List Value} {ns : List Int} {k : Int} (hl : s.heap.IsList l vs.toArray) (hi : IntsAre vs ns)
    (h0 : 0 ≤ k) (h1 : k < ns.length) (hfit : k < 2 ^ 63) (h : ∀ c t, Q (.int c t) s)
    (hs : subscripted slice false (.ref l) (.int k u) = operate [.ref l, .int k u] (getItem (.ref l) (.int k u)) := by with_unfolding_all rfl) :
    wpAny (model prog w) A (subscriptTail value slice (.ref l) (.int k u)) Q E s := item_anyK hl hi h0 h1 hfit (fun t => h _ t) hs
theorem ne_gen {x y : Addr} {vs : List Value} {ns : List Int} (hl : s.heap.IsList x vs.toArray) (hi : IntsAre vs ns) (hl' : s.heap.IsList y (#[] : Array Value)) (hu : A.units + 64 < cLine)
    (h1 : 0 < ns.length → Q (.bool true) s) (h2 : ns.length = 0 → Q (.bool false) s) : wpAny (model prog w) A (compareOp .NotEq (.ref x) (.ref y)) Q E s := by
  refine ne_intsK hl hi (us := []) (ms := []) hl' IntsAre.nil hu ?_
  cases ns with
  | nil => simpa using h2 rfl
  | cons n r => simpa using h1 (by simp)
theorem gt_false (h : a ≤ b) (hq : Q (.bool false) s) : wpAny (model prog w) A (compareOp .Gt (.int a t) (.int b u)) Q E s := by
  refine gt_int ?_
  have e : decide (a > b) = false := decide_eq_false (by omega)
  rw [e]
  exact hq
theorem ge_true (h : b ≤ a) (hq : Q (.bool true) s) : wpAny (model prog w) A (compareOp .GtE (.int a t) (.int b u)) Q E s := by
  refine ge_int ?_
  have e : decide (a ≥ b) = true := decide_eq_true h
  rw [e]
  exact hq
theorem mul_cp {a1 a2 a3 a4 : Int} (h : Q (.int (a * cp a1 a2 a3 a4) s.toks) { s with toks := s.toks + 1 }) : wpAny (model prog w) A (binaryOp .Mult (.int a t) (.int (cp a1 a2 a3 a4) u)) Q E s :=
  mul_right (sg_bounds _).1 (sg_bounds _).2 h
theorem ne_bool_false {c d : Bool} (e : c = d) (h : Q (.bool false) s) : wpAny (model prog w) A (compareOp .NotEq (.bool c) (.bool d)) Q E s := by
  subst e
  refine ne_bool ?_
  have e : (c != c) = false := by simp
  rw [e]
  exact h
/-- the end of a test that is false and leaves the ledger as it was -/
def TestEnd (s : Shared) (h₀ : Heap) (L : Addr) (m : Str → Option Value) (news : List (Addr × Obj)) (b : Bool) (s₂ : Shared) : Prop :=
  b = false ∧ ∃ (h' : Heap) (tk : Nat), s₂ = { s with heap := h', toks := tk } ∧ Fr h₀ L h' m ∧ News h₀ L h' news
theorem if_false {M : Model} {env : Env} {test : PySem.Expr} {body : List Stmt} {pos : Pos} {h₀ : Heap} {L : Addr} {m : Str → Option Value} {news : List (Addr × Obj)} {Q : Flow → Shared → Prop} (_F : Fr h₀ L s.heap m) (_N : News h₀ L s.heap news)
    (h : wpAny M A (isTrue test env (eval test env)) (TestEnd s h₀ L m news) E s)
    (k : ∀ h' tk, Fr h₀ L h' m → News h₀ L h' news → Q .next { s with heap := h', toks := tk }) : wpAny M A (exec (.If test body [] pos) env) Q E s := by
  refine wpAny_If (wpAny_mono h (fun b s₂ hb => ?_) fun _ _ x => x)
  obtain ⟨rfl, h', tk, rfl, F', N'⟩ := hb
  simp only [Bool.false_eq_true]
  exact wpAny_execs_nil (k h' tk F' N')
theorem callWith_0 {K : Frag} {M : Model} {env : Env} {pos : Pos} {f : Value} {first : List Value} {h₀ : Heap} {L : Addr} {m : Str → Option Value} (F : Fr h₀ L s.heap m) (X₀ : K.In h₀) (hk : keepIn K f = true)
    (h : wpAny M A (call f first) Q E s) : wpAny M A (callWith pos f first (backTo pos (starEach [] env)) []) Q E s :=
  callWith_K0 (X₀.keeps F.keep) hk (by rw [List.append_nil]; exact h)
theorem told_same {x y : Addr} {a1 b1 a2 b2 : Int} {t1 t2 t3 t4 : Tok} (hx : IsTup s.heap x #[Value.int a1 t1, Value.int b1 t2]) (hy : IsTup s.heap y #[Value.int a2 t3, Value.int b2 t4]) (e1 : a1 = a2) (e2 : b1 = b2) (hu : A.units + 64 < cLine)
    (h : Q (.bool false) s) : wpAny (model prog w) A (compareOp .NotEq (.ref x) (.ref y)) Q E s := by
  subst e1 e2
  obtain ⟨o, ho, hc, n, hd⟩ := hx
  obtain ⟨o', ho', hc', n', hd'⟩ := hy
  refine ne_dataH (da := .tuple [.int a1, .int b1]) (db := .tuple [.int a1, .int b1]) (reads_tuple_at ho hc hd (.cons (.int _ _) (.cons (.int _ _) .nil))) (reads_tuple_at ho' hc' hd' (.cons (.int _ _) (.cons (.int _ _) .nil))) (by rfl) (by rfl) hu ?_
  have e : PyData.eqv (.tuple [.int a1, .int b1]) (.tuple [.int a1, .int b1]) = true := by simp [PyData.eqv, PyData.eqvAll]
  rw [e]
  exact h
theorem max_gen {h₀ : Heap} {L : Addr} {m : Str → Option Value} {news : List (Addr × Obj)} (hh : A.handled = none) (F : Fr h₀ L s.heap m) (N : News h₀ L s.heap news)
    (h : ∀ v h' tk, Fr h₀ L h' m → News h₀ L h' news → Q (.int (max a b) v) { s with heap := h', toks := tk }) :
    wpAny (model prog w) A (call (.builtin "max") [.int a t, .int b u]) Q E s :=
  max_two_N hh F N fun h' tk F' N' => by
    have e : (if b > a then b else a) = max a b := by split <;> omega
    rw [e]
    exact h _ h' tk F' N'
end
end Mine

namespace Mine

local macro_rules | `(tactic| k_all) => `(tactic| assumption)
local macro_rules | `(tactic| units_room) => `(tactic| ktr_units)
local macro_rules | `(tactic| walk_at "binaryOp Mod int int") => `(tactic| (k_here; (with_reducible refine mod_gen (by omega) ?_); intro r' r0' r1'))
local macro_rules | `(tactic| walk_at "binaryOp FloorDiv int int") => `(tactic| (k_here; (with_reducible refine div_gen (by omega) (by omega) (by omega) ?_); intro r' r0'))
local macro_rules | `(tactic| walk_at "binaryOp Mult int int") => `(tactic| (k_here; first | (with_reducible refine mul_lit (by decide) ?_) | ((with_reducible refine mul_gen (by omega) (by omega) (by omega) (by omega) ?_); intro r' r0' r1')))
local macro_rules | `(tactic| walk_at "binaryOp Pow int int") => `(tactic| (k_here; first | (with_reducible refine pow_18 ?_) | ((with_reducible refine pow_gen (by decide) (by decide) (by omega) ?_); intro r')))
local macro_rules | `(tactic| walk_at "call builtin:abs") => `(tactic| (k_here; (with_reducible refine abs_gen ?_); intro u' tk'))
local macro_rules | `(tactic| walk_at "compareOp NotEq ref ref") => `(tactic| (k_here; (with_unfolding_all refine' ne_gen ?k1 ?k2 ?k3 ?k4 ?_ ?_; (case k1 => is_list); (case k2 => l_ints); (case k3 => is_list); (case k4 => ktr_units)) <;> intro len'))
local macro_rules | `(tactic| walk_at "subscriptTail") => `(tactic| (k_here; (with_reducible show wpAny _ _ (subscriptTail _ _ (Value.ref _) (Value.int _ _)) _ _ _); (with_unfolding_all refine' item_gen ?k1 ?k2 ?k3 ?k4 ?k5 ?_ ?k6; (case k1 => is_list); (case k2 => l_ints); (case k3 => omega); (case k4 => omega); (case k5 => omega); (case k6 => with_unfolding_all rfl); k_whole); intro c' t'))

set_option maxHeartbeats 4000000 in
theorem draw_ok (w : World) (l D : Addr) (a b : Int) (ta tb : Tok) (ys : List Value) (ns : List Int) (rest : List (Addr × Obj)) (many : Int) (t : Tok)
    (hD : D ≠ l) (hr : ∀ p ∈ rest, p.1 ≠ l) (hI : IntsAre ys ns) (hn : ns.length ≤ 63) (ha0 : 0 ≤ a) (ha : a ≤ 60) (hb : 0 ≤ b) (hm0 : 1 ≤ many) (hm : many ≤ 10000000) :
    Does w 187 [.ref l, .int many t] 2 ((l, W.listOf #[Value.ref D, Value.int a ta, Value.int b tb] 0) :: (D, LCg.lst ys) :: rest)
      (fun K => ∀ (d a' b' : Int) (t' ta' tb' : Tok), 0 ≤ d → d < many → 0 ≤ a' → a' ≤ a + 1 → 0 ≤ b' → K (.int d t') ((l, W.listOf #[Value.ref D, Value.int a' ta', Value.int b' tb'] 0) :: (D, LCg.lst ys) :: rest)) := by
  unfold Does
  k_fill
  intro mean mg mb dp un gd cn cs aa ccd cl outer A₀ base h₀ L m s Q E B F X N T hk hdp hun hret
  refine wpAny_call ?_
  k_dflt cell_enter
  k_steps
  all_goals (refine' hret _ _ _ _ _ _ ?h1 ?h2 ?h3 ?h4 ?h5 _ _ ?hF ?hN; (case hN => first | k_asm | exact news_tail (by k_asm)); (case hF => k_asm); (case h1 => omega); (case h2 => omega); (case h3 => omega); (case h4 => omega); (case h5 => omega))
end Mine

namespace Mine

local macro_rules | `(tactic| k_all) => `(tactic| assumption)
local macro_rules | `(tactic| units_room) => `(tactic| ktr_units)
local macro_rules | `(tactic| k_room) => `(tactic| ktr_room)

set_option maxHeartbeats 4000000 in
theorem sign_ok (w : World) (a : Int) (t : Tok) (news : List (Addr × Obj)) :
    Does w 154 [.int a t] 1 news (fun K => ∀ (u : Tok), K (.int (sg a) u) news) := by
  unfold Does
  k_fill
  intro mean mg mb dp un gd cn cs aa ccd cl outer A₀ base h₀ L m s Q E B F X N T hk hdp hun hret
  refine wpAny_call ?_
  k_dflt cell_enter
  k_steps
  all_goals (
    (first
      | ((have e : a = 0 := by omega); subst e; exact hret _ _ _ (by k_asm) (by k_asm))
      | ((have e : sg a = 1 := sg_pos (by omega)); rw [e] at hret; exact hret _ _ _ (by k_asm) (by k_asm))
      | ((have e : sg a = -1 := sg_minus (by omega)); rw [e] at hret; exact hret _ _ _ (by k_asm) (by k_asm))))

local macro_rules | `(tactic| walk_at "call ref") => `(tactic| (k_here; (with_reducible show wpAny _ _ (PySem.call (Value.ref 154) [Value.int _ _]) _ _ _); k_dflt (refine' Does.use ?k1 ?k2 ?k3 ?k4 ?k5 ?kK (sign_ok _ _ _ _) ?kd ?ku ?_; (case k1 => k_asm); (case k2 => k_asm); (case k3 => k_asm); (case k4 => k_asm); (case k5 => k_asm); (case kK => first | exact rfl | assumption); (case kd => ktr_room); (case ku => ktr_units)); intro u9 h9 tk9 F9 N9; (try dsimp only); (try k_fold)))
local macro_rules | `(tactic| walk_at "eval Call") => `(tactic| (k_here; (with_reducible show wpAny _ _ (eval (Expr.Call (Expr.Name (PySem.Str.ofString "sign_of") _) _ _ _) _) _ _ _); k_dflt (refine Call_ ?_)))
local macro_rules | `(tactic| walk_at "call builtin:abs") => `(tactic| (k_here; (with_reducible refine abs_gen ?_); intro u' tk'))
local macro_rules | `(tactic| walk_at "binaryOp Mult int int") => `(tactic| (k_here; first | (with_reducible refine mul_lit (by decide) ?_) | (with_reducible refine mul_sg ?_)))

set_option maxHeartbeats 4000000 in
theorem rq_ok (w : World) (a b : Int) (t u : Tok) (news : List (Addr × Obj)) (hb : 0 < b) (hb2 : b ≤ 10000000) :
    Does w 161 [.int a t, .int b u] 2 news (fun K => ∀ (u : Tok), K (.int (rq a b) u) news) := by
  unfold Does
  k_fill
  intro mean mg mb dp un gd cn cs aa ccd cl outer A₀ base h₀ L m s Q E B F X N T hk hdp hun hret
  refine wpAny_call ?_
  k_dflt cell_enter
  k_steps
  all_goals exact hret _ _ _ (by k_asm) (by k_asm)
end Mine

namespace Mine

/-- on the way: what the loop of __init__ keeps -/
def Way (top places t p : Int) : Prop := 0 ≤ p ∧ nT t p = nT top places ∧ nP t p = nP top places
theorem way_start {top places : Int} (h : 0 ≤ places) : Way top places top places := ⟨h, rfl, rfl⟩
theorem way_step {top places t p : Int} (h : Way top places t p) (hp : 0 < p) (hm : t.fmod 10 = 0) : Way top places (t.fdiv 10) (p - 1) := by
  obtain ⟨_, h1, h2⟩ := h
  obtain ⟨e1, e2⟩ := n_step hp hm
  exact ⟨by omega, e1.trans h1, e2.trans h2⟩
theorem way_end {top places t p : Int} (h : Way top places t p) (hl : ¬ 0 < p ∨ t.fmod 10 ≠ 0) : t = nT top places ∧ p = nP top places := by
  obtain ⟨h0, h1, h2⟩ := h
  have hl' : Low t p := hl.imp (fun x => by omega) id
  obtain ⟨e1, e2⟩ := n_low h0 hl'
  exact ⟨e1.symm.trans h1, e2.symm.trans h2⟩

local macro_rules | `(tactic| k_all) => `(tactic| assumption)
local macro_rules | `(tactic| units_room) => `(tactic| ktr_units)

set_option maxHeartbeats 4000000 in
theorem dec_ok (w : World) (top places : Int) (t u : Tok) (news : List (Addr × Obj)) (hp : 0 ≤ places) :
    Does w 143 [.int top t, .int places u] 2 news (fun K => ∀ (x dx : Addr) (k1 k2 u1 u2 : Tok), (∀ p ∈ news, p.1 < dx) → dx < x →
      K (.ref x) ((x, instObj 143 dx) :: (dx, decD w.params k1 k2 (nT top places) u1 (nP top places) u2) :: news)) := by
  unfold Does
  k_fill
  intro mean mg mb dp un gd cn cs aa ccd cl outer A₀ base h₀ L m s Q E B F X N T hk hdp hun hret
  k_with "exec While BoolOp" => k_while (fun _ t p => Way top places t p) (fun _ _ p => p.toNat) "top" "places"
  k_with "state" => first | exact way_start (by assumption) | exact way_step (by assumption) (by omega) (by omega)
  k_dflt (refine' call_cls ?k1 ?k2 ?k3 ?k4 ?k5 ?k6 ?_; (case k1 => k_asm); (case k2 => k_asm); (case k3 => k_asm); (case k4 => k_is); (case k5 => k_is); (case k6 => k_is); k_whole; intro x' d' h' F' N' l1 l2; (try k_lt l1); (try k_lt2 l2); (try k_sweep))
  k_dflt cell_enter
  k_steps
  all_goals (
    (with_reducible rename Way _ _ _ _ => hW)
    (first
      | ((with_reducible rename ¬ (0 : Int) < _ => hl); obtain ⟨e1, e2⟩ := way_end hW (.inl hl))
      | ((with_reducible rename Int.fmod _ 10 ≠ 0 => hl); obtain ⟨e1, e2⟩ := way_end hW (.inr hl)))
    subst e1 e2
    (refine' hret _ _ _ _ _ _ ?h1 ?h2 _ _ ?hF ?hN; (case hN => k_asm); (case hF => k_asm); (case h1 => assumption); (case h2 => assumption)))
end Mine

namespace Mine

theorem news_two {h₀ h : Heap} {L x dx : Addr} {a b : Obj} {news : List (Addr × Obj)} (N : News h₀ L h news) (hx : (x, a) ∈ news) (hd : (dx, b) ∈ news) : News h₀ L h ((x, a) :: (dx, b) :: news) := fun q hq => by
  rcases List.mem_cons.mp hq with rfl | hq
  · exact N _ hx
  · rcases List.mem_cons.mp hq with rfl | hq
    · exact N _ hd
    · exact N _ hq

local macro_rules | `(tactic| k_all) => `(tactic| assumption)
local macro_rules | `(tactic| units_room) => `(tactic| ktr_units)
local macro_rules | `(tactic| k_room) => `(tactic| ktr_room)
local macro_rules | `(tactic| walk_at "call ref") => `(tactic| (k_here; (with_reducible show wpAny _ _ (PySem.call (Value.ref 154) [Value.int _ _]) _ _ _); k_dflt (refine' Does.use ?k1 ?k2 ?k3 ?k4 ?k5 ?kK (sign_ok _ _ _ _) ?kd ?ku ?_; (case k1 => k_asm); (case k2 => k_asm); (case k3 => k_asm); (case k4 => k_asm); (case k5 => k_asm); (case kK => first | exact rfl | assumption); (case kd => ktr_room); (case ku => ktr_units)); intro u9 h9 tk9 F9 N9; (try dsimp only); (try k_fold)))
local macro_rules | `(tactic| walk_at "call ref") => `(tactic| (k_here; (with_reducible show wpAny _ _ (PySem.call (Value.ref 161) [Value.int _ _, Value.int _ _]) _ _ _); k_dflt (refine' Does.use ?k1 ?k2 ?k3 ?k4 ?k5 ?kK (rq_ok _ _ _ _ _ _ ?b1 ?b2) ?kd ?ku ?_; (case k1 => k_asm); (case k2 => k_asm); (case k3 => k_asm); (case k4 => k_asm); (case k5 => k_asm); (case kK => first | exact rfl | assumption); (case b1 => omega); (case b2 => omega); (case kd => ktr_room); (case ku => ktr_units)); intro u9 h9 tk9 F9 N9; (try dsimp only); (try k_fold)))
local macro_rules | `(tactic| walk_at "call ref") => `(tactic| (k_here; (with_reducible show wpAny _ _ (PySem.call (Value.ref 143) [Value.int _ _, Value.int _ _]) _ _ _); k_dflt (refine' Does.use ?k1 ?k2 ?k3 ?k4 ?k5 ?kK (dec_ok _ _ _ _ _ _ ?b1) ?kd ?ku ?_; (case k1 => k_asm); (case k2 => k_asm); (case k3 => k_asm); (case k4 => k_asm); (case k5 => k_asm); (case kK => first | exact rfl | assumption); (case b1 => omega); (case kd => ktr_room); (case ku => ktr_units)); intro x9 dx9 k19 k29 u19 u29 l1 l2 h9 tk9 F9 N9; (try dsimp only); (try k_fold)))
local macro_rules | `(tactic| walk_at "eval Call") => `(tactic| (k_here; (with_reducible show wpAny _ _ (eval (Expr.Call (Expr.Name _ _) _ _ _) _) _ _ _); k_dflt (refine Call_ ?_)))
local macro_rules | `(tactic| walk_at "call builtin:abs") => `(tactic| (k_here; (with_reducible refine abs_gen ?_); intro u' tk'))
local macro_rules | `(tactic| walk_at "call builtin:max") => `(tactic| (k_here; (with_unfolding_all refine' max_gen ?k1 ?k2 ?k3 ?_; (case k1 => with_unfolding_all rfl); (case k2 => k_asm); (case k3 => k_asm)); intro u' h' tk' F' N'))
local macro_rules | `(tactic| walk_at "binaryOp Mult int int") => `(tactic| (k_here; first | (with_reducible refine mul_lit (by decide) ?_) | (with_reducible refine mul_sg ?_) | (with_reducible refine mul_right (by omega) (by omega) ?_)))
local macro_rules | `(tactic| walk_at "binaryOp Pow int int") => `(tactic| (k_here; (with_reducible refine pow10 (by omega) (by omega) ?_); intro q1' q2' q3'; (try (replace q3' := q3' (by omega)))))

set_option maxHeartbeats 4000000 in
theorem units_ok (w : World) (x dx : Addr) (k1 k2 : Tok) (t : Int) (u1 : Tok) (p : Int) (u2 : Tok) (news : List (Addr × Obj)) (hx : (x, instObj 143 dx) ∈ news) (hdx : (dx, decD w.params k1 k2 t u1 p u2) ∈ news) (tk : Tok) (h0 : 0 ≤ p) (h9 : p ≤ 9) :
    Does w 201 [.ref x, .int 9 tk] 1 news (fun K => ∀ (u : Tok), K (.int (UU t p) u) news) := by
  unfold Does
  k_fill
  intro mean mg mb dp un gd cn cs aa ccd cl outer A₀ base h₀ L m s Q E B F X N T hk hdp hun hret
  refine wpAny_call ?_
  k_dflt cell_enter
  k_steps
  all_goals exact hret _ _ _ (by k_asm) (by k_asm)

set_option maxHeartbeats 4000000 in
theorem negated_ok (w : World) (x dx : Addr) (k1 k2 : Tok) (t : Int) (u1 : Tok) (p : Int) (u2 : Tok) (news : List (Addr × Obj)) (hx : (x, instObj 143 dx) ∈ news) (hdx : (dx, decD w.params k1 k2 t u1 p u2) ∈ news) (h0 : 0 ≤ p) (t' p' : Int) (ht : nT (-t) p = t') (hp' : nP (-t) p = p') :
    Does w 91 [.ref x] 4 news (fun K => ∀ (y dy : Addr) (k1' k2' u1' u2' : Tok), (∀ q ∈ news, q.1 < dy) → dy < y → K (.ref y) ((y, instObj 143 dy) :: (dy, decD w.params k1' k2' t' u1' p' u2') :: news)) := by
  subst ht hp'
  unfold Does
  k_fill
  intro mean mg mb dp un gd cn cs aa ccd cl outer A₀ base h₀ L m s Q E B F X N T hk hdp hun hret
  refine wpAny_call ?_
  k_dflt cell_enter
  k_steps
  all_goals (refine' hret _ _ _ _ _ _ ?h1 ?h2 _ _ ?hF ?hN; (case hN => k_asm); (case hF => k_asm); (case h1 => assumption); (case h2 => assumption))

set_option maxHeartbeats 4000000 in
theorem rounded_ok (w : World) (x dx : Addr) (k1 k2 : Tok) (t : Int) (u1 : Tok) (p : Int) (u2 : Tok) (news : List (Addr × Obj)) (hx : (x, instObj 143 dx) ∈ news) (hdx : (dx, decD w.params k1 k2 t u1 p u2) ∈ news) (mm : Int) (tm : Tok) (h0 : 0 ≤ p) (h7 : p ≤ 7) (hm0 : 0 ≤ mm) :
    Does w 119 [.ref x, .int mm tm] 5 news (fun K => ∀ (y dy : Addr) (k1' k2' u1' u2' : Tok), 0 ≤ rP t p mm → rP t p mm ≤ mm → K (.ref y) ((y, instObj 143 dy) :: (dy, decD w.params k1' k2' (rT t p mm) u1' (rP t p mm) u2') :: news)) := by
  unfold Does
  k_fill
  intro mean mg mb dp un gd cn cs aa ccd cl outer A₀ base h₀ L m s Q E B F X N T hk hdp hun hret
  refine wpAny_call ?_
  k_dflt cell_enter
  k_steps
  · (with_reducible rename p ≤ mm => hle)
    rw [rT_le hle, rP_le hle] at hret
    exact hret x dx k1 k2 u1 u2 h0 hle _ _ (by k_asm) (news_two (by k_asm) hx hdx)
  · (with_reducible rename ¬ p ≤ mm => hle)
    rw [rT_gt hle, rP_gt hle] at hret
    exact hret _ _ _ _ _ _ (nP_nonneg _ _) (nP_le hm0) _ _ (by k_asm) (by k_asm)

set_option maxHeartbeats 4000000 in
theorem compared_ok (w : World) (x dx : Addr) (k1 k2 : Tok) (t : Int) (u1 : Tok) (p : Int) (u2 : Tok) (news : List (Addr × Obj)) (hx : (x, instObj 143 dx) ∈ news) (hdx : (dx, decD w.params k1 k2 t u1 p u2) ∈ news) (y dy : Addr) (k3 k4 : Tok) (t2 : Int) (u3 : Tok) (p2 : Int) (u4 : Tok) (hy : (y, instObj 143 dy) ∈ news) (hdy : (dy, decD w.params k3 k4 t2 u3 p2 u4) ∈ news) (h0 : 0 ≤ p) (h7 : p ≤ 9) (h02 : 0 ≤ p2) (h72 : p2 ≤ 9) :
    Does w 98 [.ref x, .ref y] 5 news (fun K => ∀ (u : Tok), K (.int (cp t p t2 p2) u) news) := by
  unfold Does
  k_fill
  intro mean mg mb dp un gd cn cs aa ccd cl outer A₀ base h₀ L m s Q E B F X N T hk hdp hun hret
  refine wpAny_call ?_
  k_dflt cell_enter
  k_steps
  all_goals exact hret _ _ _ (by k_asm) (by first | k_asm | exact news_tail (by k_asm))
end Mine

namespace Mine

theorem news_mid {h₀ h : Heap} {L : Addr} {a b c d : Addr × Obj} {news : List (Addr × Obj)} (N : News h₀ L h (a :: b :: c :: d :: news)) : News h₀ L h (c :: d :: a :: b :: news) := fun q hq => by
  refine N q ?_
  simp only [List.mem_cons] at hq ⊢
  rcases hq with h | h | h | h | h
  · exact .inr (.inr (.inl h))
  · exact .inr (.inr (.inr (.inl h)))
  · exact .inl h
  · exact .inr (.inl h)
  · exact .inr (.inr (.inr (.inr h)))
theorem lt_one {l D dx : Addr} {o o' : Obj} {rest : List (Addr × Obj)} (h : ∀ p ∈ (l, o) :: (D, o') :: rest, p.1 < dx) : l < dx := h _ (.head _)
theorem lt_two {l D dx : Addr} {o o' : Obj} {rest : List (Addr × Obj)} (h : ∀ p ∈ (l, o) :: (D, o') :: rest, p.1 < dx) : D < dx := h _ (.tail _ (.head _))
theorem lt_more {l D dx : Addr} {o o' : Obj} {rest : List (Addr × Obj)} (h : ∀ p ∈ (l, o) :: (D, o') :: rest, p.1 < dx) : ∀ p ∈ rest, p.1 < dx := fun p hp => h p (.tail _ (.tail _ hp))
local macro_rules | `(tactic| k_all) => `(tactic| assumption)
local macro_rules | `(tactic| units_room) => `(tactic| ktr_units)
local macro_rules | `(tactic| k_room) => `(tactic| ktr_room)
local macro_rules | `(tactic| walk_at "call ref") => `(tactic| (k_here; (with_reducible show wpAny _ _ (PySem.call (Value.ref 187) [Value.ref _, Value.int _ _]) _ _ _); k_dflt (refine' Does.use ?k1 ?k2 ?k3 ?k4 ?k5 ?kK (draw_ok _ _ _ _ _ _ _ _ _ _ _ _ ?b1 ?b2 ?b3 ?b4 ?b5 ?b6 ?b7 ?b8 ?b9) ?kd ?ku ?_; (case k1 => k_asm); (case k2 => k_asm); (case k3 => k_asm); (case k4 => k_asm); (case k5 => k_asm); (case kK => first | exact rfl | assumption); (case b1 => assumption); (case b2 => assumption); (case b3 => assumption); (case b4 => assumption); (case b5 => omega); (case b6 => omega); (case b7 => omega); (case b8 => omega); (case b9 => omega); (case kd => ktr_room); (case ku => ktr_units)); intro d9 a9 b9 t9 ta9 tb9 d0' d1' a0' a1' b0' h9 tk9 F9 N9; (try dsimp only); (try k_fold)))
local macro_rules | `(tactic| walk_at "call ref") => `(tactic| (k_here; (with_reducible show wpAny _ _ (PySem.call (Value.ref 143) [Value.int _ _, Value.int _ _]) _ _ _); k_dflt (refine' Does.use ?k1 ?k2 ?k3 ?k4 ?k5 ?kK (dec_ok _ _ _ _ _ _ ?b1) ?kd ?ku ?_; (case k1 => k_asm); (case k2 => k_asm); (case k3 => k_asm); (case k4 => k_asm); (case k5 => k_asm); (case kK => first | exact rfl | assumption); (case b1 => omega); (case kd => ktr_room); (case ku => ktr_units)); intro x9 dx9 k19 k29 u19 u29 l1 l2 h9 tk9 F9 N9; (try dsimp only); (try k_fold)))
local macro_rules | `(tactic| walk_at "eval Call") => `(tactic| (k_here; (with_reducible show wpAny _ _ (eval (Expr.Call (Expr.Name _ _) _ _ _) _) _ _ _); k_dflt (refine Call_ ?_)))
local macro_rules | `(tactic| walk_at "binaryOp Mult int int") => `(tactic| (k_here; (with_reducible refine mul_lit (by decide) ?_)))
local macro_rules | `(tactic| walk_at "binaryOp Mod int int") => `(tactic| (k_here; (with_reducible refine mod_gen (by omega) ?_); intro r' r0' r1'))
local macro_rules | `(tactic| walk_at "binaryOp Pow int int") => `(tactic| (k_here; (with_reducible refine pow10 (by omega) (by omega) ?_); intro q1' q2' q3'; (try (replace q3' := q3' (by omega)))))

set_option maxHeartbeats 4000000 in
theorem drawn_ok (w : World) (l D : Addr) (a b : Int) (ta tb : Tok) (ys : List Value) (ns : List Int) (rest : List (Addr × Obj))
    (hD : D ≠ l) (hr : ∀ p ∈ rest, p.1 ≠ l) (hI : IntsAre ys ns) (hn : ns.length ≤ 63) (ha0 : 0 ≤ a) (ha : a ≤ 40) (hb : 0 ≤ b) :
    Does w 194 [.ref l] 6 ((l, W.listOf #[Value.ref D, Value.int a ta, Value.int b tb] 0) :: (D, LCg.lst ys) :: rest)
      (fun K => ∀ (x dx : Addr) (k1 k2 u1 u2 : Tok) (t p a' b' : Int) (ta' tb' : Tok), 0 ≤ p → p ≤ 7 → Low t p → 0 ≤ a' → a' ≤ a + 6 → 0 ≤ b' → l < dx → D < dx → (∀ q ∈ rest, q.1 < dx) → dx < x →
        K (.ref x) ((l, W.listOf #[Value.ref D, Value.int a' ta', Value.int b' tb'] 0) :: (D, LCg.lst ys) :: (x, instObj 143 dx) :: (dx, decD w.params k1 k2 t u1 p u2) :: rest)) := by
  unfold Does
  k_fill
  intro mean mg mb dp un gd cn cs aa ccd cl outer A₀ base h₀ L m s Q E B F X N T hk hdp hun hret
  refine wpAny_call ?_
  k_dflt cell_enter
  k_steps
  all_goals (refine' hret _ _ _ _ _ _ _ _ _ _ _ _ ?p0 ?p7 ?lo ?a0 ?a1 ?b0 ?x1 ?x2 ?x3 ?x4 _ _ ?hF ?hN; (case hN => exact news_mid (by k_asm)); (case hF => k_asm); (case p0 => exact nP_nonneg _ _); (case p7 => exact Int.le_trans (nP_le (by omega)) (by omega)); (case lo => exact n_is_low _ _); (case a0 => omega); (case a1 => omega); (case b0 => omega); (case x1 => exact lt_one (by assumption)); (case x2 => exact lt_two (by assumption)); (case x3 => exact lt_more (by assumption)); (case x4 => assumption))
end Mine

open Mine
local macro_rules | `(tactic| walk_at "call ref") => `(tactic| (k_here; (with_reducible show wpAny _ _ (PySem.call (Value.ref 187) [Value.ref _, Value.int _ _]) _ _ _); k_dflt (refine' Does.use ?k1 ?k2 ?k3 ?k4 ?k5 ?kK (draw_ok _ _ _ _ _ _ _ _ _ _ _ _ ?b1 ?b2 ?b3 ?b4 ?b5 ?b6 ?b7 ?b8 ?b9) ?kd ?ku ?_; (case k1 => k_asm); (case k2 => k_asm); (case k3 => k_asm); (case k4 => first | k_asm | exact news_tail (by k_asm) | exact news_tail (news_tail (by k_asm)) | exact news_tail (news_tail (news_tail (by k_asm)))); (case k5 => k_asm); (case kK => first | exact rfl | assumption); (case b1 => k_ne); (case b2 => k_all); (case b3 => l_ints); (case b4 => (simp only [List.length_map, List.length_take]; omega)); (case b5 => omega); (case b6 => omega); (case b7 => omega); (case b8 => omega); (case b9 => omega); (case kd => ktr_room); (case ku => ktr_units)); intro d9 a9 b9 t9 ta9 tb9 d0' d1' a0' a1' b0' h9 tk9 F9 N9; (try dsimp only); (try k_fold)))
local macro_rules | `(tactic| walk_at "call ref") => `(tactic| (k_here; (with_reducible show wpAny _ _ (PySem.call (Value.ref 194) [Value.ref _]) _ _ _); k_dflt (refine' Does.use ?k1 ?k2 ?k3 ?k4 ?k5 ?kK (drawn_ok _ _ _ _ _ _ _ _ _ _ ?b1 ?b2 ?b3 ?b4 ?b5 ?b6 ?b7) ?kd ?ku ?_; (case k1 => k_asm); (case k2 => k_asm); (case k3 => k_asm); (case k4 => first | k_asm | exact news_tail (by k_asm) | exact news_tail (news_tail (by k_asm)) | exact news_tail (news_tail (news_tail (by k_asm)))); (case k5 => k_asm); (case kK => first | exact rfl | assumption); (case b1 => k_ne); (case b2 => k_all); (case b3 => l_ints); (case b4 => (simp only [List.length_map, List.length_take]; omega)); (case b5 => omega); (case b6 => omega); (case b7 => omega); (case kd => ktr_room); (case ku => ktr_units)); intro x9 dx9 k19 k29 u19 u29 t9 p9 a9 b9 ta9 tb9 p0' p7' lo' a0' a1' b0' x1' x2' x3' x4' h9 tk9 F9 N9; (try k_lt x3'); (try k_lt2 x1'); (try k_lt2 x2'); (try k_lt2 x4'); (try dsimp only); (try k_fold)))
local macro_rules | `(tactic| walk_at "call ref") => `(tactic| (k_here; (with_reducible show wpAny _ _ (PySem.call (Value.ref 119) [Value.ref _, Value.int _ _]) _ _ _); k_dflt (refine' Does.use ?k1 ?k2 ?k3 ?k4 ?k5 ?kK (rounded_ok _ _ _ _ _ _ _ _ _ _ ?x1 ?x2 _ _ ?b1 ?b2 ?b3) ?kd ?ku ?_; (case k1 => k_asm); (case k2 => k_asm); (case k3 => k_asm); (case k4 => k_asm); (case k5 => k_asm); (case kK => first | exact rfl | assumption); (case x1 => k_mem); (case x2 => k_mem); (case b1 => omega); (case b2 => omega); (case b3 => omega); (case kd => ktr_room); (case ku => ktr_units)); intro y9 dy9 k19 k29 u19 u29 r0' rm' h9 tk9 F9 N9; (try dsimp only); (try k_fold)))
local macro_rules | `(tactic| walk_at "call ref") => `(tactic| (k_here; (with_reducible show wpAny _ _ (PySem.call (Value.ref 91) [Value.ref _]) _ _ _); k_dflt (refine' Does.use ?k1 ?k2 ?k3 ?k4 ?k5 ?kK (negated_ok _ _ _ _ _ _ _ _ _ _ ?x1 ?x2 ?b1 _ _ ?b2 ?b3) ?kd ?ku ?_; (case k1 => k_asm); (case k2 => k_asm); (case k3 => k_asm); (case k4 => k_asm); (case k5 => k_asm); (case kK => first | exact rfl | assumption); (case x1 => k_mem); (case x2 => k_mem); (case b1 => omega); (case b2 => (refine' neg_one ?c1 ?c2; (case c1 => omega); (case c2 => first | with_reducible assumption | (refine' r_low ?c3; (case c3 => with_reducible assumption))))); (case b3 => (refine' neg_two ?c1 ?c2; (case c1 => omega); (case c2 => first | with_reducible assumption | (refine' r_low ?c3; (case c3 => with_reducible assumption))))); (case kd => ktr_room); (case ku => ktr_units)); intro y9 dy9 k19 k29 u19 u29 l1' l2' h9 tk9 F9 N9; clear l1' l2'; (try dsimp only); (try k_fold)))
local macro_rules | `(tactic| walk_at "call ref") => `(tactic| (k_here; (with_reducible show wpAny _ _ (PySem.call (Value.ref 98) [Value.ref _, Value.ref _]) _ _ _); k_dflt (refine' Does.use ?k1 ?k2 ?k3 ?k4 ?k5 ?kK (compared_ok _ _ _ _ _ _ _ _ _ _ ?x1 ?x2 _ _ _ _ _ _ _ _ ?x3 ?x4 ?b1 ?b2 ?b3 ?b4) ?kd ?ku ?_; (case k1 => k_asm); (case k2 => k_asm); (case k3 => k_asm); (case k4 => k_asm); (case k5 => k_asm); (case kK => first | exact rfl | assumption); (case x1 => k_mem); (case x2 => k_mem); (case x3 => k_mem); (case x4 => k_mem); (case b1 => omega); (case b2 => omega); (case b3 => omega); (case b4 => omega); (case kd => ktr_room); (case ku => ktr_units)); intro u9 h9 tk9 F9 N9; (try dsimp only); (try k_fold)))
local macro_rules | `(tactic| walk_at "call ref") => `(tactic| (k_here; (with_reducible show wpAny _ _ (PySem.call (Value.ref 201) [Value.ref _, Value.int 9 _]) _ _ _); k_dflt (refine' Does.use ?k1 ?k2 ?k3 ?k4 ?k5 ?kK (units_ok _ _ _ _ _ _ _ _ _ _ ?x1 ?x2 _ ?b1 ?b2) ?kd ?ku ?_; (case k1 => k_asm); (case k2 => k_asm); (case k3 => k_asm); (case k4 => k_asm); (case k5 => k_asm); (case kK => first | exact rfl | assumption); (case x1 => k_mem); (case x2 => k_mem); (case b1 => omega); (case b2 => omega); (case kd => ktr_room); (case ku => ktr_units)); intro u9 h9 tk9 F9 N9; (try dsimp only); (try k_fold)))
local macro_rules | `(tactic| walk_at "eval Call") => `(tactic| (k_here; (with_reducible show wpAny _ _ (eval (Expr.Call (Expr.Name (PySem.Str.ofString "_law_drawn") _) _ _ _) _) _ _ _); k_dflt (refine Call_ ?_)))
local macro_rules | `(tactic| walk_at "eval Call") => `(tactic| (k_here; (with_reducible show wpAny _ _ (eval (Expr.Call (Expr.Name (PySem.Str.ofString "_law_draw") _) _ _ _) _) _ _ _); k_dflt (refine Call_ ?_)))
local macro_rules | `(tactic| walk_at "eval Call") => `(tactic| (k_here; (with_reducible show wpAny _ _ (eval (Expr.Call (Expr.Name (PySem.Str.ofString "_law_units") _) _ _ _) _) _ _ _); k_dflt (refine Call_ ?_)))
local macro_rules | `(tactic| walk_at "eval Call Attribute") => `(tactic| (k_here; (with_reducible show wpAny _ _ (eval (Expr.Call (Expr.Attribute _ _ _) _ [] _) _) _ _ _); k_dflt (refine MethodCall_ ?_)))
local macro_rules | `(tactic| walk_at "call builtin:abs") => `(tactic| (k_here; (with_reducible refine abs_gen ?_); intro u' tk'; (try dsimp only)))
local macro_rules | `(tactic| walk_at "binaryOp Mult int int") => `(tactic| (k_here; first | ((with_reducible refine mul_lit (by decide) ?_); (try dsimp only)) | ((with_reducible refine mul_cp ?_); (try dsimp only))))
local macro_rules | `(tactic| walk_at "binaryOp Pow int int") => `(tactic| (k_here; (with_reducible refine pow10 (by omega) (by omega) ?_); intro q1' q2' q3'; (try (replace q3' := q3' (by omega))); (try dsimp only)))
local macro_rules | `(tactic| walk_at "compareOp Gt int int") => `(tactic| (k_here; first | ((with_reducible refine gt_false (t_near (by omega) (by omega) (by omega) (by omega)) ?_); (try dsimp only)) | ((with_reducible refine gt_false (t_two (by omega) (by omega) (by omega) (by omega) (by omega)) ?_); (try dsimp only))))
local macro_rules | `(tactic| walk_at "compareOp GtE int int") => `(tactic| (k_here; (with_reducible refine ge_true (cp_mono (by omega) (by omega) (by omega) (by omega) (by omega) (by omega)) ?_)))
local macro_rules | `(tactic| walk_at "compareOp NotEq ref ref") => `(tactic| (k_here; (with_unfolding_all refine' told_same ?k1 ?k2 ?e1 ?e2 ?ku ?_; (case k1 => exact News.isTup (by k_asm) (by k_mem)); (case k2 => exact News.isTup (by k_asm) (by k_mem)); (case e1 => first | with_reducible rfl | with_reducible exact rT_neg _ _ _ | exact rT_le (by omega)); (case e2 => first | with_reducible rfl | with_reducible exact rP_neg _ _ _ | exact rP_le (by omega)); (case ku => units_room)); (try dsimp only)))
local macro_rules | `(tactic| walk_at "compareOp NotEq bool bool") => `(tactic| (k_here; (with_reducible refine ne_bool_false (decide_eq_decide.mpr (t_tie (by omega) (by omega) (by omega) (by omega) (by with_reducible assumption))) ?_); (try dsimp only)))
local macro_rules | `(tactic| walk_at "callWith ref") => `(tactic| (k_here; k_dflt (refine' callWith_0 ?k0 ?k1 ?k2 ?_; (case k0 => k_asm); (case k1 => k_asm); (case k2 => k_is); k_whole)))
local macro_rules | `(tactic| walk_at "TestEnd") => `(tactic| (k_here; refine' ⟨rfl, _, _, rfl, ?k1, ?k2⟩; (case k1 => k_asm); (case k2 => first | k_asm | (refine' cb_drop ?k3 ?k4; (case k3 => k_asm); (case k4 => kcj_all)))))
local macro_rules | `(tactic| walk_at "exec If") => `(tactic| (k_here; (with_reducible show wpAny _ _ (exec (Stmt.If _ [Stmt.Return (some (Expr.Constant (Const.bool false) _ _)) _] [] _) _) _ _ _); k_dflt (refine' if_false ?k1 ?k2 ?k3 ?_; (case k1 => k_asm); (case k2 => k_asm); (case k3 => ((try k_fold); k_steps; done))); intro h9 tk9 F9 N9; (try dsimp only); (try k_sweep)))

set_option maxHeartbeats 8000000 in
theorem PySem.Challenge.cw_og0130_01_holds : PySem.Challenge.rw_og0130_01.Holds :=
  Mine.hd (by
    w_strict (k_go0; (all_goals try k_fold); k_steps; done))
