import PyProof.Rows.All
import Wide.All
import OpenK.AllK
import Wide.FinOn
import PyProof.MaxThree
import PyProof.Rows.RuleB_pow
import HandS.ForList
import HandS.EndBits
import HandS.Wide
import HandS.WideBits
import HandS.IsInst
import HandS.Iter
import HandS.Rev
import HandS.TupAny
import HandS.Evl
import HandS.Defaults
import PySem.Challenge.RW_hydrahouse_k56_rows_by_whole_numbers
/-! Hydrahouse, the mathematics of rows of growing bases, in plain Lean: no program in sight. -/
namespace HH

/-- a number: first part's exponent and times, and the parts behind -/
inductive T where
  | nil : T
  | cons (e : T) (c : Nat) (r : T) : T

/-- the worth at a base -/
def val (B : Nat) : T → Nat
  | .nil => 0
  | .cons e c r => c * B ^ val B e + val B r

def lt : T → T → Prop
  | .nil, .nil => False
  | .nil, .cons _ _ _ => True
  | .cons _ _ _, .nil => False
  | .cons e c r, .cons e' c' r' => lt e e' ∨ (e = e' ∧ (c < c' ∨ (c = c' ∧ lt r r')))

/-- the parts of r have exponents below e -/
def below : T → T → Prop
  | .nil, _ => True
  | .cons e' _ _, e => lt e' e

/-- written so by the base -/
def NF (B : Nat) : T → Prop
  | .nil => True
  | .cons e c r => 0 < c ∧ c < B ∧ NF B e ∧ NF B r ∧ below r e

theorem NF.mono {B C : Nat} (h : B ≤ C) : ∀ {t : T}, NF B t → NF C t
  | .nil, _ => trivial
  | .cons _ _ _, ⟨h1, h2, h3, h4, h5⟩ => ⟨h1, Nat.lt_of_lt_of_le h2 h, NF.mono h h3, NF.mono h h4, h5⟩

theorem pow_pos' {B : Nat} (hB : 2 ≤ B) (n : Nat) : 0 < B ^ n := Nat.pow_pos (by omega)
theorem pow_succ_le {B m n : Nat} (hB : 2 ≤ B) (h : m < n) : B * B ^ m ≤ B ^ n := by
  have e : B * B ^ m = B ^ (m + 1) := by rw [Nat.pow_succ, Nat.mul_comm]
  rw [e]
  exact Nat.pow_le_pow_right (by omega) h
theorem lt_of_pow {B m n : Nat} (hB : 2 ≤ B) (h : B ^ m < B ^ n) : m < n := (Nat.pow_lt_pow_iff_right (by omega)).mp h
theorem lt_pow_self' {B : Nat} (hB : 2 ≤ B) (n : Nat) : n < B ^ n := Nat.lt_pow_self (by omega)

theorem order {B : Nat} (hB : 2 ≤ B) : ∀ s : T, NF B s →
    (∀ t, NF B t → lt s t → val B s < val B t) ∧ (∀ e, NF B e → below s e → val B s < B ^ val B e)
  | .nil, _ => by
    refine ⟨fun t ht h => ?_, fun e he h => pow_pos' hB _⟩
    cases t with
    | nil => exact h.elim
    | cons e c r =>
      have h1 : 0 < c := ht.1
      have h2 := pow_pos' hB (val B e)
      have h3 : 0 < c * B ^ val B e := Nat.mul_pos h1 h2
      show 0 < c * B ^ val B e + val B r
      omega
  | .cons e c r, hs => by
    obtain ⟨h1, h2, h3, h4, h5⟩ := hs
    have ihe := order hB e h3
    have ihr := order hB r h4
    have hr : val B r < B ^ val B e := ihr.2 e h3 h5
    have top : val B (.cons e c r) < B * B ^ val B e := by
      show c * B ^ val B e + val B r < B * B ^ val B e
      have h6 : (c + 1) * B ^ val B e ≤ B * B ^ val B e := Nat.mul_le_mul_right _ h2
      rw [Nat.succ_mul] at h6
      omega
    have second : ∀ e', NF B e' → below (.cons e c r) e' → val B (.cons e c r) < B ^ val B e' := fun e' he' hb => by
      have h7 : val B e < val B e' := ihe.1 e' he' hb
      exact Nat.lt_of_lt_of_le top (pow_succ_le hB h7)
    refine ⟨fun t ht h => ?_, second⟩
    cases t with
    | nil => exact h.elim
    | cons e' c' r' =>
      obtain ⟨g1, g2, g3, g4, g5⟩ := ht
      have hp := pow_pos' hB (val B e')
      rcases h with h | ⟨rfl, h | ⟨rfl, h⟩⟩
      · have h8 := second e' g3 h
        have h9 : 1 * B ^ val B e' ≤ c' * B ^ val B e' := Nat.mul_le_mul_right _ g1
        show val B (.cons e c r) < c' * B ^ val B e' + val B r'
        omega
      · have h9 : (c + 1) * B ^ val B e ≤ c' * B ^ val B e := Nat.mul_le_mul_right _ h
        rw [Nat.succ_mul] at h9
        show c * B ^ val B e + val B r < c' * B ^ val B e + val B r'
        omega
      · have h9 := ihr.1 r' g4 h
        show c * B ^ val B e + val B r < c * B ^ val B e + val B r'
        omega

theorem tri : ∀ s t : T, lt s t ∨ s = t ∨ lt t s
  | .nil, .nil => .inr (.inl rfl)
  | .nil, .cons _ _ _ => .inl trivial
  | .cons _ _ _, .nil => .inr (.inr trivial)
  | .cons e c r, .cons e' c' r' => by
    rcases tri e e' with h | h | h
    · exact .inl (.inl h)
    · subst h
      rcases Nat.lt_trichotomy c c' with h | h | h
      · exact .inl (.inr ⟨rfl, .inl h⟩)
      · subst h
        rcases tri r r' with h | h | h
        · exact .inl (.inr ⟨rfl, .inr ⟨rfl, h⟩⟩)
        · subst h
          exact .inr (.inl rfl)
        · exact .inr (.inr (.inr ⟨rfl, .inr ⟨rfl, h⟩⟩))
      · exact .inr (.inr (.inr ⟨rfl, .inl h⟩))
    · exact .inr (.inr (.inl h))

section
variable {B C : Nat} {s t e r : T}
theorem val_lt (hB : 2 ≤ B) (hs : NF B s) (ht : NF B t) (h : lt s t) : val B s < val B t := (order hB s hs).1 t ht h
theorem val_below (hB : 2 ≤ B) (hs : NF B s) (he : NF B e) (h : below s e) : val B s < B ^ val B e := (order hB s hs).2 e he h
theorem lt_of_val (hB : 2 ≤ B) (hs : NF B s) (ht : NF B t) (h : val B s < val B t) : lt s t := by
  rcases tri s t with h1 | h1 | h1
  · exact h1
  · subst h1
    omega
  · have := val_lt hB ht hs h1
    omega
/-- the writing is unique -/
theorem uniq (hB : 2 ≤ B) (hs : NF B s) (ht : NF B t) (h : val B s = val B t) : s = t := by
  rcases tri s t with h1 | h1 | h1
  · have := val_lt hB hs ht h1
    omega
  · exact h1
  · have := val_lt hB ht hs h1
    omega
theorem below_of_val (hB : 2 ≤ B) (hs : NF B s) (he : NF B e) (h : val B s < B ^ val B e) : below s e := by
  cases s with
  | nil => trivial
  | cons e' c r =>
    obtain ⟨h1, h2, h3, h4, h5⟩ := hs
    refine lt_of_val hB h3 he (lt_of_pow hB (Nat.lt_of_le_of_lt ?_ h))
    have h9 : 1 * B ^ val B e' ≤ c * B ^ val B e' := Nat.mul_le_mul_right _ h1
    show B ^ val B e' ≤ c * B ^ val B e' + val B r
    omega
/-- the worth does not fall behind the exponent -/
theorem pow_le_val {c : Nat} (h : 0 < c) : B ^ val B e ≤ val B (.cons e c r) := by
  have h9 : 1 * B ^ val B e ≤ c * B ^ val B e := Nat.mul_le_mul_right _ h
  show B ^ val B e ≤ c * B ^ val B e + val B r
  omega
end

/-- every whole number is written by every base from 2 on -/
theorem ex {B : Nat} (hB : 2 ≤ B) : ∀ n : Nat, ∃ t, NF B t ∧ val B t = n := by
  intro n
  induction n using Nat.strongRecOn with
  | _ n ih =>
    by_cases hn : n = 0
    · exact ⟨.nil, trivial, hn.symm⟩
    · -- the greatest place
      have hk : ∃ k, B ^ k ≤ n ∧ n < B ^ (k + 1) := by
        have go : ∀ m, n < B ^ m → ∃ k, B ^ k ≤ n ∧ n < B ^ (k + 1) := by
          intro m
          induction m with
          | zero => intro h; rw [Nat.pow_zero] at h; omega
          | succ m ihm =>
            intro h
            by_cases hm : n < B ^ m
            · exact ihm hm
            · exact ⟨m, by omega, h⟩
        exact go n (lt_pow_self' hB n)
      obtain ⟨k, k1, k2⟩ := hk
      have hp := pow_pos' hB k
      have kn : k < n := Nat.lt_of_lt_of_le (lt_pow_self' hB k) k1
      have hr : n % B ^ k < B ^ k := Nat.mod_lt _ hp
      obtain ⟨e, e1, e2⟩ := ih k kn
      obtain ⟨r, r1, r2⟩ := ih (n % B ^ k) (by omega)
      have hd : 0 < n / B ^ k := Nat.div_pos k1 hp
      have hd2 : n / B ^ k < B := by
        rw [Nat.div_lt_iff_lt_mul hp]
        rw [Nat.pow_succ] at k2
        rw [Nat.mul_comm]
        exact k2
      refine ⟨.cons e (n / B ^ k) r, ⟨hd, hd2, e1, r1, below_of_val hB r1 e1 (by rw [e2, r2]; exact hr)⟩, ?_⟩
      show n / B ^ k * B ^ val B e + val B r = n
      rw [e2, r2, Nat.mul_comm]
      exact Nat.div_add_mod n (B ^ k)

/-- n written by B -/
noncomputable def W (B n : Nat) : T := if h : 2 ≤ B then Classical.choose (ex h n) else .nil
section
variable {B C : Nat} {t : T} {n m : Nat}
theorem W_nf (hB : 2 ≤ B) (n : Nat) : NF B (W B n) := by
  unfold W
  rw [dif_pos hB]
  exact (Classical.choose_spec (ex hB n)).1
theorem W_val (hB : 2 ≤ B) (n : Nat) : val B (W B n) = n := by
  unfold W
  rw [dif_pos hB]
  exact (Classical.choose_spec (ex hB n)).2
theorem W_eq (hB : 2 ≤ B) (ht : NF B t) (h : val B t = n) : t = W B n := uniq hB ht (W_nf hB n) (by rw [W_val hB, h])
theorem W_zero (hB : 2 ≤ B) : W B 0 = .nil := (W_eq hB (t := .nil) trivial rfl).symm
theorem W_nil (hB : 2 ≤ B) : W B n = .nil ↔ n = 0 := by
  constructor
  · intro h
    have := W_val hB n
    rw [h] at this
    exact this.symm
  · rintro rfl
    exact W_zero hB
end

/-- the worth when the base has grown by one -/
noncomputable def gro (B n : Nat) : Nat := val (B + 1) (W B n)
section
variable {B : Nat} {n m : Nat} {t : T}
theorem gro_eq (hB : 2 ≤ B) : W (B + 1) (gro B n) = W B n := (W_eq (by omega) ((W_nf hB n).mono (Nat.le_succ B)) rfl).symm
theorem gro_of (hB : 2 ≤ B) (ht : NF B t) (h : val B t = n) : gro B n = val (B + 1) t := by
  unfold gro
  rw [← W_eq hB ht h]
theorem gro_mono (hB : 2 ≤ B) (h : m < n) : gro B m < gro B n := by
  have h1 : lt (W B m) (W B n) := lt_of_val hB (W_nf hB m) (W_nf hB n) (by rw [W_val hB, W_val hB]; exact h)
  exact val_lt (by omega) ((W_nf hB m).mono (Nat.le_succ B)) ((W_nf hB n).mono (Nat.le_succ B)) h1
theorem gro_zero (hB : 2 ≤ B) : gro B 0 = 0 := by
  unfold gro
  rw [W_zero hB]
  rfl
theorem gro_pos (hB : 2 ≤ B) (h : 0 < n) : 0 < gro B n := by
  have := gro_mono hB h
  rw [gro_zero hB] at this
  exact this
def one : T := .cons .nil 1 .nil
theorem one_nf (hB : 2 ≤ B) : NF B one := ⟨by omega, by omega, trivial, trivial, trivial⟩
theorem one_val (B : Nat) : val B one = 1 := by
  show 1 * B ^ 0 + 0 = 1
  rw [Nat.pow_zero]
/-- a whole number below a base, as a number -/
def fin (d : Nat) : T := if d = 0 then .nil else .cons .nil d .nil
theorem fin_val (B d : Nat) : val B (fin d) = d := by
  unfold fin
  by_cases h : d = 0
  · rw [if_pos h, h]
    rfl
  · rw [if_neg h]
    show d * B ^ 0 + 0 = d
    rw [Nat.pow_zero]
    omega
theorem fin_nf {d : Nat} (h : d < B) : NF B (fin d) := by
  unfold fin
  by_cases h0 : d = 0
  · rw [if_pos h0]
    trivial
  · rw [if_neg h0]
    exact ⟨by omega, h, trivial, trivial, trivial⟩
/-- w times d1, plus d0 -/
def two (d1 d0 : Nat) : T := if d1 = 0 then fin d0 else .cons one d1 (fin d0)
theorem two_val (B d1 d0 : Nat) : val B (two d1 d0) = d1 * B + d0 := by
  unfold two
  by_cases h : d1 = 0
  · rw [if_pos h, fin_val, h]
    omega
  · rw [if_neg h]
    show d1 * B ^ val B one + val B (fin d0) = d1 * B + d0
    rw [one_val, fin_val, Nat.pow_one]
theorem two_nf {d1 d0 : Nat} (hB : 2 ≤ B) (h1 : d1 < B) (h0 : d0 < B) : NF B (two d1 d0) := by
  unfold two
  by_cases h : d1 = 0
  · rw [if_pos h]
    exact fin_nf h0
  · rw [if_neg h]
    refine ⟨by omega, h1, one_nf hB, fin_nf h0, below_of_val hB (fin_nf h0) (one_nf hB) ?_⟩
    rw [fin_val, one_val, Nat.pow_one]
    exact h0
theorem gro_small (hB : 2 ≤ B) (h : n < B * B) : gro B n = n + n / B := by
  have h1 : n / B < B := (Nat.div_lt_iff_lt_mul (by omega)).mpr h
  have h0 : n % B < B := Nat.mod_lt _ (by omega)
  have e : n / B * B + n % B = n := by
    rw [Nat.mul_comm]
    exact Nat.div_add_mod n B
  rw [gro_of hB (two_nf hB h1 h0) (by rw [two_val]; exact e), two_val, Nat.mul_add, Nat.mul_one]
  omega
/-- the bound that goes on from base to base -/
theorem gro_bound {u : Nat} (hB : 2 ≤ B) (hu : u ≤ B) (h : n < B ^ (u * B)) : gro B n < (B + 1) ^ (u * (B + 1)) := by
  unfold gro
  have nf := W_nf hB n
  have hv := W_val hB n
  have hC : 2 ≤ B + 1 := by omega
  cases hw : W B n with
  | nil => exact pow_pos' hC _
  | cons e c r =>
    rw [hw] at nf hv
    have nf' := nf.mono (Nat.le_succ B)
    obtain ⟨h1, h2, h3, h4, h5⟩ := nf
    have he : val B e < u * B := by
      refine lt_of_pow hB (Nat.lt_of_le_of_lt (pow_le_val (r := r) h1) ?_)
      rw [hv]
      exact h
    have hbb : u * B ≤ B * B := Nat.mul_le_mul_right _ hu
    have e2 : val (B + 1) e = val B e + val B e / B := by
      rw [← gro_small hB (Nat.lt_of_lt_of_le he hbb), gro_of hB h3 rfl]
    have hq : val B e / B < u := (Nat.div_lt_iff_lt_mul (by omega)).mpr he
    obtain ⟨g1, g2, g3, g4, g5⟩ := nf'
    have hr : val (B + 1) r < (B + 1) ^ val (B + 1) e := val_below hC g4 g3 g5
    have top : val (B + 1) (.cons e c r) < (B + 1) * (B + 1) ^ val (B + 1) e := by
      show c * (B + 1) ^ val (B + 1) e + val (B + 1) r < (B + 1) * (B + 1) ^ val (B + 1) e
      have h6 : (c + 1) * (B + 1) ^ val (B + 1) e ≤ (B + 1) * (B + 1) ^ val (B + 1) e := Nat.mul_le_mul_right _ g2
      rw [Nat.succ_mul] at h6
      omega
    refine Nat.lt_of_lt_of_le top (pow_succ_le hC ?_)
    rw [e2, Nat.mul_add, Nat.mul_one]
    omega
end

/-! ### as lists of parts -/
abbrev Ps := List (T × Nat)
def ofL : Ps → T
  | [] => .nil
  | p :: r => .cons p.1 p.2 (ofL r)
def parts : T → Ps
  | .nil => []
  | .cons e c r => (e, c) :: parts r
theorem of_parts : ∀ t : T, ofL (parts t) = t
  | .nil => rfl
  | .cons e c r => by
    show T.cons e c (ofL (parts r)) = T.cons e c r
    rw [of_parts r]
theorem parts_of : ∀ ps : Ps, parts (ofL ps) = ps
  | [] => rfl
  | p :: r => by
    show (p.1, p.2) :: parts (ofL r) = p :: r
    rw [parts_of r]
section
variable {B : Nat}
theorem nf_drop : ∀ {ps : Ps}, NF B (ofL ps) → ∀ k, NF B (ofL (ps.drop k))
  | [], _, k => by
    rw [List.drop_nil]
    trivial
  | _ :: _, h, 0 => h
  | _ :: _, h, k + 1 => nf_drop h.2.2.2.1 k
theorem nf_mem : ∀ {ps : Ps}, NF B (ofL ps) → ∀ p ∈ ps, 0 < p.2 ∧ p.2 < B ∧ NF B p.1
  | [], _, p, h => by cases h
  | q :: r, h, p, hp => by
    rcases List.mem_cons.mp hp with e | hp
    · subst e
      exact ⟨h.1, h.2.1, h.2.2.1⟩
    · exact nf_mem h.2.2.2.1 p hp
theorem val_mem : ∀ {ps : Ps}, NF B (ofL ps) → ∀ p ∈ ps, B ^ val B p.1 ≤ val B (ofL ps)
  | [], _, p, h => by cases h
  | q :: r, h, p, hp => by
    rcases List.mem_cons.mp hp with e | hp
    · subst e
      exact pow_le_val h.1
    · have := val_mem h.2.2.2.1 p hp
      show _ ≤ q.2 * B ^ val B q.1 + val B (ofL r)
      omega
/-- the end of a number is exchanged for what is worth one less -/
theorem swap_end (hB : 2 ≤ B) {e : T} {c : Nat} {q : Ps} (hq : NF B (ofL q)) (hv : val B (ofL q) + 1 = c * B ^ val B e) : ∀ {ps : Ps}, NF B (ofL (ps ++ [(e, c)])) →
    NF B (ofL (ps ++ q)) ∧ val B (ofL (ps ++ q)) + 1 = val B (ofL (ps ++ [(e, c)]))
  | [], _ => ⟨hq, by
      show val B (ofL q) + 1 = c * B ^ val B e + 0
      omega⟩
  | p :: r, h => by
    obtain ⟨h1, h2, h3, h4, h5⟩ := h
    have ih := swap_end hB hq hv (ps := r) h4
    have hb : val B (ofL (r ++ [(e, c)])) < B ^ val B p.1 := val_below hB h4 h3 h5
    have ib : val B (ofL (r ++ q)) < B ^ val B p.1 := by omega
    refine ⟨⟨h1, h2, h3, ih.1, below_of_val hB ih.1 h3 ib⟩, ?_⟩
    show p.2 * B ^ val B p.1 + val B (ofL (r ++ q)) + 1 = p.2 * B ^ val B p.1 + val B (ofL (r ++ [(e, c)]))
    omega
/-- all places below v, each base - 1 times, greatest first -/
noncomputable def fillL (B : Nat) : Nat → Ps
  | 0 => []
  | v + 1 => (W B v, B - 1) :: fillL B v
theorem fill_ok (hB : 2 ≤ B) : ∀ v, NF B (ofL (fillL B v)) ∧ val B (ofL (fillL B v)) + 1 = B ^ v
  | 0 => ⟨trivial, rfl⟩
  | v + 1 => by
    have ih := fill_ok hB v
    have e : val B (W B v) = v := W_val hB v
    refine ⟨⟨show 0 < B - 1 by omega, show B - 1 < B by omega, W_nf hB v, ih.1, below_of_val hB ih.1 (W_nf hB v) (by rw [e]; omega)⟩, ?_⟩
    show (B - 1) * B ^ val B (W B v) + val B (ofL (fillL B v)) + 1 = B ^ (v + 1)
    rw [e, Nat.pow_succ, Nat.mul_comm (B ^ v) B]
    have h2 : (B - 1 + 1) * B ^ v = B * B ^ v := by rw [show B - 1 + 1 = B by omega]
    rw [Nat.succ_mul] at h2
    omega
theorem fill_len (B : Nat) : ∀ v, (fillL B v).length = v
  | 0 => rfl
  | v + 1 => congrArg Nat.succ (fill_len B v)
/-- the last part once less -/
def lessL (ps : Ps) (e : T) (c : Nat) : Ps := if c = 1 then ps else ps ++ [(e, c - 1)]
/-- ONE DOWN: what the program's `down` puts together is the writing of one less -/
theorem down_ok (hB : 2 ≤ B) {ps : Ps} {e : T} {c : Nat} (h : NF B (ofL (ps ++ [(e, c)]))) :
    ofL (lessL ps e c ++ fillL B (val B e)) = W B (val B (ofL (ps ++ [(e, c)])) - 1) := by
  have hm := nf_mem h (e, c) (List.mem_append_right _ (List.mem_singleton.mpr rfl))
  obtain ⟨h1, h2, h3⟩ := hm
  have h1 : 0 < c := h1
  have h2 : c < B := h2
  have h3 : NF B e := h3
  have hf := fill_ok hB (val B e)
  by_cases hc : c = 1
  · have sw := swap_end hB (e := e) (c := c) hf.1 (by rw [hf.2, hc, Nat.one_mul]) h
    unfold lessL
    rw [if_pos hc]
    exact W_eq hB sw.1 (by omega)
  · have hq : NF B (ofL ((e, c - 1) :: fillL B (val B e))) :=
      ⟨show 0 < c - 1 by omega, show c - 1 < B by omega, h3, hf.1, below_of_val hB hf.1 h3 (show val B (ofL (fillL B (val B e))) < B ^ val B e by omega)⟩
    have hv : val B (ofL ((e, c - 1) :: fillL B (val B e))) + 1 = c * B ^ val B e := by
      show (c - 1) * B ^ val B e + val B (ofL (fillL B (val B e))) + 1 = c * B ^ val B e
      have h4 : (c - 1 + 1) * B ^ val B e = c * B ^ val B e := by rw [show c - 1 + 1 = c by omega]
      rw [Nat.succ_mul] at h4
      omega
    have sw := swap_end hB hq hv h
    unfold lessL
    rw [if_neg hc, List.append_assoc]
    have sv : val B (ofL (ps ++ ([(e, c - 1)] ++ fillL B (val B e)))) + 1 = val B (ofL (ps ++ [(e, c)])) := sw.2
    exact W_eq hB sw.1 (by omega)
end

/-! ### how deep the writing goes: a bound by places -/
def bnd (B : Nat) : Nat → Nat
  | 0 => 0
  | k + 1 => B ^ bnd B k
theorem bnd_down {B k m p : Nat} (hB : 2 ≤ B) (h : m < bnd B (k + 1)) (hp : B ^ p ≤ m) : p < bnd B k := lt_of_pow hB (Nat.lt_of_le_of_lt hp h)
theorem bnd_four {B u n : Nat} (hB : 2 ≤ B) (hu : u ≤ B) (h : n < B ^ (u * B)) : n < bnd B 4 := by
  refine Nat.lt_of_lt_of_le h ?_
  show B ^ (u * B) ≤ B ^ (B ^ (B ^ (B ^ 0)))
  rw [Nat.pow_zero, Nat.pow_one]
  refine Nat.pow_le_pow_right (by omega) (Nat.le_trans (Nat.mul_le_mul_right _ hu) ?_)
  have e : B * B = B ^ 2 := by rw [Nat.pow_succ, Nat.pow_one]
  rw [e]
  exact Nat.pow_le_pow_right (by omega) hB

/-! ### the row's whole numbers -/
noncomputable def nth (b m : Nat) : Nat → Nat
  | 0 => m
  | k + 1 => gro (b + k) (nth b m k) - 1
theorem nth_bound {b m : Nat} (hb : 2 ≤ b) (h : m < b ^ (b * b)) : ∀ k, nth b m k < (b + k) ^ (b * (b + k))
  | 0 => h
  | k + 1 => by
    have ih := nth_bound hb h k
    have := gro_bound (B := b + k) (n := nth b m k) (u := b) (by omega) (by omega) ih
    show gro (b + k) (nth b m k) - 1 < (b + (k + 1)) ^ (b * (b + (k + 1)))
    rw [show b + (k + 1) = b + k + 1 by omega]
    omega
end HH

set_option Elab.async false
set_option maxRecDepth 100000
set_option maxHeartbeats 4000000
set_option linter.all false
namespace HH
open PySem L2 Evl

/-! ### the text by places -/
def top (i : Nat) : Stmt := PySem.Challenge.pw_hydrahouse_k56_rows_by_whole_numbers.main.body.getD i (.Pass ⟨0, 0, 0, 0⟩)
abbrev sWhole : Stmt := top 7
abbrev sGreatest : Stmt := top 8
abbrev sTooGreat : Stmt := top 11
abbrev sWritten : Stmt := top 12
abbrev sFits : Stmt := top 13
abbrev sBaseTo : Stmt := top 14
abbrev sWorth : Stmt := top 15
abbrev sOneLess : Stmt := top 16
abbrev sDown : Stmt := top 17
abbrev sRow : Stmt := top 18
abbrev sCellAt : Stmt := top 20
abbrev sMix : Stmt := top 21
abbrev sGreat : Stmt := top 22
abbrev sLWhole : Stmt := top 23
abbrev sRead : Stmt := top 24
abbrev sGrown : Stmt := top 25
abbrev sBound : Stmt := top 26
abbrev sLaw : Stmt := top 27

/-- the built-in names that the text uses are no names of the module -/
structure Bl (mg : Str → Option Value) : Prop where
  len : mg "len" = none
  isi : mg "isinstance" = none
  int : mg "int" = none
  bool : mg "bool" = none
  tuple : mg "tuple" = none
  list : mg "list" = none
  range : mg "range" = none
  max : mg "max" = none
  min : mg "min" = none
  divmod : mg "divmod" = none
  reversed : mg "reversed" = none

/-! ### two more rules of the layer -/
section
variable {X : Cx}
theorem vals3 {x y z : V} {us : List Value} (r : Vals [x, y, z] us) : ∃ u v w', us = [u, v, w'] ∧ RelV x u ∧ RelV y v ∧ RelV z w' := by
  cases r with
  | cons r1 r2 =>
    cases r2 with
    | cons r3 r4 =>
      cases r4 with
      | cons r5 r6 => cases r6; exact ⟨_, _, _, rfl, r1, r3, r5⟩
def max3 (i j k : Int) : Int := if j > i then (if k > j then k else j) else (if k > i then k else i)
theorem call_max3 (hc : X.calm = true) : CallR X (.builtin "max") (fun xs H Q => ∃ i j k, xs = [.int i, .int j, .int k] ∧ Q (.int (max3 i j k)) H) := by
  intro pins s σ H xs us Q I r h
  obtain ⟨i, j, k, rfl, q⟩ := h
  obtain ⟨u, v, w', rfl, ⟨t, rfl⟩, ⟨t', rfl⟩, ⟨t'', rfl⟩⟩ := vals3 r
  refine max_three_ints (I.ok.hd hc) fun h' tk kk => ⟨_, H, I.kept kk, ?_, q⟩
  unfold max3
  by_cases h1 : j > i
  · rw [if_pos h1, if_pos h1]
    by_cases h2 : k > j
    · rw [if_pos h2, if_pos h2]; exact ⟨_, rfl⟩
    · rw [if_neg h2, if_neg h2]; exact ⟨_, rfl⟩
  · rw [if_neg h1, if_neg h1]
    by_cases h2 : k > i
    · rw [if_pos h2, if_pos h2]; exact ⟨_, rfl⟩
    · rw [if_neg h2, if_neg h2]; exact ⟨_, rfl⟩
def CPowX (i j : Int) : Prop := 0 ≤ j ∧ (Builtin.Int.intBits i : Int) * j ≤ 2 ^ 27
theorem op_powX : OpR X (binaryOp .Pow) (rI CPowX fun i j => .int (i ^ j.toNat)) := opI fun _ _ _ _ _ _ _ hc q => PyProof.Rows.pow_int hc.1 hc.2 q
end

/-! ### a value that is not told, but what is true of it -/
def EvP (te : TE) (σ : L2.St) (H : Hp) (P : V → Hp → Prop) : Prop := ∀ H1, Ex H H1 → ∀ Q : VK, (∀ v H2, Ex H1 H2 → P v H2 → Q v H2) → te σ H1 Q
section
variable {K : PySem.W.Frag} {σ : L2.St} {H H' : Hp} {ta tb te : TE} {t u : TT} {x y z v : V} {D : Ends} {tu tw tz : TS} {P : V → Hp → Prop}
theorem EvP.of (h : Ev te σ H v) (hp : ∀ H1, Ex H H1 → P v H1) : EvP te σ H P := fun H1 e Q q => h H1 e Q fun H2 e2 => q v H2 e2 (hp H2 (e.trans e2))
theorem q_asgP {i : Nat} (h : EvP te σ H P) (k : ∀ v H1, Ex H H1 → P v H1 → tz D (σ.set i (some v)) H1) : tSeq (tAsg te (gName i)) tz D σ H := h H (Ex.refl H) _ fun v H1 e p => k v H1 e p
theorem s_asgP {i : Nat} (h : EvP te σ H P) (k : ∀ v H1, Ex H H1 → P v H1 → D.nx (σ.set i (some v)) H1) : tAsg te (gName i) D σ H := h H (Ex.refl H) _ fun v H1 e p => k v H1 e p
theorem s_retP (h : EvP te σ H P) (k : ∀ v H1, Ex H H1 → P v H1 → D.rt v H1) : tRet te D σ H := h H (Ex.refl H) _ fun v H1 e p => k v H1 e p
/-- what a def promises, of a value that is not told -/
def SpP (sp : Sp) (vs : List V) (H : Hp) (P : V → Hp → Prop) : Prop := ∀ H1, Ex H H1 → ∀ Q : VK, (∀ v H2, Ex H1 H2 → P v H2 → Q v H2) → ∀ E : XK, sp vs H1 Q E
theorem evp_call {sp : Sp} {vs : List V} {E : XK} {tA : TA} (h : EvA tA σ H vs) (hs : SpP sp (vs ++ []) H P) : EvP (tCall sp [] E tA) σ H P := fun H1 e Q q =>
  h H1 e _ fun H2 e2 => hs H2 (e.trans e2) Q (fun v H3 e3 p => q v H3 (e2.trans e3) p) E
theorem ev_call' {sp : Sp} {vs : List V} {E : XK} {tA : TA} (h : EvA tA σ H vs) (hs : SpV sp (vs ++ []) H z) : Ev (tCall sp [] E tA) σ H z := ev_call h hs
theorem ev_call0 {sp : Sp} {E : XK} (hs : SpV sp [] H z) : Ev (tCall sp [] E tNil) σ H z := ev_call ea_nil hs
end

/-! ### numbers as they stand on the heap -/
section
variable (K : PySem.W.Frag)
/-- xs: the parts of t, each a pair of an exponent and its times -/
def PsAt (H : Hp) : T → List V → Prop
  | .nil, xs => xs = []
  | .cons e c r, xs => ∃ q a ys zs, xs = .ref q :: zs ∧ SqT K H q [.ref a, .int (c : Int)] ∧ SqT K H a ys ∧ PsAt H e ys ∧ PsAt H r zs
/-- the number t stands at a -/
def NumAt (H : Hp) (t : T) (a : Addr) : Prop := ∃ xs, SqT K H a xs ∧ PsAt K H t xs
def PartAt (H : Hp) (p : T × Nat) (x : V) : Prop := ∃ q a, x = .ref q ∧ SqT K H q [.ref a, .int (p.2 : Int)] ∧ NumAt K H p.1 a
end
section
variable {K : PySem.W.Frag} {H H' : Hp} {t : T} {xs ys : List V} {ps qs : Ps} {p : T × Nat}
theorem psAt_mono (e : Ex H H') : ∀ {t : T} {xs : List V}, PsAt K H t xs → PsAt K H' t xs
  | .nil, _, h => h
  | .cons _ _ _, _, ⟨q, a, ys, zs, e1, h1, h2, h3, h4⟩ => ⟨q, a, ys, zs, e1, ex_t e h1, ex_t e h2, psAt_mono e h3, psAt_mono e h4⟩
theorem numAt_mono {a : Addr} (e : Ex H H') (h : NumAt K H t a) : NumAt K H' t a :=
  let ⟨xs, h1, h2⟩ := h
  ⟨xs, ex_t e h1, psAt_mono e h2⟩
theorem partAt_mono {x : V} (e : Ex H H') (h : PartAt K H p x) : PartAt K H' p x :=
  let ⟨q, a, e1, h1, h2⟩ := h
  ⟨q, a, e1, ex_t e h1, numAt_mono e h2⟩
/-- a list's store leaves the tuples -/
theorem sqT_list {l a : Addr} {us ws : List V} (hl : H l = some (.lst us)) (h : SqT K H a xs) : SqT K (upd H l (.lst ws)) a xs := by
  rcases h with (h | ⟨o, h⟩) | h
  · exact .inl (.inl (by rw [upd_ne (ne_of h hl (by intro z; cases z))]; exact h))
  · exact .inl (.inr ⟨o, by rw [upd_ne (ne_of h hl (by intro z; cases z))]; exact h⟩)
  · exact .inr h
theorem psAt_list {l : Addr} {us ws : List V} (hl : H l = some (.lst us)) : ∀ {t : T} {xs : List V}, PsAt K H t xs → PsAt K (upd H l (.lst ws)) t xs
  | .nil, _, h => h
  | .cons _ _ _, _, ⟨q, a, ys, zs, e1, h1, h2, h3, h4⟩ => ⟨q, a, ys, zs, e1, sqT_list hl h1, sqT_list hl h2, psAt_list hl h3, psAt_list hl h4⟩
theorem numAt_list {l a : Addr} {us ws : List V} (hl : H l = some (.lst us)) (h : NumAt K H t a) : NumAt K (upd H l (.lst ws)) t a :=
  let ⟨xs, h1, h2⟩ := h
  ⟨xs, sqT_list hl h1, psAt_list hl h2⟩
theorem psAt_len : ∀ {ps : Ps} {xs : List V}, PsAt K H (ofL ps) xs → xs.length = ps.length
  | [], _, h => by
    have h' : _ = [] := h
    rw [h']
    rfl
  | p :: r, _, ⟨q, a, ys, zs, e1, _, _, _, h4⟩ => by
    rw [e1, List.length_cons, List.length_cons, psAt_len h4]
theorem psAt_get : ∀ {ps : Ps} {xs : List V} {i : Nat} {p : T × Nat}, PsAt K H (ofL ps) xs → ps[i]? = some p → ∃ x, xs[i]? = some x ∧ PartAt K H p x
  | [], _, i, p, _, h => by simp at h
  | p' :: r, _, 0, p, ⟨q, a, ys, zs, e1, h1, h2, h3, h4⟩, h => by
    have e : p' = p := Option.some.inj h
    subst e
    exact ⟨.ref q, by rw [e1]; rfl, q, a, rfl, h1, ys, h2, h3⟩
  | p' :: r, _, i + 1, p, ⟨q, a, ys, zs, e1, h1, h2, h3, h4⟩, h => by
    obtain ⟨x, hx, hp⟩ := psAt_get (i := i) h4 h
    exact ⟨x, by rw [e1]; exact hx, hp⟩
theorem psAt_cons {x : V} (h : PartAt K H p x) (hr : PsAt K H (ofL ps) xs) : PsAt K H (ofL (p :: ps)) (x :: xs) := by
  obtain ⟨q, a, e1, h1, ys, h2, h3⟩ := h
  exact ⟨q, a, ys, xs, by rw [e1], h1, h2, h3, hr⟩
theorem psAt_app : ∀ {ps : Ps} {xs : List V}, PsAt K H (ofL ps) xs → PsAt K H (ofL qs) ys → PsAt K H (ofL (ps ++ qs)) (xs ++ ys)
  | [], _, h, g => by
    have h' : _ = [] := h
    rw [h']
    exact g
  | p :: r, _, ⟨q, a, ys, zs, e1, h1, h2, h3, h4⟩, g => by
    rw [e1]
    exact ⟨q, a, ys, zs ++ _, rfl, h1, h2, h3, psAt_app h4 g⟩
/-- the last part taken off -/
theorem psAt_snoc : ∀ {ps : Ps} {xs : List V}, PsAt K H (ofL (ps ++ [p])) xs → ∃ us x, xs = us ++ [x] ∧ PsAt K H (ofL ps) us ∧ PartAt K H p x
  | [], xs, ⟨q, a, ys, zs, e1, h1, h2, h3, h4⟩ => by
    have h' : zs = [] := h4
    exact ⟨[], .ref q, by rw [e1, h']; rfl, rfl, q, a, rfl, h1, ys, h2, h3⟩
  | p' :: r, xs, ⟨q, a, ys, zs, e1, h1, h2, h3, h4⟩ => by
    obtain ⟨us, x, e2, h5, h6⟩ := psAt_snoc (ps := r) h4
    exact ⟨.ref q :: us, x, by rw [e1, e2]; rfl, ⟨q, a, ys, us, rfl, h1, h2, h3, h5⟩, h6⟩
theorem partAt_mk {q a : Addr} (h : SqT K H q [.ref a, .int (p.2 : Int)]) (hn : NumAt K H p.1 a) : PartAt K H p (.ref q) := ⟨q, a, rfl, h, hn⟩
end

/-! ### sizes -/
theorem bits5 {B n : Nat} (hB : B ≤ 18) : B ^ n < 2 ^ (5 * n + 1) := by
  have h1 : B ^ n ≤ 32 ^ n := Nat.pow_le_pow_left (by omega) n
  have e : (32 : Nat) ^ n = 2 ^ (5 * n) := by rw [show (32 : Nat) = 2 ^ 5 from rfl, ← Nat.pow_mul]
  rw [e] at h1
  exact Nat.lt_of_le_of_lt h1 (Nat.pow_lt_pow_right (by omega) (by omega))
theorem natAbs_cast (n : Nat) : ((n : Nat) : Int).natAbs = n := rfl
/-- a product of two whole numbers of at most 2000 bits each -/
theorem mulx_nat {a b : Nat} (ha : a < 2 ^ 5000) (hb : b < 2 ^ 5000) : CMulX (a : Int) (b : Int) := mulx_ok (a := 5000) (b := 5000) ha hb (by omega)
end HH

set_option Elab.async false
set_option maxRecDepth 100000
set_option maxHeartbeats 4000000
set_option linter.all false
namespace HH
open PySem L2 Evl
section
variable {P : Program} {w : World} {K : PySem.W.Frag} {mg : Str → Option Value} {base : Heap}
/-! ### is_whole, _law_whole -/
def spWhole : Sp := fun vs H Q _ => ∃ n : Int, vs = [.int n] ∧ 0 ≤ n ∧ ∀ H', Ex H H' → Q (.bl true) H'
theorem scWhole : FnScope ["thing"] ["thing"] (defScope sWhole) := ⟨rfl, rfl, rfl, by decide +kernel, rfl, by decide +kernel, by decide +kernel⟩
theorem scLWhole : FnScope ["_law_found"] ["_law_found"] (defScope sLWhole) := ⟨rfl, rfl, rfl, by decide +kernel, rfl, by decide +kernel, by decide +kernel⟩
theorem isi_int_int {n : Int} {H : Hp} : RC (rIsi K) [.int n, .ty "int"] H (.bl true) := fun H1 _ Q q =>
  ⟨_, _, _, _, true, rfl, .ty "int", .base (.int n), kit_ty (by decide +kernel), q H1 (Ex.refl H1)⟩
theorem isi_int_bool {n : Int} {H : Hp} : RC (rIsi K) [.int n, .ty "bool"] H (.bl false) := fun H1 _ Q q =>
  ⟨_, _, _, _, false, rfl, .ty "bool", .base (.int n), kit_ty (by decide +kernel), q H1 (Ex.refl H1)⟩
theorem ok_whole {f : Addr} {fd : FuncData} {k : Nat} (F : Fun K "is_whole" "is_whole" sWhole f fd) (B : Bl mg) : FnOk P w K mg base CX0 (k + 1) f fd ["thing"] spWhole := by
  refine F.ok scWhole (fun vs H Q E h => ?_) (fun cdv A outer s H vs Q E hr h => ?_)
  · obtain ⟨n, rfl, _⟩ := h
    rfl
  obtain ⟨n, rfl, hn, q⟩ := h
  refine ⟨_, pss_one (ps_ret (pe_and (pe_callB call_isi (by rfl) B.isi PyProof.Rows.boot_isinstance (pa_cons (pv 0) (pa_cons (pe_bltn (v := .ty "int") (by rfl) B.int PyProof.Rows.boot_int rfl) pa_nil)))
    (pe_and (pe_not (pe_callB call_isi (by rfl) B.isi PyProof.Rows.boot_isinstance (pa_cons (pv 0) (pa_cons (pe_bltn (v := .ty "bool") (by rfl) B.bool PyProof.Rows.boot_bool rfl) pa_nil))))
      (pe_one (pe_cmpR op_ge (pv 0) pe_int (nomark _)))))), ?_⟩
  have h0 : decide ((0 : Int) ≤ n) = true := decide_eq_true hn
  refine s_ret (v := .bl (true && ((!false) && decide ((0 : Int) ≤ n)))) (ev_andV (ev_cb (ea_cons (ev_var rfl) (ea_cons ev_c ea_nil)) isi_int_int)
    fun _ => ev_andV (ev_notV (ev_cb (ea_cons (ev_var rfl) (ea_cons ev_c ea_nil)) isi_int_bool)) fun _ => ev_op (ev_var rfl) ev_c rv_I0) fun H1 e1 => ?_
  show Q (.bl (true && ((!false) && decide ((0 : Int) ≤ n)))) H1
  rw [h0]
  exact q H1 e1
def spLWhole : Sp := fun vs H Q _ => ∃ n : Int, vs = [.int n] ∧ ∀ H', Ex H H' → Q (.bl true) H'
theorem ok_lwhole {f : Addr} {fd : FuncData} {k : Nat} (F : Fun K "_law_whole" "_law_whole" sLWhole f fd) (B : Bl mg) : FnOk P w K mg base CX0 (k + 1) f fd ["_law_found"] spLWhole := by
  refine F.ok scLWhole (fun vs H Q E h => ?_) (fun cdv A outer s H vs Q E hr h => ?_)
  · obtain ⟨n, rfl, _⟩ := h
    rfl
  obtain ⟨n, rfl, q⟩ := h
  refine ⟨_, pss_one (ps_ret (pe_and (pe_callB call_isi (by rfl) B.isi PyProof.Rows.boot_isinstance (pa_cons (pv 0) (pa_cons (pe_bltn (v := .ty "int") (by rfl) B.int PyProof.Rows.boot_int rfl) pa_nil)))
    (pe_one (pe_not (pe_callB call_isi (by rfl) B.isi PyProof.Rows.boot_isinstance (pa_cons (pv 0) (pa_cons (pe_bltn (v := .ty "bool") (by rfl) B.bool PyProof.Rows.boot_bool rfl) pa_nil))))))), ?_⟩
  refine s_ret (v := .bl (true && (!false))) (ev_andV (ev_cb (ea_cons (ev_var rfl) (ea_cons ev_c ea_nil)) isi_int_int)
    fun _ => ev_notV (ev_cb (ea_cons (ev_var rfl) (ea_cons ev_c ea_nil)) isi_int_bool)) fun H1 e1 => ?_
  exact q H1 e1
end
end HH

set_option Elab.async false
set_option maxRecDepth 100000
set_option maxHeartbeats 4000000
set_option linter.all false
namespace HH
open PySem L2 Evl
/-! ### greatest, fits -/
/-- the greatest times, from m on, in the order in which the program looks -/
def grF : Nat → T → Nat
  | m, .nil => m
  | m, .cons e c r => grF (max (max m c) (grF 0 e)) r
theorem grF_lt {b : Nat} (hb : 2 ≤ b) : ∀ {t : T} {m : Nat}, NF b t → m < b → grF m t < b
  | .nil, m, _, h => h
  | .cons e c r, m, ht, h => by
    obtain ⟨h1, h2, h3, h4, _⟩ := ht
    have he := grF_lt hb (t := e) (m := 0) h3 (by omega)
    show grF (max (max m c) (grF 0 e)) r < b
    exact grF_lt hb (t := r) h4 (by omega)
theorem max3_nat (m c g : Nat) : max3 (m : Int) (c : Int) (g : Int) = ((max (max m c) g : Nat) : Int) := by
  unfold max3
  by_cases h1 : (c : Int) > (m : Int)
  · rw [if_pos h1]
    by_cases h2 : (g : Int) > (c : Int)
    · rw [if_pos h2]
      omega
    · rw [if_neg h2]
      omega
  · rw [if_neg h1]
    by_cases h2 : (g : Int) > (m : Int)
    · rw [if_pos h2]
      omega
    · rw [if_neg h2]
      omega
section
variable {P : Program} {w : World} {K : PySem.W.Frag} {mg : Str → Option Value} {base : Heap}
def spGreatest (K : PySem.W.Frag) (n : Nat) : Sp := fun vs H Q _ => ∃ (a : Addr) (t : T) (b : Nat), vs = [.ref a] ∧ NumAt K H t a ∧ 2 ≤ b ∧ NF b t ∧ val b t < bnd b n ∧ ∀ H', Ex H H' → Q (.int ((grF 0 t : Nat) : Int)) H'
theorem scGreatest : FnScope ["a", "most", "exponent", "many"] ["a"] (defScope sGreatest) := ⟨rfl, rfl, rfl, by decide +kernel, rfl, by decide +kernel, by decide +kernel⟩
theorem drop_at {α : Type} {l : List α} {i : Nat} {x : α} (h : l[i]? = some x) : l.drop i = x :: l.drop (i + 1) := by
  obtain ⟨h1, e1⟩ := List.getElem?_eq_some_iff.mp h
  rw [List.drop_eq_getElem_cons h1, e1]
theorem rc_max3 {i j k : Int} {H : Hp} : RC (fun xs H Q => ∃ i j k, xs = [.int i, .int j, .int k] ∧ Q (.int (max3 i j k)) H) [.int i, .int j, .int k] H (.int (max3 i j k)) := fun H1 _ _ q =>
  ⟨i, j, k, rfl, q H1 (Ex.refl H1)⟩
theorem step_greatest {f : Addr} {fd : FuncData} {n : Nat} (F : Fun K "greatest" "greatest" sGreatest f fd) (B : Bl mg) (bF : Binds K fd ["a"] []) (mF : mg "greatest" = some (.ref f))
    (G : FnOk P w K mg base CX0 n f fd ["a"] (spGreatest K n)) : FnOk P w K mg base CX0 (n + 1) f fd ["a"] (spGreatest K (n + 1)) := by
  refine F.ok scGreatest (fun vs H Q E h => ?_) (fun cdv A outer s H vs Q E hr h => ?_)
  · obtain ⟨a, t, b, rfl, _⟩ := h
    rfl
  obtain ⟨a, t, b, rfl, ⟨xs, hx, hp⟩, hb, nf, hv, q⟩ := h
  refine ⟨_, pss_cons (ps_set (i := 1) scGreatest.nd rfl (Or.inl rfl) pe_int)
    (pss_cons (ps_for PassesOwn.never rfl (pi_tup (pv 0)) (pg_tup rfl (pgs_cons (pg_name (i := 2) scGreatest.nd rfl (Or.inl rfl)) (pgs_cons (pg_name (i := 3) scGreatest.nd rfl (Or.inl rfl)) pgs_nil)))
      (pss_one (ps_set (i := 1) scGreatest.nd rfl (Or.inl rfl) (pe_callB (call_max3 rfl) (by rfl) B.max PyProof.Rows.boot_max
        (pa_cons (pv 1) (pa_cons (pv 3) (pa_cons (pe_call G hr (by rfl) mF F.kp bF .nil pass0 (pa_cons (pv 2) pa_nil)) pa_nil)))))))
    (pss_one (ps_ret (pv 1)))), ?_⟩
  rw [← of_parts t] at hp nf hv
  have hl := psAt_len hp
  refine q_asg ev_c fun H1 e1 => ?_
  refine q_forT (a := a) (xs := xs) (ev_var rfl) (ex_t e1 hx)
    (fun i σ' H' => ∃ (m : Nat), ∃ y2 y3, σ' = [some (.ref a), some (.int (m : Int)), y2, y3] ∧ Ex H H' ∧ grF m (ofL ((parts t).drop i)) = grF 0 t)
    (fun H2 e2 => ⟨0, none, none, rfl, e1.trans e2, by rw [List.drop_zero, of_parts]⟩) (fun i σ' H' _ ⟨_, _, _, _, e2, _⟩ => ex_t e2 hx) (fun i x σ' H' hi p => ?_) (fun σ' H' p => ?_)
  · obtain ⟨m, y2, y3, rfl, e2, hm⟩ := p
    have hi' : i < (parts t).length := by
      rw [← hl]
      exact (List.getElem?_eq_some_iff.mp hi).1
    have hg : (parts t)[i]? = some (parts t)[i] := List.getElem?_eq_getElem hi'
    obtain ⟨x', hx', pa, aa, rfl, h1, h2⟩ := psAt_get hp hg
    have ex : x = .ref pa := Option.some.inj (hi.symm.trans hx')
    subst ex
    have hmem : (parts t)[i] ∈ parts t := List.getElem_mem hi'
    have hn := nf_mem nf _ hmem
    have hvm := val_mem nf _ hmem
    rw [drop_at hg] at hm
    generalize (parts t)[i] = p at hm hn hvm h1 h2
    refine ⟨pa, [.ref aa, .int (p.2 : Int)], rfl, ex_t e2 h1, rfl, .ref aa, [.int (p.2 : Int)], rfl, .int (p.2 : Int), [], rfl, rfl, ?_⟩
    refine s_asg (ev_cb (ea_cons (ev_var rfl) (ea_cons (ev_var rfl) (ea_cons (ev_call' (z := .int ((grF 0 p.1 : Nat) : Int)) (ea_cons (ev_var rfl) ea_nil)
      (fun H3 e3 Q3 q3 E3 => ⟨aa, p.1, b, rfl, numAt_mono (e2.trans e3) h2, hb, hn.2.2, bnd_down hb hv hvm, q3⟩)) ea_nil))) rc_max3) fun H3 e3 => ?_
    refine ⟨max (max m p.2) (grF 0 p.1), some (.ref aa), some (.int (p.2 : Int)), ?_, e2.trans e3, hm⟩
    rw [max3_nat]
    rfl
  · obtain ⟨m, y2, y3, rfl, e2, hm⟩ := p
    rw [hl, List.drop_length] at hm
    have hm' : m = grF 0 t := hm
    refine s_ret (ev_var rfl) fun H3 e3 => ?_
    show Q (.int (m : Int)) H3
    rw [hm']
    exact q H3 (e2.trans e3)
theorem none_greatest {f : Addr} {fd : FuncData} : FnOk P w K mg base CX0 0 f fd ["a"] (spGreatest K 0) := by
  have no : ∀ vs H Q E, ¬ spGreatest K 0 vs H Q E := fun vs H Q E h => by
    obtain ⟨a, t, b, _, _, _, _, h1, _⟩ := h
    exact Nat.not_lt_zero _ h1
  exact ⟨fun vs H Q E h => absurd h (no vs H Q E), fun A outer s H args us vs Q E _ _ _ _ h => absurd h (no vs H Q E)⟩
theorem ok_greatest {f : Addr} {fd : FuncData} (F : Fun K "greatest" "greatest" sGreatest f fd) (B : Bl mg) (bF : Binds K fd ["a"] []) (mF : mg "greatest" = some (.ref f)) :
    ∀ n, FnOk P w K mg base CX0 n f fd ["a"] (spGreatest K n)
  | 0 => none_greatest
  | n + 1 => step_greatest F B bF mF (ok_greatest F B bF mF n)
def spFits (K : PySem.W.Frag) : Sp := fun vs H Q _ => ∃ (a : Addr) (t : T) (b : Nat), vs = [.ref a, .int (b : Int)] ∧ NumAt K H t a ∧ 2 ≤ b ∧ NF b t ∧ val b t < bnd b 4 ∧ ∀ H', Ex H H' → Q (.bl true) H'
theorem scFits : FnScope ["a", "base"] ["a", "base"] (defScope sFits) := ⟨rfl, rfl, rfl, by decide +kernel, rfl, by decide +kernel, by decide +kernel⟩
theorem ok_fits {f g : Addr} {fd gd : FuncData} (F : Fun K "fits" "fits" sFits f fd) (G : FnOk P w K mg base CX0 4 g gd ["a"] (spGreatest K 4)) (bG : Binds K gd ["a"] []) (kG : PySem.W.keepIn K (.ref g) = true) (mG : mg "greatest" = some (.ref g)) :
    FnOk P w K mg base CX0 5 f fd ["a", "base"] (spFits K) := by
  refine F.ok scFits (fun vs H Q E h => ?_) (fun cdv A outer s H vs Q E hr h => ?_)
  · obtain ⟨a, t, b, rfl, _⟩ := h
    rfl
  obtain ⟨a, t, b, rfl, hn, hb, nf, hv, q⟩ := h
  refine ⟨_, pss_one (ps_ret (pe_cmpR op_lt (pe_call G hr (by rfl) mG kG bG .nil pass0 (pa_cons (pv 0) pa_nil)) (pv 1) (nomark _))), ?_⟩
  have hg := grF_lt hb (m := 0) nf (by omega)
  refine s_ret (ev_op (ev_call' (z := .int ((grF 0 t : Nat) : Int)) (ea_cons (ev_var rfl) ea_nil) (fun H3 e3 Q3 q3 E3 => ⟨a, t, b, rfl, numAt_mono e3 hn, hb, nf, hv, q3⟩)) (ev_var rfl) rv_I0) fun H1 e1 => ?_
  show Q (.bl (decide (((grF 0 t : Nat) : Int) < (b : Int)))) H1
  rw [decide_eq_true (by omega)]
  exact q H1 e1
end
end HH

set_option Elab.async false
set_option maxRecDepth 100000
set_option maxHeartbeats 4000000
set_option linter.all false
namespace HH
open PySem L2 Evl
/-! ### too_great, base_to, worth -/
def bigI : Int := (10 ^ 60) ^ 10
theorem big_cast : bigI = (((10 ^ 60) ^ 10 : Nat) : Int) := by
  unfold bigI
  rw [Int.natCast_pow, Int.natCast_pow]
  rfl
set_option exponentiation.threshold 3000 in
theorem big_two : (2 : Nat) ^ 1000 ≤ (10 ^ 60) ^ 10 := by decide +kernel
theorem lt_big {n : Nat} (h : n < 2 ^ 1000) : ¬ bigI ≤ (n : Int) := by
  rw [big_cast]
  have h2 := Nat.lt_of_lt_of_le h big_two
  exact Int.not_le.mpr (Int.ofNat_lt.mpr h2)
theorem pow_ten : ((10 : Int) ^ (60 : Int).toNat).natAbs < 2 ^ 200 := by decide +kernel
section
variable {P : Program} {w : World} {K : PySem.W.Frag} {mg : Str → Option Value} {base : Heap}
def spTooGreat : Sp := fun vs H Q _ => vs = [] ∧ ∀ H', Ex H H' → Q (.int bigI) H'
theorem scTooGreat : FnScope [] [] (defScope sTooGreat) := ⟨rfl, rfl, rfl, by decide +kernel, rfl, by decide +kernel, by decide +kernel⟩
theorem ok_tooGreat {f : Addr} {fd : FuncData} (F : Fun K "too_great" "too_great" sTooGreat f fd) : FnOk P w K mg base CX0 1 f fd [] spTooGreat := by
  refine F.ok scTooGreat (fun vs H Q E h => ?_) (fun cdv A outer s H vs Q E hr h => ?_)
  · obtain ⟨rfl, _⟩ := h
    rfl
  obtain ⟨rfl, q⟩ := h
  refine ⟨_, pss_one (ps_ret (pe_op op_powX (pe_op op_pow pe_int pe_int) pe_int)), ?_⟩
  have c1 : CPow 10 60 := ⟨by decide, by decide, by decide⟩
  have c2 : CPowX ((10 : Int) ^ (60 : Int).toNat) 10 := by
    refine ⟨by decide, ?_⟩
    have h1 := PyProof.Rows.intBits_le pow_ten
    have h2 : (2 : Int) ^ 27 = 134217728 := by decide
    rw [h2]
    omega
  refine s_ret (ev_op (ev_op ev_c ev_c (rv_I c1)) ev_c (rv_I c2)) fun H1 e1 => ?_
  exact q H1 e1
def spBaseTo : Sp := fun vs H Q _ => ∃ b x : Nat, vs = [.int (b : Int), .int (x : Int)] ∧ 2 ≤ b ∧ b ≤ 18 ∧ x < 2 ∧ ∀ H', Ex H H' → Q (.int ((b ^ x : Nat) : Int)) H'
theorem scBaseTo : FnScope ["base", "exponent", "bound", "found"] ["base", "exponent"] (defScope sBaseTo) := ⟨rfl, rfl, rfl, by decide +kernel, rfl, by decide +kernel, by decide +kernel⟩
set_option exponentiation.threshold 3000 in
theorem small_1000 {n : Nat} (h : n ≤ 1000) : n < 2 ^ 1000 := Nat.lt_of_lt_of_le (show n < 2 ^ 10 by omega) (Nat.pow_le_pow_right (by decide) (by decide))
set_option exponentiation.threshold 10000 in
theorem ok_baseTo {f g : Addr} {fd gd : FuncData} (F : Fun K "base_to" "base_to" sBaseTo f fd) (G : FnOk P w K mg base CX0 1 g gd [] spTooGreat) (bG : Binds K gd [] []) (kG : PySem.W.keepIn K (.ref g) = true) (mG : mg "too_great" = some (.ref g)) :
    FnOk P w K mg base CX0 2 f fd ["base", "exponent"] spBaseTo := by
  refine F.ok scBaseTo (fun vs H Q E h => ?_) (fun cdv A outer s H vs Q E hr h => ?_)
  · obtain ⟨b, x, rfl, _⟩ := h
    rfl
  obtain ⟨b, x0, rfl, hb, hb2, hx0, q⟩ := h
  refine ⟨_, pss_cons (ps_set (i := 2) scBaseTo.nd rfl (Or.inl rfl) (pe_call0 G hr (by rfl) mG kG bG .nil pass0))
    (pss_cons (ps_set (i := 3) scBaseTo.nd rfl (Or.inl rfl) pe_int)
    (pss_cons (ps_while PassesOwn.never (pt_cmpR op_gt (pv 1) pe_int (nomark _))
      (pss_cons (ps_if (pt_cmpR op_eq (pe_op op_mod (pv 1) pe_int) pe_int (nomark _)) (pss_one (ps_set (i := 3) scBaseTo.nd rfl (Or.inl rfl) (pe_op op_mulX (pv 3) (pv 0)))) pss_nil)
      (pss_cons (ps_set (i := 1) scBaseTo.nd rfl (Or.inl rfl) (pe_op op_fdiv (pv 1) pe_int))
      (pss_cons (ps_if (pt_cmpR op_gt (pv 1) pe_int (nomark _)) pss_never pss_nil)
      (pss_one (ps_if (PW.pt (pw_or (pt_cmpR op_ge (pv 3) (pv 2) (nomark _)) (pw_or1 (PW.pt (pw_and (pt_cmpR op_gt (pv 1) pe_int (nomark _)) (pw_and1 (pt_cmpR op_ge (pv 0) (pv 2) (nomark _)))))))) pss_never pss_nil))))))
    (pss_one (ps_ret (pv 3))))), ?_⟩
  refine q_asg (ev_call0 (z := .int bigI) fun H1 e1 Q1 q1 E1 => ⟨rfl, q1⟩) fun H1 e1 => ?_
  refine q_asg ev_c fun H2 e2 => ?_
  refine q_while (fun m σ' H' => ∃ x f : Nat, σ' = [some (.int (b : Int)), some (.int (x : Int)), some (.int bigI), some (.int (f : Int))] ∧ Ex H H' ∧ x = m ∧ x < 2 ∧ f * b ^ x = b ^ x0)
    x0 ⟨x0, 1, rfl, e1.trans e2, rfl, hx0, Nat.one_mul _⟩ (fun m σ' H' hw => ?_)
  obtain ⟨x, f, rfl, e3, rfl, hx, hf⟩ := hw
  refine ⟨decide ((0 : Int) < (x : Int)), et_test (ev_op (ev_var rfl) ev_c rv_I0), fun ht H4 e4 => ?_, fun ht H4 e4 => ?_⟩
  · have hx1 : x = 1 := by
      have := of_decide_eq_true ht
      omega
    subst hx1
    have hx01 : x0 = 1 := by
      have h1 : x0 = 0 ∨ x0 = 1 := by omega
      rcases h1 with h1 | h1
      · rw [h1, Nat.pow_zero, Nat.pow_one] at hf
        have := Nat.eq_one_of_mul_eq_one_left hf
        omega
      · exact h1
    subst hx01
    have hf1 : f = 1 := by
      rw [Nat.pow_one] at hf
      exact Nat.eq_of_mul_eq_mul_right (by omega) (hf.trans (Nat.one_mul b).symm)
    subst hf1
    refine ⟨fun σ2 H5 => σ2 = [some (.int (b : Int)), some (.int ((0 : Nat) : Int)), some (.int bigI), some (.int (b : Int))] ∧ Ex H H5, fun σ2 H5 ⟨h1, h2⟩ => ⟨0, by omega, 0, b, h1, h2, rfl, by omega, by rw [Nat.pow_zero, Nat.pow_one, Nat.mul_one]⟩, ?_⟩
    have e34 := e3.trans e4
    refine q_when (b := true) (et_test (ev_op (ev_op (ev_var rfl) ev_c (rv_I (by show (0 : Int) < 2; decide))) ev_c (rv_eq rfl))) (fun _ H5 e5 => ?_) (fun hh => nomatch hh)
    refine s_asg (ev_op (ev_var rfl) (ev_var rfl) (rv_I (mulx_nat (Nat.lt_of_lt_of_le (by decide : 1 < 2 ^ 10) (Nat.pow_le_pow_right (by decide) (by decide))) (Nat.lt_of_lt_of_le (show b < 2 ^ 10 by omega) (Nat.pow_le_pow_right (by decide) (by decide)))))) fun H6 e6 => ?_
    refine q_asg (ev_op (ev_var rfl) ev_c (rv_I ⟨by decide, by decide⟩)) fun H7 e7 => ?_
    refine q_when (b := false) (et_test (ev_op (ev_var rfl) ev_c rv_I0)) (fun hh => nomatch hh) (fun _ H8 e8 => ?_)
    have nb : decide (bigI ≤ ((1 : Nat) : Int) * (b : Int)) = false := by
      rw [show ((1 : Nat) : Int) * (b : Int) = (b : Int) from Int.one_mul _]
      exact decide_eq_false (lt_big (small_1000 (by omega)))
    refine s_when (b := false) (et_is (et_or (et_test (ev_op (ev_var rfl) (ev_var rfl) rv_I0)) fun _ => et_and (a := false) (b := false) (et_test (ev_op (ev_var rfl) ev_c rv_I0)) fun hh => nomatch hh) (by rw [nb]; rfl)) (fun hh => nomatch hh) (fun _ H9 e9 => ?_)
    refine ⟨?_, e34.trans (e5.trans (e6.trans (e7.trans (e8.trans e9))))⟩
    have eb : ((1 : Nat) : Int) * (b : Int) = (b : Int) := Int.one_mul _
    show [some (V.int (b : Int)), some (V.int (((1 : Nat) : Int) / 2)), some (V.int bigI), some (V.int (((1 : Nat) : Int) * (b : Int)))] = _
    rw [eb]
    rfl
  · have hx1 : x = 0 := by
      have := of_decide_eq_false ht
      omega
    subst hx1
    rw [Nat.pow_zero, Nat.mul_one] at hf
    refine s_ret (ev_var rfl) fun H5 e5 => ?_
    show Q (.int (f : Int)) H5
    rw [hf]
    exact q H5 (e3.trans (e4.trans e5))
def spWorth (K : PySem.W.Frag) (n : Nat) : Sp := fun vs H Q _ => ∃ (a : Addr) (t : T) (b : Nat), vs = [.ref a, .int (b : Int)] ∧ NumAt K H t a ∧ 2 ≤ b ∧ b ≤ 18 ∧ NF b t ∧ val b t < b ^ 2 ∧ val b t < bnd b n ∧ ∀ H', Ex H H' → Q (.int ((val b t : Nat) : Int)) H'
theorem scWorth : FnScope ["a", "base", "found", "exponent", "count"] ["a", "base"] (defScope sWorth) := ⟨rfl, rfl, rfl, by decide +kernel, rfl, by decide +kernel, by decide +kernel⟩
theorem mulx_small {a b : Nat} (ha : a ≤ 1000) (hb : b ≤ 1000) : CMulX (a : Int) (b : Int) := mulx_ok (a := 10) (b := 10) (show a < 2 ^ 10 by omega) (show b < 2 ^ 10 by omega) (by omega)
set_option exponentiation.threshold 10000 in
theorem step_worth {f g u : Addr} {fd gd ud : FuncData} {n : Nat} (F : Fun K "worth" "worth" sWorth f fd) (bF : Binds K fd ["a", "base"] []) (mF : mg "worth" = some (.ref f))
    (GB : FnOk P w K mg base CX0 2 g gd ["base", "exponent"] spBaseTo) (bG : Binds K gd ["base", "exponent"] []) (kG : PySem.W.keepIn K (.ref g) = true) (mG : mg "base_to" = some (.ref g))
    (GT : FnOk P w K mg base CX0 1 u ud [] spTooGreat) (bU : Binds K ud [] []) (kU : PySem.W.keepIn K (.ref u) = true) (mU : mg "too_great" = some (.ref u))
    (G : FnOk P w K mg base CX0 (n + 2) f fd ["a", "base"] (spWorth K n)) : FnOk P w K mg base CX0 (n + 3) f fd ["a", "base"] (spWorth K (n + 1)) := by
  refine F.ok scWorth (fun vs H Q E h => ?_) (fun cdv A outer s H vs Q E hr h => ?_)
  · obtain ⟨a, t, b, rfl, _⟩ := h
    rfl
  obtain ⟨a, t, b, rfl, ⟨xs, hx, hp⟩, hb, hb2, nf, hs, hv, q⟩ := h
  refine ⟨_, pss_cons (ps_set (i := 2) scWorth.nd rfl (Or.inl rfl) pe_int)
    (pss_cons (ps_for PassesOwn.never rfl (pi_tup (pv 0)) (pg_tup rfl (pgs_cons (pg_name (i := 3) scWorth.nd rfl (Or.inl rfl)) (pgs_cons (pg_name (i := 4) scWorth.nd rfl (Or.inl rfl)) pgs_nil)))
      (pss_one (ps_aug (i := 2) scWorth.nd rfl (Or.inl rfl) (pe_op op_mulX (pv 4) (pe_call GB (hr.mono (by omega)) (by rfl) mG kG bG .nil pass0 (pa_cons (pv 1) (pa_cons (pe_call G hr (by rfl) mF F.kp bF .nil pass0 (pa_cons (pv 3) (pa_cons (pv 1) pa_nil))) pa_nil)))) ip_add)))
    (pss_cons (ps_if (pt_cmpR op_ge (pv 2) (pe_call0 GT (hr.mono (by omega)) (by rfl) mU kU bU .nil pass0) (nomark _)) pss_never pss_nil)
    (pss_one (ps_ret (pv 2))))), ?_⟩
  have hbb : b ^ 2 ≤ 324 := by
    have h1 : b * b ≤ 18 * 18 := Nat.mul_le_mul hb2 hb2
    rw [Nat.pow_two]
    omega
  have et := of_parts t
  rw [← et] at hp nf hv hs
  have hl := psAt_len hp
  refine q_asg ev_c fun H1 e1 => ?_
  refine q_forT (a := a) (xs := xs) (ev_var rfl) (ex_t e1 hx)
    (fun i σ' H' => ∃ (m : Nat), ∃ y3 y4, σ' = [some (.ref a), some (.int (b : Int)), some (.int (m : Int)), y3, y4] ∧ Ex H H' ∧ m + val b (ofL ((parts t).drop i)) = val b t)
    (fun H2 e2 => ⟨0, none, none, rfl, e1.trans e2, by rw [List.drop_zero, et, Nat.zero_add]⟩) (fun i σ' H' _ ⟨_, _, _, _, e2, _⟩ => ex_t e2 hx) (fun i x σ' H' hi p => ?_) (fun σ' H' p => ?_)
  · obtain ⟨m, y3, y4, rfl, e2, hm⟩ := p
    have hi' : i < (parts t).length := by
      rw [← hl]
      exact (List.getElem?_eq_some_iff.mp hi).1
    have hg : (parts t)[i]? = some (parts t)[i] := List.getElem?_eq_getElem hi'
    obtain ⟨x', hx', pa, aa, rfl, h1, h2⟩ := psAt_get hp hg
    have ex : x = .ref pa := Option.some.inj (hi.symm.trans hx')
    subst ex
    have hmem : (parts t)[i] ∈ parts t := List.getElem_mem hi'
    have hn := nf_mem nf _ hmem
    have hvm := val_mem nf _ hmem
    rw [drop_at hg] at hm
    generalize (parts t)[i] = p at hm hn hvm h1 h2
    have hsm : val b p.1 < 2 := lt_of_pow hb (Nat.lt_of_le_of_lt hvm hs)
    have h22 : 2 ≤ b ^ 2 := Nat.le_trans hb (by rw [Nat.pow_two]; exact Nat.le_mul_of_pos_right b (by omega))
    have hpw : b ^ val b p.1 ≤ 324 := Nat.le_trans (Nat.pow_le_pow_right (by omega) (by omega)) hbb
    have hm' : m + (p.2 * b ^ val b p.1 + val b (ofL ((parts t).drop (i + 1)))) = val b t := hm
    refine ⟨pa, [.ref aa, .int (p.2 : Int)], rfl, ex_t e2 h1, rfl, .ref aa, [.int (p.2 : Int)], rfl, .int (p.2 : Int), [], rfl, rfl, ?_⟩
    refine s_aug (f := fun i j => i + j) (a := (m : Int)) rfl (ev_op (ev_var rfl) (ev_call' (z := .int ((b ^ val b p.1 : Nat) : Int)) (ea_cons (ev_var rfl) (ea_cons (ev_call' (z := .int ((val b p.1 : Nat) : Int)) (ea_cons (ev_var rfl) (ea_cons (ev_var rfl) ea_nil))
      (fun H3 e3 Q3 q3 E3 => ⟨aa, p.1, b, rfl, numAt_mono (e2.trans e3) h2, hb, hb2, hn.2.2, by omega, bnd_down hb hv hvm, q3⟩)) ea_nil))
      (fun H3 e3 Q3 q3 E3 => ⟨b, val b p.1, rfl, hb, hb2, hsm, q3⟩)) (rv_I (mulx_small (a := p.2) (by omega) (by omega)))) fun H3 e3 => ?_
    refine ⟨m + p.2 * b ^ val b p.1, some (.ref aa), some (.int (p.2 : Int)), ?_, e2.trans e3, by omega⟩
    rw [Int.natCast_add, Int.natCast_mul]
    rfl
  · obtain ⟨m, y3, y4, rfl, e2, hm⟩ := p
    rw [hl, List.drop_length] at hm
    have hm' : m + 0 = val b t := hm
    rw [et] at hs
    have nb : decide (bigI ≤ (m : Int)) = false := decide_eq_false (lt_big (small_1000 (by omega)))
    refine q_when (b := false) (et_is (et_test (ev_op (ev_var rfl) (ev_call0 (z := .int bigI) fun H1 e1 Q1 q1 E1 => ⟨rfl, q1⟩) rv_I0)) nb) (fun hh => nomatch hh) (fun _ H3 e3 => ?_)
    refine s_ret (ev_var rfl) fun H4 e4 => ?_
    show Q (.int (m : Int)) H4
    rw [show m = val b t from hm']
    exact q H4 (e2.trans (e3.trans e4))
theorem none_worth {f : Addr} {fd : FuncData} {k : Nat} : FnOk P w K mg base CX0 k f fd ["a", "base"] (spWorth K 0) := by
  have no : ∀ vs H Q E, ¬ spWorth K 0 vs H Q E := fun vs H Q E h => by
    obtain ⟨a, t, b, _, _, _, _, _, _, h1, _⟩ := h
    exact Nat.not_lt_zero _ h1
  exact ⟨fun vs H Q E h => absurd h (no vs H Q E), fun A outer s H args us vs Q E _ _ _ _ h => absurd h (no vs H Q E)⟩
theorem ok_worth {f g u : Addr} {fd gd ud : FuncData} (F : Fun K "worth" "worth" sWorth f fd) (bF : Binds K fd ["a", "base"] []) (mF : mg "worth" = some (.ref f))
    (GB : FnOk P w K mg base CX0 2 g gd ["base", "exponent"] spBaseTo) (bG : Binds K gd ["base", "exponent"] []) (kG : PySem.W.keepIn K (.ref g) = true) (mG : mg "base_to" = some (.ref g))
    (GT : FnOk P w K mg base CX0 1 u ud [] spTooGreat) (bU : Binds K ud [] []) (kU : PySem.W.keepIn K (.ref u) = true) (mU : mg "too_great" = some (.ref u)) :
    ∀ n, FnOk P w K mg base CX0 (n + 2) f fd ["a", "base"] (spWorth K n)
  | 0 => none_worth
  | n + 1 => step_worth F bF mF GB bG kG mG GT bU kU mU (ok_worth F bF mF GB bG kG mG GT bU kU mU n)
end
end HH

set_option Elab.async false
set_option maxRecDepth 100000
set_option maxHeartbeats 4000000
set_option linter.all false
namespace HH
open PySem L2 Evl
/-! ### readings of a few shapes -/
section
variable {K : PySem.W.Frag} {σ : L2.St} {H H' : Hp} {ta tb te : TE} {x y z v : V} {D : Ends} {tu tw tz : TS} {P : V → Hp → Prop}
/-- a, b = a tuple just made -/
theorem q_asgTup2 {i j : Nat} (h : EvU te σ H [x, y]) (k : ∀ H1, Ex H H1 → tz D ((σ.set i (some x)).set j (some y)) H1) : tSeq (tAsg te (gTup K 2 (gCons (gName i) (gCons (gName j) gNil)))) tz D σ H :=
  h H (Ex.refl H) _ fun p H1 _ e hT => ⟨p, [x, y], rfl, st_of hT, rfl, x, [y], rfl, y, [], rfl, rfl, k H1 e⟩
/-- a, b = a tuple that stands -/
theorem q_asgTupR {i j : Nat} {q : Addr} (h : Ev te σ H (.ref q)) (hq : SqT K H q [x, y]) (k : ∀ H1, Ex H H1 → tz D ((σ.set i (some x)).set j (some y)) H1) : tSeq (tAsg te (gTup K 2 (gCons (gName i) (gCons (gName j) gNil)))) tz D σ H :=
  h H (Ex.refl H) _ fun H1 e => ⟨q, [x, y], rfl, ex_t e hq, rfl, x, [y], rfl, y, [], rfl, rfl, k H1 e⟩
/-- xs.append(e), the value not told -/
theorem s_appP {l : Addr} {xs : List V} (hl : H l = some (.lst xs)) (ha : Ev ta σ H (.ref l)) (h : EvP te σ H P) (hz : xs.length < 100000) (k : ∀ v H1, Ex H H1 → P v H1 → D.nx σ (upd H1 l (.lst (xs ++ [v])))) :
    tDrop (tBM K "list" rAppend ta (tCons te tNil)) D σ H := ha H (Ex.refl H) _ fun H1 e1 =>
  ⟨Or.inl ⟨rfl, xs, sq_of (e1 l _ hl)⟩, h H1 e1 _ fun v H2 e2 p => ⟨l, xs, v, rfl, rfl, e2 l _ (e1 l _ hl), sz_lt hz, k v H2 (e1.trans e2) p⟩⟩
/-- (e, y): the first place not told -/
theorem evp_pair (hm : ∀ v H1 H2, Ex H1 H2 → P v H1 → P v H2) (h : EvP ta σ H P) (hb : Ev tb σ H y) : EvP (tTup (tCons ta (tCons tb tNil))) σ H (fun v H2 => ∃ x q, v = .ref q ∧ H2 q = some (.tup [x, y]) ∧ P x H2) := fun H1 e Q q =>
  h H1 e _ fun x H2 e2 p => hb H2 (e.trans e2) _ fun H3 e3 => ⟨by show 2 ≤ sizeLine; decide, fun a ha => q (.ref a) _ (e2.trans (e3.trans (Ex.new ha))) ⟨x, a, rfl, upd_same, hm _ _ _ (e3.trans (Ex.new ha)) p⟩⟩
/-- (e, y): both told -/
theorem evu_pair (h : Ev ta σ H x) (hb : Ev tb σ H y) : EvU (tTup (tCons ta (tCons tb tNil))) σ H [x, y] := eu_tup (ea_cons h (ea_cons hb ea_nil)) (by show 2 ≤ 100000; decide)
theorem eu_divmod {i j : Int} {tA : TA} (h : EvA tA σ H [.int i, .int j]) (hc : CDivP i j) :
    EvU (tCB (fun xs H Q => ∃ i j, xs = [.int i, .int j] ∧ CDivP i j ∧ ∀ p, H p = none → Q (.ref p) (upd H p (.tup [.int (i / j), .int (i % j)]))) tA) σ H [.int (i / j), .int (i % j)] := fun H1 e Q q =>
  h H1 e _ fun H2 e2 => ⟨i, j, rfl, hc, fun p hp => q p _ (fresh_back e2 hp) (e2.trans (Ex.new hp)) upd_same⟩
/-- tuple(reversed(xs)) -/
theorem eu_tupRev {l : Addr} {xs : List V} (h : Ev te σ H (.ref l)) (hl : SqL K H l xs) : EvU (RT.tTupRev K te) σ H xs.reverse := fun H1 e Q q =>
  h H1 e _ fun H2 e2 => ⟨l, xs, rfl, ex_l (e.trans e2) hl, fun p hp => q p _ (fresh_back e2 hp) (e2.trans (Ex.new hp)) upd_same⟩
end
/-! ### the sums -/
theorem step_sum {x b P v m : Nat} (h : v + x * P = m) : (x % b * P + v) + x / b * (b * P) = m := by
  have h1 : x * P = (b * (x / b) + x % b) * P := by rw [Nat.div_add_mod]
  have h2 : (b * (x / b) + x % b) * P = x / b * (b * P) + x % b * P := by
    rw [Nat.add_mul, Nat.mul_comm b (x / b), Nat.mul_assoc]
  omega
theorem step_bound {r b P v : Nat} (h : v < P) (hr : r < b) : r * P + v < b * P := by
  have h6 : (r + 1) * P ≤ b * P := Nat.mul_le_mul_right _ hr
  rw [Nat.succ_mul] at h6
  omega
theorem cast_div (x b : Nat) : (x : Int) / (b : Int) = ((x / b : Nat) : Int) := (Int.natCast_ediv x b).symm
theorem cast_mod (x b : Nat) : (x : Int) % (b : Int) = ((x % b : Nat) : Int) := (Int.natCast_emod x b).symm
theorem divp_small {i j : Nat} (h0 : 0 < j) (h : j ≤ 1000) : CDivP (i : Int) (j : Int) := by
  refine ⟨by omega, ?_⟩
  have h1 : (j : Int).natAbs.log2 / 30 = 0 := by
    have : (j : Int).natAbs.log2 < 10 := PySem.Flt.log2_lt_of (by omega) (show j < 2 ^ 10 by omega)
    omega
  show (decide ((if (j : Int) == 0 then 0 else (j : Int).natAbs.log2 / 30 + 1) > 300) && _) = false
  rw [if_neg (show ¬ ((j : Int) == 0) = true by simpa using (show j ≠ 0 by omega)), h1]
  rfl
section
variable {P : Program} {w : World} {K : PySem.W.Frag} {mg : Str → Option Value} {base : Heap}
/-! ### written -/
def spWritten (K : PySem.W.Frag) (n : Nat) : Sp := fun vs H Q _ => ∃ m b : Nat, vs = [.int (m : Int), .int (b : Int)] ∧ 2 ≤ b ∧ b ≤ 18 ∧ m < b ^ (b * b) ∧ m < bnd b n ∧ ∀ (p : Addr) H', Ex H H' → NumAt K H' (W b m) p → Q (.ref p) H'
theorem scWritten : FnScope ["m", "base", "parts", "place", "figure"] ["m", "base"] (defScope sWritten) := ⟨rfl, rfl, rfl, by decide +kernel, rfl, by decide +kernel, by decide +kernel⟩
theorem sq_le {b : Nat} (h : b ≤ 18) : b * b ≤ 324 := Nat.mul_le_mul h h
theorem sq_lt_pow {b p : Nat} (hb : 2 ≤ b) (h : p < b * b) : p < b ^ (b * b) := Nat.lt_trans h (lt_pow_self' hb _)
theorem step_written {f g : Addr} {fd gd : FuncData} {n : Nat} {ad : Arguments} {dvs : List V} (F : FunD K "written" "written" ad (defBody sWritten) (defScope sWritten) dvs [] f fd) (B : Bl mg) (bF : Binds K fd ["m", "base"] []) (mF : mg "written" = some (.ref f))
    (GW : FnOk P w K mg base CX0 1 g gd ["thing"] spWhole) (bG : Binds K gd ["thing"] []) (kG : PySem.W.keepIn K (.ref g) = true) (mG : mg "is_whole" = some (.ref g))
    (G : FnOk P w K mg base CX0 (n + 1) f fd ["m", "base"] (spWritten K n)) : FnOk P w K mg base CX0 (n + 2) f fd ["m", "base"] (spWritten K (n + 1)) := by
  refine F.ok scWritten (fun vs H Q E h => ?_) (fun cdv A outer s H vs Q E hr h => ?_)
  · obtain ⟨m, b, rfl, _⟩ := h
    rfl
  obtain ⟨m0, b, rfl, hb, hb2, hm, hd, q⟩ := h
  refine ⟨_, PSs.nox (pss_cons (ps_if (PW.pt (pw_or (pt_not (pt_val (pe_call GW (hr.mono (by omega)) (by rfl) mG kG bG .nil pass0 (pa_cons (pv 0) pa_nil))))
      (pw_or (pt_not (pt_val (pe_call GW (hr.mono (by omega)) (by rfl) mG kG bG .nil pass0 (pa_cons (pv 1) pa_nil)))) (pw_or1 (pt_cmpR op_lt (pv 1) pe_int (nomark _)))))) pss_never pss_nil)
    (pss_cons (ps_set (i := 2) scWritten.nd rfl (Or.inl rfl) (pe_lst pa_nil))
    (pss_cons (ps_set (i := 3) scWritten.nd rfl (Or.inl rfl) pe_int)
    (pss_cons (ps_while PassesOwn.never (pt_cmpR op_gt (pv 0) pe_int (nomark _))
      (pss_cons (ps_asg (pe_callB call_divmodW (by rfl) B.divmod PyProof.Rows.boot_divmod (pa_cons (pv 0) (pa_cons (pv 1) pa_nil))) (pg_tup rfl (pgs_cons (pg_name (i := 0) scWritten.nd rfl (Or.inl rfl)) (pgs_cons (pg_name (i := 4) scWritten.nd rfl (Or.inl rfl)) pgs_nil))))
      (pss_cut (ps_if (pt_cmpR op_gt (pv 4) pe_int (nomark _)) (pss_one (ps_expr (pe_bm PySem.F.plainAttrs_list PySem.F.slot_list_append PySem.F.type_list_append mt_append (pv 2)
          (pa_cons (pe_tup (pa_cons (pe_call G hr (by rfl) mF F.kp bF .nil pass0 (pa_cons (pv 3) (pa_cons (pv 1) pa_nil))) (pa_cons (pv 4) pa_nil))) pa_nil)))) pss_nil)
      (pss_one (ps_aug (i := 3) scWritten.nd rfl (Or.inl rfl) pe_int ip_add)))))
    (pss_one (ps_ret (RT.pe_tupRev rfl (by rfl) B.tuple (by rfl) B.reversed (pv 2)))))))), ?_⟩
  have hbb := sq_le hb2
  have hw : ∀ (n : Nat) (σ : L2.St) (H1 : Hp), SpV spWhole ([.int (n : Int)] ++ []) H1 (.bl true) := fun n σ H1 H2 _ Q2 q2 _ => ⟨(n : Int), rfl, Int.natCast_nonneg n, q2⟩
  refine q_when (b := false) (et_is (et_or (et_not (et_B (ev_call' (ea_cons (ev_var rfl) ea_nil) (hw m0 [] H)))) fun _ => et_or (et_not (et_B (ev_call' (ea_cons (ev_var rfl) ea_nil) (hw b [] H)))) fun _ => et_test (ev_op (ev_var rfl) ev_c rv_I0)) ?_)
    (fun hh => nomatch hh) (fun _ H1 e1 => ?_)
  · show (!true || (!true || decide ((b : Int) < 2))) = false
    rw [decide_eq_false (by omega)]
    rfl
  refine q_asgL (xs := []) (el_lst ea_nil (Nat.zero_le _)) fun l H2 nl1 e2 hl2 => ?_
  have nl : H l = none := fresh_back e1 nl1
  refine q_asg ev_c fun H3 e3 => ?_
  refine q_while (fun mm σ' H' => ∃ (x pl : Nat), ∃ y4, ∃ (xs : List V) (acc : Ps), σ' = [some (.int (x : Int)), some (.int (b : Int)), some (.ref l), some (.int (pl : Int)), y4] ∧ Ex H H' ∧ H' l = some (.lst xs) ∧ PsAt K H' (ofL acc) xs.reverse ∧
      NF b (ofL acc) ∧ val b (ofL acc) + x * b ^ pl = m0 ∧ val b (ofL acc) < b ^ pl ∧ xs.length ≤ pl ∧ x = mm) m0
    ⟨m0, 0, none, [], [], rfl, e1.trans (e2.trans e3), e3 _ _ hl2, rfl, trivial, by show 0 + m0 * b ^ 0 = m0; rw [Nat.pow_zero]; omega, by show 0 < b ^ 0; rw [Nat.pow_zero]; omega, Nat.zero_le _, rfl⟩ (fun mm σ' H' hw' => ?_)
  obtain ⟨x, pl, y4, xs, acc, rfl, e4, hl4, hp4, nf4, hv4, hb4, hz4, rfl⟩ := hw'
  refine ⟨decide ((0 : Int) < (x : Int)), et_test (ev_op (ev_var rfl) ev_c rv_I0), fun ht H5 e5 => ?_, fun ht H5 e5 => ?_⟩
  · have hx : 0 < x := by
      have := of_decide_eq_true ht
      omega
    have hP := pow_pos' hb pl
    have hpm : b ^ pl ≤ m0 := by
      have : 1 * b ^ pl ≤ x * b ^ pl := Nat.mul_le_mul_right _ hx
      omega
    have hpl : pl < b * b := lt_of_pow hb (Nat.lt_of_le_of_lt hpm hm)
    have hpd : pl < bnd b n := bnd_down hb hd hpm
    have hq : x / b < x := Nat.div_lt_self hx (by omega)
    have hr2 : x % b < b := Nat.mod_lt _ (by omega)
    have hsum := step_sum (b := b) hv4
    have hPs : b ^ (pl + 1) = b * b ^ pl := by rw [Nat.pow_succ, Nat.mul_comm]
    rw [← hPs] at hsum
    refine ⟨fun σ2 H6 => ∃ (xs : List V) (acc : Ps), σ2 = [some (.int ((x / b : Nat) : Int)), some (.int (b : Int)), some (.ref l), some (.int ((pl + 1 : Nat) : Int)), some (.int ((x % b : Nat) : Int))] ∧ Ex H H6 ∧ H6 l = some (.lst xs) ∧ PsAt K H6 (ofL acc) xs.reverse ∧
        NF b (ofL acc) ∧ val b (ofL acc) + x / b * b ^ (pl + 1) = m0 ∧ val b (ofL acc) < b ^ (pl + 1) ∧ xs.length ≤ pl + 1, fun σ2 H6 h6 => ?_, ?_⟩
    · obtain ⟨xs', acc', h1, h2, h3, h4, h5, h6, h7, h8⟩ := h6
      exact ⟨x / b, hq, x / b, pl + 1, _, xs', acc', h1, h2, h3, h4, h5, h6, h7, h8, rfl⟩
    refine q_asgTup2 (eu_divmod (ea_cons (ev_var rfl) (ea_cons (ev_var rfl) ea_nil)) (divp_small (by omega) (by omega))) fun H6 e6 => ?_
    rw [cast_div, cast_mod]
    have e56 := e4.trans (e5.trans e6)
    have e46 := e5.trans e6
    refine q_cut (M := fun σ2 H7 => ∃ (xs : List V) (acc : Ps), σ2 = [some (.int ((x / b : Nat) : Int)), some (.int (b : Int)), some (.ref l), some (.int (pl : Int)), some (.int ((x % b : Nat) : Int))] ∧ Ex H H7 ∧ H7 l = some (.lst xs) ∧ PsAt K H7 (ofL acc) xs.reverse ∧
        NF b (ofL acc) ∧ val b (ofL acc) + x / b * b ^ (pl + 1) = m0 ∧ val b (ofL acc) < b ^ (pl + 1) ∧ xs.length ≤ pl + 1) ?_ (fun σ2 H7 h7 => ?_)
    · refine s_when (b := decide ((0 : Int) < ((x % b : Nat) : Int))) (et_test (ev_op (ev_var rfl) ev_c rv_I0)) (fun hg H7 e7 => ?_) (fun hg H7 e7 => ?_)
      · have hf : 0 < x % b := by
          have := of_decide_eq_true hg
          omega
        have e47 := e46.trans e7
        refine s_appP (l := l) (xs := xs) (e47 l _ hl4) (ev_var rfl)
          (evp_pair (P := fun v H8 => ∃ a, v = .ref a ∧ NumAt K H8 (W b pl) a) (fun v H8 H9 e9 ⟨a, ea, ha⟩ => ⟨a, ea, numAt_mono e9 ha⟩)
            (evp_call (ea_cons (ev_var rfl) (ea_cons (ev_var rfl) ea_nil)) (fun H8 e8 Q8 q8 E8 => ⟨pl, b, rfl, hb, hb2, sq_lt_pow hb hpl, hpd, fun p H9 e9 hp9 => q8 (.ref p) H9 e9 ⟨p, rfl, hp9⟩⟩)) (ev_var rfl)) (by omega) fun v H8 e8 hv8 => ?_
        obtain ⟨xv, qa, rfl, hqa, a, rfl, hna⟩ := hv8
        have e48 := e47.trans e8
        have hl8 : H8 l = some (.lst xs) := e48 l _ hl4
        have hnf : NF b (ofL ((W b pl, x % b) :: acc)) := ⟨hf, hr2, W_nf hb pl, nf4, below_of_val hb nf4 (W_nf hb pl) (by rw [W_val hb]; exact hb4)⟩
        have hvv : val b (ofL ((W b pl, x % b) :: acc)) = x % b * b ^ pl + val b (ofL acc) := by
          show x % b * b ^ val b (W b pl) + val b (ofL acc) = _
          rw [W_val hb]
        refine ⟨xs ++ [.ref qa], (W b pl, x % b) :: acc, rfl, Ex.mut (e56.trans (e7.trans e8)) nl, upd_same, ?_, hnf, ?_, ?_, ?_⟩
        · rw [List.reverse_append]
          refine psAt_cons (p := (W b pl, x % b)) (partAt_mk (p := (W b pl, x % b)) (sqT_list hl8 (st_of hqa)) (numAt_list hl8 hna)) (psAt_list hl8 (psAt_mono e48 hp4))
        · rw [hvv]
          exact hsum
        · rw [hvv, hPs]
          exact step_bound hb4 hr2
        · rw [List.length_append, List.length_singleton]
          omega
      · have hf : x % b = 0 := by
          have := of_decide_eq_false hg
          omega
        have hp1 : b ^ pl ≤ b ^ (pl + 1) := Nat.pow_le_pow_right (by omega) (by omega)
        rw [hf, Nat.zero_mul, Nat.zero_add] at hsum
        exact ⟨xs, acc, rfl, e56.trans e7, (e46.trans e7) l _ hl4, psAt_mono (e46.trans e7) hp4, nf4, hsum, by omega, by omega⟩
    · obtain ⟨xs', acc', rfl, h2, h3, h4, h5, h6, h7, h8⟩ := h7
      refine s_aug (f := fun i j => i + j) (a := (pl : Int)) rfl ev_c fun H8 e8 => ?_
      exact ⟨xs', acc', rfl, h2.trans e8, e8 _ _ h3, psAt_mono e8 h4, h5, h6, h7, h8⟩
  · have hx : x = 0 := by
      have := of_decide_eq_false ht
      omega
    rw [hx, Nat.zero_mul, Nat.add_zero] at hv4
    have hW := W_eq hb nf4 hv4
    refine s_retU (eu_tupRev (l := l) (xs := xs) (ev_var rfl) (sq_of (e5 l _ hl4))) fun p H6 np e6 hp6 => ?_
    refine q p H6 (e4.trans (e5.trans e6)) ⟨_, st_of hp6, ?_⟩
    rw [← hW]
    exact psAt_mono (e5.trans e6) hp4
theorem none_written {f : Addr} {fd : FuncData} {k : Nat} : FnOk P w K mg base CX0 k f fd ["m", "base"] (spWritten K 0) := by
  have no : ∀ vs H Q E, ¬ spWritten K 0 vs H Q E := fun vs H Q E h => by
    obtain ⟨m, b, _, _, _, _, h1, _⟩ := h
    exact Nat.not_lt_zero _ h1
  exact ⟨fun vs H Q E h => absurd h (no vs H Q E), fun A outer s H args us vs Q E _ _ _ _ h => absurd h (no vs H Q E)⟩
theorem ok_written {f g : Addr} {fd gd : FuncData} {ad : Arguments} {dvs : List V} (F : FunD K "written" "written" ad (defBody sWritten) (defScope sWritten) dvs [] f fd) (B : Bl mg) (bF : Binds K fd ["m", "base"] []) (mF : mg "written" = some (.ref f))
    (GW : FnOk P w K mg base CX0 1 g gd ["thing"] spWhole) (bG : Binds K gd ["thing"] []) (kG : PySem.W.keepIn K (.ref g) = true) (mG : mg "is_whole" = some (.ref g)) :
    ∀ n, FnOk P w K mg base CX0 (n + 1) f fd ["m", "base"] (spWritten K n)
  | 0 => none_written
  | n + 1 => step_written F B bF mF GW bG kG mG (ok_written F B bF mF GW bG kG mG n)
end
end HH

set_option Elab.async false
set_option maxRecDepth 100000
set_option maxHeartbeats 4000000
set_option linter.all false
namespace HH
open PySem L2 Evl
/-! ### tuples: slices, sums, lengths -/
section
variable {K : PySem.W.Frag} {σ : L2.St} {H H' : Hp} {ta tb te : TE} {x y z v : V} {D : Ends} {tu tw tz : TS} {P : V → Hp → Prop} {xs ys us : List V}
/-- a tuple of these, at a place not told -/
def EvQ (K : PySem.W.Frag) (te : TE) (σ : L2.St) (H : Hp) (xs : List V) : Prop := EvP te σ H (fun v H2 => ∃ p, v = .ref p ∧ SqT K H2 p xs)
theorem EvQ.ofU (h : EvU te σ H xs) : EvQ K te σ H xs := fun H1 e Q q => h H1 e Q fun p H2 np e2 hp => q (.ref p) H2 e2 ⟨p, rfl, st_of hp⟩
theorem EvQ.ofR {a : Addr} (h : Ev te σ H (.ref a)) (ha : SqT K H a xs) : EvQ K te σ H xs := fun H1 e Q q => h H1 e Q fun H2 e2 => q (.ref a) H2 e2 ⟨a, rfl, ex_t (e.trans e2) ha⟩
theorem evq_cat (ha : EvQ K ta σ H xs) (hb : EvQ K tb σ H ys) (hz : xs.length + ys.length ≤ 100000) : EvQ K (tOp (rCatA K) ta tb) σ H (xs ++ ys) := fun H1 e Q q =>
  ha H1 e _ fun v H2 e2 ⟨p, ev, hp⟩ => by
    subst ev
    exact hb H2 (e.trans e2) _ fun v' H3 e3 ⟨p', ev', hp'⟩ => by
      subst ev'
      have hp3 := ex_t e3 hp
      refine ⟨p, p', xs, ys, rfl, rfl, hp3, hp', sz_of hz, fun hx => ?_, fun hx hy => ?_, fun hx hy r hr => ?_⟩
      · refine q _ H3 (e2.trans e3) ⟨p', rfl, ?_⟩
        rw [hx]
        exact hp'
      · refine q _ H3 (e2.trans e3) ⟨p, rfl, ?_⟩
        rw [hy, List.append_nil]
        exact hp3
      · exact q _ _ ((e2.trans e3).trans (Ex.new hr)) ⟨r, rfl, st_of upd_same⟩
/-- (e,): the place not told -/
theorem evp_tup1 (hm : ∀ v H1 H2, Ex H1 H2 → P v H1 → P v H2) (h : EvP ta σ H P) : EvP (tTup (tCons ta tNil)) σ H (fun v H2 => ∃ x q, v = .ref q ∧ H2 q = some (.tup [x]) ∧ P x H2) := fun H1 e Q q =>
  h H1 e _ fun x H2 e2 p => ⟨by show 1 ≤ sizeLine; decide, fun a ha => q (.ref a) _ (e2.trans (Ex.new ha)) ⟨x, a, rfl, upd_same, hm _ _ _ (Ex.new ha) p⟩⟩
theorem evp_ofU (h : EvU te σ H xs) : EvP te σ H (fun v H2 => ∃ p, v = .ref p ∧ SqT K H2 p xs) := fun H1 e Q q => h H1 e Q fun p H2 np e2 hp => q (.ref p) H2 e2 ⟨p, rfl, st_of hp⟩
theorem cut_last (us : List V) (x : V) : cutV (us ++ [x]) none (some (-1)) = us ∧ ¬ (HT.sIx (us ++ [x]).length 0 none = 0 ∧ HT.sIx (us ++ [x]).length (us ++ [x]).length (some (-1)) = (us ++ [x]).length) := by
  have hl : (us ++ [x]).length = us.length + 1 := by rw [List.length_append, List.length_singleton]
  have e : HT.sIx (us ++ [x]).length (us ++ [x]).length (some (-1)) = us.length := by
    show (if (-1 : Int) < 0 then ((-1 : Int) + ((us ++ [x]).length : Int)).toNat else min (-1 : Int).toNat (us ++ [x]).length) = us.length
    rw [if_pos (by decide), hl]
    omega
  constructor
  · unfold cutV
    rw [e, HT.sIx_none, List.drop_zero, Nat.sub_zero, List.take_left']
    rfl
  · rintro ⟨_, h2⟩
    rw [e, hl] at h2
    omega
/-- t[:-1] -/
theorem evu_cut {a : Addr} {tl th : TO} (h : Ev te σ H (.ref a)) (h1 : EvO tl σ H none) (h2 : EvO th σ H (some (-1))) (ha : SqT K H a (us ++ [x])) : EvU (tSl (rSlT K) te tl th) σ H us := fun H1 e _ q =>
  h H1 e _ fun H2 e2 => h1 H2 (e.trans e2) _ fun H3 e3 => h2 H3 ((e.trans e2).trans e3) _ fun H4 e4 =>
    ⟨a, us ++ [x], rfl, ex_t (((e.trans e2).trans e3).trans e4) ha, (cut_last us x).2, fun p hp => by
      rw [(cut_last us x).1]
      exact q p _ (fresh_back ((e2.trans e3).trans e4) hp) (((e2.trans e3).trans e4).trans (Ex.new hp)) upd_same⟩
theorem ev_lenT {p : Addr} (ha : Ev ta σ H (.ref p)) (h : SqT K H p xs) : Ev (tCB (rLenS K) (tCons ta tNil)) σ H (.int (xs.length : Int)) := fun H1 e Q q =>
  ha H1 e _ fun H2 e2 => ⟨p, xs, rfl, Or.inr (ex_t (e.trans e2) h), q H2 e2⟩
/-- tuple(xs), xs a list -/
def rTupleOf (K : PySem.W.Frag) : List V → Hp → VK → Prop := fun xs H Q => ∃ p ys, xs = [.ref p] ∧ ((SqL K H p ys ∧ ∀ l, H l = none → Q (.ref l) (upd H l (.tup ys))) ∨ (SqT K H p ys ∧ Q (.ref p) H))
theorem evu_tupleOf {l : Addr} (h : Ev te σ H (.ref l)) (hl : SqL K H l xs) : EvU (tCB (rTupleOf K) (tCons te tNil)) σ H xs := fun H1 e Q q =>
  h H1 e _ fun H2 e2 => ⟨l, xs, rfl, .inl ⟨ex_l (e.trans e2) hl, fun p hp => q p _ (fresh_back e2 hp) (e2.trans (Ex.new hp)) upd_same⟩⟩
/-- for j in range(n - 1, -1, -1) -/
theorem q_forDown {tA : TA} {j n : Nat} {lo : Int} (h : EvA tA σ H [.int lo, .int (-1), .int (-1)]) (hlo : lo + 1 = (n : Int)) (hn : n ≤ 100000) (Pv : Nat → L2.St → Hp → Prop) (h0 : ∀ H1, Ex H H1 → Pv 0 σ H1)
    (hs : ∀ (i : Nat) σ' H', i < n → Pv i σ' H' → tu { D with nx := Pv (i + 1), ct := Pv (i + 1), bk := tz D } (σ'.set j (some (.int ((n - 1 - i : Nat) : Int)))) H') (hd : ∀ σ' H', Pv n σ' H' → tz D σ' H') : tSeq (tFor (iRng3 tA) (gName j) tu) tz D σ H :=
  h H (Ex.refl H) _ fun H1 e => ⟨lo, -1, -1, (lo - (-1)).toNat, rfl, RgC.neg (by omega) (by omega) (by decide) (by decide), by
    have en : (lo - (-1)).toNat = n := by omega
    rw [en]
    exact for_rangeC (lo := lo) (c := -1) (n := n) Pv (h0 H1 e) (fun i σ' H' hi p => by
      have ei : lo + (i : Int) * (-1) = ((n - 1 - i : Nat) : Int) := by omega
      show tu { D with nx := Pv (i + 1), ct := Pv (i + 1), bk := tz D } (σ'.set j (some (.int (lo + (i : Int) * (-1))))) H'
      rw [ei]
      exact hs i σ' H' hi p) hd⟩
end
/-! ### how many parts -/
theorem nf_len {b : Nat} (hb : 2 ≤ b) : ∀ {ps : Ps} {L : Nat}, NF b (ofL ps) → val b (ofL ps) < b ^ L → ps.length ≤ L
  | [], _, _, _ => Nat.zero_le _
  | p :: r, L, h, hv => by
    obtain ⟨h1, h2, h3, h4, h5⟩ := h
    have ih := nf_len hb h4 (val_below hb h4 h3 h5)
    have hp : val b p.1 < L := lt_of_pow hb (Nat.lt_of_le_of_lt (pow_le_val (r := ofL r) h1) hv)
    rw [List.length_cons]
    omega
section
variable {P : Program} {w : World} {K : PySem.W.Frag} {mg : Str → Option Value} {base : Heap}
def spOneLess (K : PySem.W.Frag) : Sp := fun vs H Q _ => ∃ (a : Addr) (ps : Ps) (e : T) (c : Nat), vs = [.ref a] ∧ NumAt K H (ofL (ps ++ [(e, c)])) a ∧ 0 < c ∧ ps.length ≤ 1000 ∧ ∀ (p : Addr) H', Ex H H' → NumAt K H' (ofL (lessL ps e c)) p → Q (.ref p) H'
theorem scOneLess : FnScope ["a", "exponent", "count"] ["a"] (defScope sOneLess) := ⟨rfl, rfl, rfl, by decide +kernel, rfl, by decide +kernel, by decide +kernel⟩
theorem ok_oneLess {f : Addr} {fd : FuncData} (F : Fun K "one_less" "one_less" sOneLess f fd) : FnOk P w K mg base CX0 1 f fd ["a"] (spOneLess K) := by
  refine F.ok scOneLess (fun vs H Q E h => ?_) (fun cdv A outer s H vs Q E hr h => ?_)
  · obtain ⟨a, ps, e, c, rfl, _⟩ := h
    rfl
  obtain ⟨a, ps, e, c, rfl, ⟨xs, hx, hp⟩, hc, hlen, q⟩ := h
  refine ⟨_, pss_cons (ps_asg (pe_ix ix_tup (pv 0) (pe_un un_neg pe_int) (fun _ _ => rfl)) (pg_tup rfl (pgs_cons (pg_name (i := 1) scOneLess.nd rfl (Or.inl rfl)) (pgs_cons (pg_name (i := 2) scOneLess.nd rfl (Or.inl rfl)) pgs_nil))))
    (pss_cons (ps_if (pt_cmpR op_eq (pv 2) pe_int (nomark _)) (pss_one (ps_ret (pe_slice sl_tup (pv 0) po_none (po_some (pe_un un_neg pe_int))))) pss_nil)
    (pss_one (ps_ret (pe_op op_catA (pe_slice sl_tup (pv 0) po_none (po_some (pe_un un_neg pe_int))) (pe_tup (pa_cons (pe_tup (pa_cons (pv 1) (pa_cons (pe_op op_sub (pv 2) pe_int) pa_nil))) pa_nil)))))), ?_⟩
  obtain ⟨us, x, rfl, hus, qa, ea, rfl, hqa, hea⟩ := psAt_snoc hp
  have hqa : SqT K H qa [.ref ea, .int (c : Int)] := hqa
  have hea : NumAt K H e ea := hea
  have hul := psAt_len hus
  refine q_asgTupR (ev_op (ev_var rfl) (ev_un ev_c ru_neg) (rv_ixT hx (atI_last us (.ref qa)))) hqa fun H1 e1 => ?_
  refine q_when (b := decide (V.int (c : Int) = V.int 1)) (et_test (ev_op (ev_var rfl) ev_c (rv_eq rfl))) (fun hh H2 e2 => ?_) (fun hh H2 e2 => ?_)
  · have hc1 : c = 1 := by
      have h1 := V.int.inj (of_decide_eq_true hh)
      omega
    refine s_retU (evu_cut (ev_var rfl) eo_none (eo_some (ev_un ev_c ru_neg)) (ex_t (e1.trans e2) hx)) fun p H3 np e3 hp3 => ?_
    refine q p H3 (e1.trans (e2.trans e3)) ⟨us, st_of hp3, ?_⟩
    unfold lessL
    rw [if_pos hc1]
    exact psAt_mono (e1.trans (e2.trans e3)) hus
  · have hc1 : c ≠ 1 := fun h1 => (of_decide_eq_false hh) (by rw [h1]; rfl)
    have e12 := e1.trans e2
    -- the new part
    have hN : EvP (tTup (tCons (tTup (tCons (tVar 1) (tCons (tOp (rI0 fun i j => .int (i - j)) (tVar 2) (tC (.int 1))) tNil))) tNil)) ([some (.ref a), some (.ref ea), some (.int (c : Int))] : L2.St) H2 (fun v H3 => ∃ p q, v = .ref p ∧ SqT K H3 p [.ref q] ∧ SqT K H3 q [.ref ea, .int ((c : Int) - 1)]) := by
      have hin : EvU (tTup (tCons (tVar 1) (tCons (tOp (rI0 fun i j => .int (i - j)) (tVar 2) (tC (.int 1))) tNil))) ([some (.ref a), some (.ref ea), some (.int (c : Int))] : L2.St) H2 [.ref ea, .int ((c : Int) - 1)] :=
        evu_pair (ev_var rfl) (ev_op (ev_var rfl) ev_c rv_I0)
      intro H3 e3 Q3 q3
      refine evp_tup1 (P := fun v H3 => ∃ q, v = .ref q ∧ SqT K H3 q [.ref ea, .int ((c : Int) - 1)]) (fun v H1 H2 e ⟨q, e1, h⟩ => ⟨q, e1, ex_t e h⟩) (evp_ofU hin) H3 e3 Q3 fun v H4 e4 ⟨x, p, ev, hp4, q, ex, hq⟩ => ?_
      subst ex
      exact q3 v H4 e4 ⟨p, q, ev, st_of hp4, hq⟩
    have hcut : EvU (tSl (rSlT K) (tVar 0) tNoPart (tPart (tUn (rU fun i => .int (-i)) (tC (.int 1))))) ([some (.ref a), some (.ref ea), some (.int (c : Int))] : L2.St) H2 us :=
      evu_cut (ev_var rfl) eo_none (eo_some (ev_un ev_c ru_neg)) (ex_t e12 hx)
    show tRet (tOp (rCatA K) _ _) _ _ _
    refine hcut H2 (Ex.refl H2) _ fun p H3 np e3 hp3 => ?_
    refine hN H3 e3 _ fun v H4 e4 ⟨p', q', ev, hp', hq'⟩ => ?_
    subst ev
    have e34 := e12.trans (e3.trans e4)
    have hps : PsAt K H4 (ofL (ps ++ [(e, c - 1)])) (us ++ [.ref q']) := by
      refine psAt_app (psAt_mono e34 hus) (psAt_cons (p := (e, c - 1)) (ps := []) ⟨q', ea, rfl, ?_, numAt_mono e34 hea⟩ rfl)
      rw [show ((c - 1 : Nat) : Int) = (c : Int) - 1 by omega]
      exact hq'
    have hless : lessL ps e c = ps ++ [(e, c - 1)] := by
      unfold lessL
      rw [if_neg hc1]
    refine ⟨p, p', us, [.ref q'], rfl, rfl, st_of (e4 _ _ hp3), hp', sz_of (by rw [List.length_singleton]; omega), fun hx0 => ?_, (fun _ hy => nomatch hy), fun _ _ r hr => ?_⟩
    · refine q p' H4 e34 ⟨[.ref q'], hp', ?_⟩
      rw [hless]
      rw [hx0] at hps
      exact hps
    · refine q r _ (e34.trans (Ex.new hr)) ⟨us ++ [.ref q'], st_of upd_same, ?_⟩
      rw [hless]
      exact psAt_mono (Ex.new hr) hps
end
end HH

set_option Elab.async false
set_option maxRecDepth 100000
set_option maxHeartbeats 4000000
set_option linter.all false
namespace HH
open PySem L2 Evl
theorem parts_nil {t : T} (h : parts t = []) : t = .nil := by
  rw [← of_parts t, h]
  rfl
theorem int_ne {i j : Int} (h : i ≠ j) : decide (V.int i = V.int j) = false := decide_eq_false fun e => h (V.int.inj e)
section
variable {P : Program} {w : World} {K : PySem.W.Frag} {mg : Str → Option Value} {base : Heap}
/-! ### down -/
def spDown (K : PySem.W.Frag) : Sp := fun vs H Q _ => ∃ (a : Addr) (t : T) (b : Nat), vs = [.ref a, .int (b : Int)] ∧ NumAt K H t a ∧ 2 ≤ b ∧ b ≤ 18 ∧ NF b t ∧ 0 < val b t ∧ val b t < b ^ (b * b) ∧ val b t < b ^ 201 ∧
  ∀ (p : Addr) H', Ex H H' → NumAt K H' (W b (val b t - 1)) p → Q (.ref p) H'
theorem scDown : FnScope ["a", "base", "exponent", "left", "far", "more", "place"] ["a", "base"] (defScope sDown) := ⟨rfl, rfl, rfl, by decide +kernel, rfl, by decide +kernel, by decide +kernel⟩
theorem ok_down {f f1 f2 f3 f4 : Addr} {fd d1 d2 d3 d4 : FuncData} {tk : Tok} (F : Fun K "down" "down" sDown f fd) (B : Bl mg) (mM : mg "MOST_PARTS" = some (.int 200 tk))
    (G1 : FnOk P w K mg base CX0 5 f1 d1 ["a", "base"] (spFits K)) (b1 : Binds K d1 ["a", "base"] []) (k1 : PySem.W.keepIn K (.ref f1) = true) (m1 : mg "fits" = some (.ref f1))
    (G2 : FnOk P w K mg base CX0 1 f2 d2 ["a"] (spOneLess K)) (b2 : Binds K d2 ["a"] []) (k2 : PySem.W.keepIn K (.ref f2) = true) (m2 : mg "one_less" = some (.ref f2))
    (G3 : FnOk P w K mg base CX0 5 f3 d3 ["a", "base"] (spWorth K 3)) (b3 : Binds K d3 ["a", "base"] []) (k3 : PySem.W.keepIn K (.ref f3) = true) (m3 : mg "worth" = some (.ref f3))
    (G4 : FnOk P w K mg base CX0 4 f4 d4 ["m", "base"] (spWritten K 3)) (b4 : Binds K d4 ["m", "base"] []) (k4 : PySem.W.keepIn K (.ref f4) = true) (m4 : mg "written" = some (.ref f4)) :
    FnOk P w K mg base CX0 6 f fd ["a", "base"] (spDown K) := by
  refine F.ok scDown (fun vs H Q E h => ?_) (fun cdv A outer s H vs Q E hr h => ?_)
  · obtain ⟨a, t, b, rfl, _⟩ := h
    rfl
  obtain ⟨a, t, b, rfl, ⟨xs, hx, hp⟩, hb, hb2, nf, hv0, hv, hv2, q⟩ := h
  refine ⟨_, pss_cons (ps_if (pt_cmpR op_eq (pe_callB call_len_seq (by rfl) B.len PySem.boot_len (pa_cons (pv 0) pa_nil)) pe_int (nomark _)) pss_never pss_nil)
    (pss_cons (ps_if (pt_not (pt_val (pe_call G1 hr (by rfl) m1 k1 b1 .nil pass0 (pa_cons (pv 0) (pa_cons (pv 1) pa_nil))))) pss_never pss_nil)
    (pss_cons (ps_set (i := 2) scDown.nd rfl (Or.inl rfl) (pe_ix ix_tup (pe_ix ix_tup (pv 0) (pe_un un_neg pe_int) (fun _ _ => rfl)) pe_int (fun _ _ => rfl)))
    (pss_cons (ps_set (i := 3) scDown.nd rfl (Or.inl rfl) (pe_call G2 (hr.mono (by omega)) (by rfl) m2 k2 b2 .nil pass0 (pa_cons (pv 0) pa_nil)))
    (pss_cons (ps_if (pt_cmpR op_eq (pe_callB call_len_seq (by rfl) B.len PySem.boot_len (pa_cons (pv 2) pa_nil)) pe_int (nomark _)) (pss_one (ps_ret (pv 3))) pss_nil)
    (pss_cons (ps_set (i := 4) scDown.nd rfl (Or.inl rfl) (pe_call G3 hr (by rfl) m3 k3 b3 .nil pass0 (pa_cons (pv 2) (pa_cons (pv 1) pa_nil))))
    (pss_cons (ps_if (pt_cmpR op_gt (pv 4) (pe_glob (v := .int 200) (by rfl) mM ⟨_, rfl⟩) (nomark _)) pss_never pss_nil)
    (pss_cons (ps_set (i := 5) scDown.nd rfl (Or.inl rfl) (pe_lst pa_nil))
    (pss_cons (ps_for PassesOwn.never rfl (pi_range3 (by rfl) B.range (pa_cons (pe_op op_sub (pv 4) pe_int) (pa_cons (pe_un un_neg pe_int) (pa_cons (pe_un un_neg pe_int) pa_nil)))) (pg_name (i := 6) scDown.nd rfl (Or.inl rfl))
      (pss_one (ps_expr (pe_bm PySem.F.plainAttrs_list PySem.F.slot_list_append PySem.F.type_list_append mt_append (pv 5)
        (pa_cons (pe_tup (pa_cons (pe_call G4 (hr.mono (by omega)) (by rfl) m4 k4 b4 .nil pass0 (pa_cons (pv 6) (pa_cons (pv 1) pa_nil))) (pa_cons (pe_op op_sub (pv 1) pe_int) pa_nil))) pa_nil)))))
    (pss_one (ps_ret (pe_op op_catA (pv 3) (pe_callTy call_tuple_of (by rfl) B.tuple PyProof.Rows.boot_tuple (pa_cons (pv 5) pa_nil))))))))))))), ?_⟩
  have hbb := sq_le hb2
  -- the number's last part
  obtain ⟨ps, e, c, rfl⟩ : ∃ (ps : Ps) (e : T) (c : Nat), t = ofL (ps ++ [(e, c)]) := by
    have h1 : parts t ≠ [] := fun h1 => by
      rw [parts_nil h1] at hv0
      exact Nat.lt_irrefl _ hv0
    refine ⟨(parts t).dropLast, ((parts t).getLast h1).1, ((parts t).getLast h1).2, ?_⟩
    rw [List.dropLast_concat_getLast h1, of_parts]
  have hmem := nf_mem nf (e, c) (List.mem_append_right _ (List.mem_singleton.mpr rfl))
  obtain ⟨hc0, hc1, hne⟩ := hmem
  have hc0 : 0 < c := hc0
  have hne : NF b e := hne
  have hvm : b ^ val b e ≤ val b (ofL (ps ++ [(e, c)])) := val_mem nf (e, c) (List.mem_append_right _ (List.mem_singleton.mpr rfl))
  have hv4 : val b (ofL (ps ++ [(e, c)])) < bnd b 4 := bnd_four hb (Nat.le_refl b) hv
  have he1 : val b e < b * b := lt_of_pow hb (Nat.lt_of_le_of_lt hvm hv)
  have he2 : val b e < 201 := lt_of_pow hb (Nat.lt_of_le_of_lt hvm hv2)
  have he3 : val b e < bnd b 3 := bnd_down hb hv4 hvm
  have hlen : (ps ++ [(e, c)]).length ≤ 201 := nf_len hb nf hv2
  rw [List.length_append, List.length_singleton] at hlen
  have hdn := down_ok hb nf
  obtain ⟨us, x, rfl, hus, qa, ea, rfl, hqa, hea⟩ := psAt_snoc hp
  have hqa : SqT K H qa [.ref ea, .int (c : Int)] := hqa
  have hea : NumAt K H e ea := hea
  obtain ⟨ys, hys, hpe⟩ := id hea
  have hle : ys.length = (parts e).length := by
    rw [← of_parts e] at hpe
    exact psAt_len hpe
  have hnum : NumAt K H (ofL (ps ++ [(e, c)])) a := ⟨_, hx, hp⟩
  -- not 0
  refine q_when (b := false) (et_is (et_test (ev_op (ev_lenT (ev_var rfl) hx) ev_c (rv_eq rfl))) (int_ne (by rw [List.length_append, List.length_singleton]; omega))) (fun hh => nomatch hh) (fun _ H1 e1 => ?_)
  -- it fits
  refine q_when (b := !true) (et_not (et_B (ev_call' (z := .bl true) (ea_cons (ev_var rfl) (ea_cons (ev_var rfl) ea_nil)) (fun H2 e2 Q2 q2 E2 => ⟨a, ofL (ps ++ [(e, c)]), b, rfl, numAt_mono (e1.trans e2) hnum, hb, nf, hv4, q2⟩)))) (fun hh => nomatch hh) (fun _ H2 e2 => ?_)
  have e12 := e1.trans e2
  refine q_asg (v := .ref ea) (ev_op (ev_op (ev_var rfl) (ev_un ev_c ru_neg) (rv_ixT (ex_t e12 hx) (atI_last us (.ref qa)))) ev_c (rv_ixT (ex_t e12 hqa) (atI_nat (j := 0) rfl))) fun H3 e3 => ?_
  have e13 := e12.trans e3
  refine q_asgP (P := fun v H' => ∃ p, v = .ref p ∧ NumAt K H' (ofL (lessL ps e c)) p) (evp_call (ea_cons (ev_var rfl) ea_nil) (fun H4 e4 Q4 q4 E4 => ⟨a, ps, e, c, rfl, numAt_mono (e13.trans e4) hnum, hc0, by omega, fun p H5 e5 hp5 => q4 (.ref p) H5 e5 ⟨p, rfl, hp5⟩⟩)) fun v H4 e4 ⟨lf, ev, hlf⟩ => ?_
  subst ev
  have e14 := e13.trans e4
  refine q_when (b := decide (V.int (ys.length : Int) = V.int 0)) (et_test (ev_op (ev_lenT (ev_var rfl) (ex_t e14 hys)) ev_c (rv_eq rfl))) (fun hh H5 e5 => ?_) (fun hh H5 e5 => ?_)
  · -- the last exponent is 0
    have h0 := V.int.inj (of_decide_eq_true hh)
    have h1 : (parts e).length = 0 := by omega
    have h2 : e = .nil := parts_nil (List.eq_nil_of_length_eq_zero h1)
    subst h2
    have h3 : ofL (lessL ps .nil c) = W b (val b (ofL (ps ++ [(.nil, c)])) - 1) := by
      rw [← hdn]
      show _ = ofL (lessL ps .nil c ++ [])
      rw [List.append_nil]
    refine s_ret (ev_var rfl) fun H6 e6 => ?_
    refine q lf H6 (e14.trans (e5.trans e6)) ?_
    rw [← h3]
    exact numAt_mono (e5.trans e6) hlf
  · have e15 := e14.trans e5
    refine q_asg (ev_call' (z := .int ((val b e : Nat) : Int)) (ea_cons (ev_var rfl) (ea_cons (ev_var rfl) ea_nil)) (fun H6 e6 Q6 q6 E6 => ⟨ea, e, b, rfl, numAt_mono (e15.trans e6) hea, hb, hb2, hne, by rw [Nat.pow_two]; exact he1, he3, q6⟩)) fun H6 e6 => ?_
    refine q_when (b := false) (et_is (et_test (ev_op (ev_var rfl) ev_c rv_I0)) (decide_eq_false (by omega))) (fun hh => nomatch hh) (fun _ H7 e7 => ?_)
    refine q_asgL (xs := []) (el_lst ea_nil (Nat.zero_le _)) fun l H8 nl e8 hl8 => ?_
    have e17 := e15.trans (e6.trans e7)
    have hlf7 := numAt_mono (e5.trans (e6.trans e7)) hlf
    refine q_forDown (n := val b e) (lo := ((val b e : Nat) : Int) - 1) (ea_cons (ev_op (ev_var rfl) ev_c rv_I0) (ea_cons (ev_un ev_c ru_neg) (ea_cons (ev_un ev_c ru_neg) ea_nil))) (by omega) (by omega)
      (fun i σ' H' => ∃ y6, ∃ (xs : List V) (acc : Ps), σ' = [some (.ref a), some (.int (b : Int)), some (.ref ea), some (.ref lf), some (.int ((val b e : Nat) : Int)), some (.ref l), y6] ∧ Ex H7 H' ∧ H' l = some (.lst xs) ∧ PsAt K H' (ofL acc) xs ∧
        acc ++ fillL b (val b e - i) = fillL b (val b e) ∧ xs.length = i)
      (fun H9 e9 => ⟨none, [], [], rfl, e8.trans e9, e9 _ _ hl8, rfl, rfl, rfl⟩) (fun i σ' H' hi p => ?_) (fun σ' H' p => ?_)
    · obtain ⟨y6, zs, acc, rfl, e9, hl9, hp9, ha9, hz9⟩ := p
      have hfill : fillL b (val b e - i) = (W b (val b e - 1 - i), b - 1) :: fillL b (val b e - (i + 1)) := by
        rw [show val b e - i = (val b e - 1 - i) + 1 by omega, show val b e - (i + 1) = val b e - 1 - i by omega]
        rfl
      have hpl : val b e - 1 - i < b * b := by omega
      refine s_appP (l := l) (xs := zs) hl9 (ev_var rfl)
        (evp_pair (P := fun v H8 => ∃ a, v = .ref a ∧ NumAt K H8 (W b (val b e - 1 - i)) a) (fun v H8 H9 e9 ⟨a, ea, ha⟩ => ⟨a, ea, numAt_mono e9 ha⟩)
          (evp_call (ea_cons (ev_var rfl) (ea_cons (ev_var rfl) ea_nil)) (fun H8 e8 Q8 q8 E8 => ⟨val b e - 1 - i, b, rfl, hb, hb2, sq_lt_pow hb hpl, by omega, fun p H9 e9 hp9 => q8 (.ref p) H9 e9 ⟨p, rfl, hp9⟩⟩)) (ev_op (ev_var rfl) ev_c rv_I0)) (by omega) fun v H10 e10 hv10 => ?_
      obtain ⟨xv, qb, rfl, hqb, a', rfl, hna⟩ := hv10
      have hl10 : H10 l = some (.lst zs) := e10 l _ hl9
      refine ⟨some (.int ((val b e - 1 - i : Nat) : Int)), zs ++ [.ref qb], acc ++ [(W b (val b e - 1 - i), b - 1)], rfl, Ex.mut (e9.trans e10) nl, upd_same, ?_, ?_, ?_⟩
      · refine psAt_app (psAt_list hl10 (psAt_mono e10 hp9)) (psAt_cons (p := (W b (val b e - 1 - i), b - 1)) (ps := []) (partAt_mk (p := (W b (val b e - 1 - i), b - 1)) ?_ (numAt_list hl10 hna)) rfl)
        have eb : ((b - 1 : Nat) : Int) = (b : Int) - 1 := by omega
        show SqT K _ qb [.ref a', .int ((b - 1 : Nat) : Int)]
        rw [eb]
        exact sqT_list hl10 (st_of hqb)
      · rw [← ha9, hfill, List.append_assoc]
        rfl
      · rw [List.length_append, List.length_singleton, hz9]
    · obtain ⟨y6, zs, acc, rfl, e9, hl9, hp9, ha9, hz9⟩ := p
      rw [Nat.sub_self] at ha9
      have hacc : acc = fillL b (val b e) := by
        rw [← ha9]
        exact (List.append_nil acc).symm
      obtain ⟨ws, hws, hpw⟩ := numAt_mono e9 hlf7
      have hwl : ws.length ≤ 202 := by
        rw [psAt_len hpw]
        unfold lessL
        split
        · omega
        · rw [List.length_append, List.length_singleton]
          omega
      refine s_retP (P := fun v H2 => ∃ p, v = .ref p ∧ SqT K H2 p (ws ++ zs)) (evq_cat (EvQ.ofR (ev_var rfl) hws) (EvQ.ofU (evu_tupleOf (ev_var rfl) (sq_of hl9))) (by omega)) fun v H10 e10 ⟨p, ev, hp10⟩ => ?_
      subst ev
      refine q p H10 (e17.trans (e9.trans e10)) ⟨ws ++ zs, hp10, ?_⟩
      rw [← hdn, ← hacc]
      exact psAt_app (psAt_mono e10 hpw) (psAt_mono e10 hp9)
end
end HH

set_option Elab.async false
set_option maxRecDepth 100000
set_option maxHeartbeats 4000000
set_option linter.all false
namespace HH
open PySem L2 Evl
section
variable {K : PySem.W.Frag} {σ : L2.St} {H H' : Hp} {te : TE} {D : Ends} {tz : TS} {us : List V}
/-- x = [(..)] -/
theorem q_asgLU {i : Nat} (h : EvU te σ H us) (k : ∀ q p H1, H p = none → Ex H H1 → H1 q = some (.tup us) → H1 p = some (.lst [.ref q]) → tz D (σ.set i (some (.ref p))) H1) : tSeq (tAsg (tLst (tCons te tNil)) (gName i)) tz D σ H :=
  h H (Ex.refl H) _ fun q H1 nq e hq => ⟨by show 1 ≤ sizeLine; decide, fun p hp => k q p _ (fresh_back e hp) (e.trans (Ex.new hp)) (Ex.new hp _ _ hq) upd_same⟩
end
/-- the row's list: so many pairs of a base and a number -/
def FoundAt (K : PySem.W.Frag) (H : Hp) (b m n : Nat) (xs : List V) : Prop := xs.length = n ∧ ∀ k, k < n → ∃ q a, xs[k]? = some (.ref q) ∧ SqT K H q [.int ((b + k : Nat) : Int), .ref a] ∧ NumAt K H (W (b + k) (nth b m k)) a
theorem foundAt_mono {K : PySem.W.Frag} {H H' : Hp} {b m n : Nat} {xs : List V} (e : Ex H H') (h : FoundAt K H b m n xs) : FoundAt K H' b m n xs :=
  ⟨h.1, fun k hk => let ⟨q, a, h1, h2, h3⟩ := h.2 k hk; ⟨q, a, h1, ex_t e h2, numAt_mono e h3⟩⟩
theorem foundAt_list {K : PySem.W.Frag} {H : Hp} {b m n : Nat} {xs us ws : List V} {l : Addr} (hl : H l = some (.lst us)) (h : FoundAt K H b m n xs) : FoundAt K (upd H l (.lst ws)) b m n xs :=
  ⟨h.1, fun k hk => let ⟨q, a, h1, h2, h3⟩ := h.2 k hk; ⟨q, a, h1, sqT_list hl h2, numAt_list hl h3⟩⟩
theorem foundAt_snoc {K : PySem.W.Frag} {H : Hp} {b m n : Nat} {xs : List V} {q a : Addr} (h : FoundAt K H b m n xs) (h2 : SqT K H q [.int ((b + n : Nat) : Int), .ref a]) (h3 : NumAt K H (W (b + n) (nth b m n)) a) : FoundAt K H b m (n + 1) (xs ++ [.ref q]) := by
  obtain ⟨hl, hk⟩ := h
  refine ⟨by rw [List.length_append, List.length_singleton, hl], fun k hkn => ?_⟩
  by_cases hc : k < n
  · obtain ⟨q', a', g1, g2, g3⟩ := hk k hc
    exact ⟨q', a', by rw [List.getElem?_append_left (by omega)]; exact g1, g2, g3⟩
  · have e : k = n := by omega
    subst e
    exact ⟨q, a, by rw [List.getElem?_append_right (by omega), hl, Nat.sub_self]; rfl, h2, h3⟩
/-- where the row ends: with 0, or after so many steps -/
def EndsAt (b m most j : Nat) : Prop := j ≤ most ∧ (∀ i, i < j → 0 < nth b m i) ∧ (j = most ∨ nth b m j = 0)
theorem endsAt_uniq {b m most i j : Nat} (h : EndsAt b m most i) (g : EndsAt b m most j) : i = j := by
  obtain ⟨h1, h2, h3⟩ := h
  obtain ⟨g1, g2, g3⟩ := g
  rcases Nat.lt_trichotomy i j with c | c | c
  · rcases h3 with h3 | h3
    · omega
    · have := g2 i c
      omega
  · exact c
  · rcases g3 with g3 | g3
    · omega
    · have := h2 j c
      omega
section
variable {P : Program} {w : World} {K : PySem.W.Frag} {mg : Str → Option Value} {base : Heap}
/-! ### row -/
def spRow (K : PySem.W.Frag) : Sp := fun vs H Q _ => ∃ (m b most : Nat), vs = [.int (m : Int), .int (b : Int), .int (most : Int)] ∧ 2 ≤ b ∧ m < b ^ (b * b) ∧ b + most ≤ 18 ∧ b * (b + most) ≤ 200 ∧
  ∀ (p : Addr) H' (xs : List V) (j : Nat), Ex H H' → H' p = some (.lst xs) → FoundAt K H' b m (j + 1) xs → EndsAt b m most j → Q (.ref p) H'
theorem scRow : FnScope ["m", "base", "most", "a", "found", "step"] ["m", "base", "most"] (defScope sRow) := ⟨rfl, rfl, rfl, by decide +kernel, rfl, by decide +kernel, by decide +kernel⟩
theorem ok_row {f f1 f2 : Addr} {fd d1 d2 : FuncData} {ad : Arguments} {dvs : List V} (F : FunD K "row" "row" ad (defBody sRow) (defScope sRow) dvs [] f fd) (B : Bl mg)
    (G1 : FnOk P w K mg base CX0 5 f1 d1 ["m", "base"] (spWritten K 4)) (b1 : Binds K d1 ["m", "base"] []) (k1 : PySem.W.keepIn K (.ref f1) = true) (m1 : mg "written" = some (.ref f1))
    (G2 : FnOk P w K mg base CX0 6 f2 d2 ["a", "base"] (spDown K)) (b2 : Binds K d2 ["a", "base"] []) (k2 : PySem.W.keepIn K (.ref f2) = true) (m2 : mg "down" = some (.ref f2)) :
    FnOk P w K mg base CX0 7 f fd ["m", "base", "most"] (spRow K) := by
  refine F.ok scRow (fun vs H Q E h => ?_) (fun cdv A outer s H vs Q E hr h => ?_)
  · obtain ⟨m, b, most, rfl, _⟩ := h
    rfl
  obtain ⟨m, b, most, rfl, hb, hm, hbm, hbb, q⟩ := h
  refine ⟨_, PSs.nox (pss_cons (ps_set (i := 3) scRow.nd rfl (Or.inl rfl) (pe_call G1 (hr.mono (by omega)) (by rfl) m1 k1 b1 .nil pass0 (pa_cons (pv 0) (pa_cons (pv 1) pa_nil))))
    (pss_cons (ps_set (i := 4) scRow.nd rfl (Or.inl rfl) (pe_lst (pa_cons (pe_tup (pa_cons (pv 1) (pa_cons (pv 3) pa_nil))) pa_nil)))
    (pss_cons (ps_for PassesOwn.never rfl (pi_range1 (by rfl) B.range (pa_cons (pv 2) pa_nil)) (pg_name (i := 5) scRow.nd rfl (Or.inl rfl))
      (pss_cons (ps_if (pt_cmpR op_eq (pe_callB call_len_seq (by rfl) B.len PySem.boot_len (pa_cons (pv 3) pa_nil)) pe_int (nomark _)) (pss_one ps_break) pss_nil)
      (pss_cons (ps_aug (i := 1) scRow.nd rfl (Or.inl rfl) pe_int ip_add)
      (pss_cons (ps_set (i := 3) scRow.nd rfl (Or.inl rfl) (pe_call G2 hr (by rfl) m2 k2 b2 .nil pass0 (pa_cons (pv 3) (pa_cons (pv 1) pa_nil))))
      (pss_one (ps_expr (pe_bm PySem.F.plainAttrs_list PySem.F.slot_list_append PySem.F.type_list_append mt_append (pv 4) (pa_cons (pe_tup (pa_cons (pv 1) (pa_cons (pv 3) pa_nil))) pa_nil))))))))
    (pss_one (ps_ret (pv 4)))))), ?_⟩
  refine q_asgP (P := fun v H' => ∃ p, v = .ref p ∧ NumAt K H' (W b m) p) (evp_call (ea_cons (ev_var rfl) (ea_cons (ev_var rfl) ea_nil)) (fun H4 e4 Q4 q4 E4 => ⟨m, b, rfl, hb, by omega, hm, bnd_four hb (Nat.le_refl b) hm, fun p H5 e5 hp5 => q4 (.ref p) H5 e5 ⟨p, rfl, hp5⟩⟩)) fun v H1 e1 ⟨a0, ev, ha0⟩ => ?_
  subst ev
  refine q_asgLU (evu_pair (ev_var rfl) (ev_var rfl)) fun q0 l H2 nl e2 hq0 hl2 => ?_
  have fin : ∀ (i : Nat) (ac : Addr) (y5 : Option V) (xs : List V) (H' : Hp), Ex H1 H' → H' l = some (.lst xs) → FoundAt K H' b m (i + 1) xs → EndsAt b m most i →
      tRet (tVar 4) { nx := fun _ H' => Q .non H', rt := Q } [some (.int (m : Int)), some (.int ((b + i : Nat) : Int)), some (.int (most : Int)), some (.ref ac), some (.ref l), y5] H' := fun i ac y5 xs H' e hl hf he =>
    s_ret (ev_var rfl) fun H3 e3 => q l H3 xs i (e1.trans (e.trans e3)) (e3 _ _ hl) (foundAt_mono e3 hf) he
  refine q_forR1 (n := (most : Int)) (ea_cons (ev_var rfl) ea_nil) ⟨by omega, by omega⟩
    (fun i σ' H' => ∃ y5, ∃ (ac : Addr) (xs : List V), σ' = [some (.int (m : Int)), some (.int ((b + i : Nat) : Int)), some (.int (most : Int)), some (.ref ac), some (.ref l), y5] ∧ Ex H1 H' ∧ H' l = some (.lst xs) ∧ FoundAt K H' b m (i + 1) xs ∧
      NumAt K H' (W (b + i) (nth b m i)) ac ∧ ∀ k, k < i → 0 < nth b m k)
    (fun H3 e3 => ⟨none, a0, [.ref q0], rfl, e2.trans e3, e3 _ _ hl2, ⟨rfl, fun k hk => ?_⟩, numAt_mono (e2.trans e3) ha0, fun k hk => absurd hk (Nat.not_lt_zero _)⟩) (fun i σ' H' hi p => ?_) (fun σ' H' p => ?_)
  · have hk0 : k = 0 := by omega
    subst hk0
    exact ⟨q0, a0, rfl, st_of (e3 _ _ hq0), numAt_mono (e2.trans e3) ha0⟩
  · obtain ⟨y5, ac, xs, rfl, e3, hl3, hf3, hn3, hpos⟩ := p
    have hi : i < most := by omega
    obtain ⟨ys, hys, hpe⟩ := id hn3
    have hle : ys.length = (parts (W (b + i) (nth b m i))).length := by
      rw [← of_parts (W (b + i) (nth b m i))] at hpe
      exact psAt_len hpe
    have hbi : 2 ≤ b + i := by omega
    refine q_when (b := decide (V.int (ys.length : Int) = V.int 0)) (et_test (ev_op (ev_lenT (ev_var rfl) hys) ev_c (rv_eq rfl))) (fun hh H4 e4 => ?_) (fun hh H4 e4 => ?_)
    · -- 0: the row ends
      have h0 := V.int.inj (of_decide_eq_true hh)
      have h1 : (parts (W (b + i) (nth b m i))).length = 0 := by omega
      have h2 := (W_nil hbi).mp (parts_nil (List.eq_nil_of_length_eq_zero h1))
      exact fin i ac _ xs H4 (e3.trans e4) (e4 _ _ hl3) (foundAt_mono e4 hf3) ⟨by omega, hpos, .inr h2⟩
    · have h2 : 0 < nth b m i := by
        rcases Nat.eq_zero_or_pos (nth b m i) with h2 | h2
        · have h3 := (W_nil hbi).mpr h2
          rw [h3] at hle
          have h4 : ys.length = 0 := hle
          exact absurd (by rw [h4]; rfl) (of_decide_eq_false hh)
        · exact h2
      refine q_aug (f := fun i j => i + j) (a := ((b + i : Nat) : Int)) rfl ev_c fun H5 e5 => ?_
      have e35 := e4.trans e5
      have hnb := nth_bound hb hm i
      have hgb : gro (b + i) (nth b m i) < (b + i + 1) ^ (b * (b + i + 1)) := gro_bound hbi (by omega) hnb
      have hbu : b * (b + i + 1) ≤ b * (b + most) := Nat.mul_le_mul_left _ (by omega)
      have hbw : b * (b + i + 1) ≤ (b + i + 1) * (b + i + 1) := Nat.mul_le_mul_right _ (by omega)
      refine q_asgP (P := fun v H' => ∃ p, v = .ref p ∧ NumAt K H' (W (b + (i + 1)) (nth b m (i + 1))) p) (evp_call (vs := [.ref ac, .int ((b + i + 1 : Nat) : Int)]) (ea_cons (ev_var rfl) (ea_cons (ev_var rfl) ea_nil)) (fun H6 e6 Q6 q6 E6 =>
        ⟨ac, W (b + i) (nth b m i), b + i + 1, rfl, numAt_mono (e35.trans e6) hn3, by omega, by omega, (W_nf hbi _).mono (by omega), gro_pos hbi h2, Nat.lt_of_lt_of_le hgb (Nat.pow_le_pow_right (by omega) hbw),
          Nat.lt_of_lt_of_le hgb (Nat.pow_le_pow_right (by omega) (by omega)), fun p H7 e7 hp7 => q6 (.ref p) H7 e7 ⟨p, rfl, hp7⟩⟩)) fun v H6 e6 ⟨an, ev, han⟩ => ?_
      subst ev
      have e36 := e35.trans e6
      refine s_appU (l := l) (xs := xs) (ys := [.int ((b + (i + 1) : Nat) : Int), .ref an]) (e36 _ _ hl3) (ev_var rfl) (evu_pair (ev_var rfl) (ev_var rfl)) (by have := hf3.1; omega) fun p H7 np e7 hp7 => ?_
      have hl7 : H7 l = some (.lst xs) := e7 _ _ (e36 _ _ hl3)
      refine ⟨_, an, xs ++ [.ref p], rfl, Ex.mut ((e3.trans e36).trans e7) nl, upd_same, ?_, numAt_list hl7 (numAt_mono e7 han), fun k hk => ?_⟩
      · exact foundAt_snoc (foundAt_list hl7 (foundAt_mono (e36.trans e7) hf3)) (sqT_list hl7 (st_of hp7)) (numAt_list hl7 (numAt_mono e7 han))
      · by_cases hc : k < i
        · exact hpos k hc
        · have ek : k = i := by omega
          subst ek
          exact h2
  · obtain ⟨y5, ac, xs, rfl, e3, hl3, hf3, hn3, hpos⟩ := p
    have em : (most : Int).toNat = most := Int.toNat_natCast most
    rw [em] at hf3 hpos ⊢
    exact fin most ac _ xs H' e3 hl3 hf3 ⟨Nat.le_refl _, hpos, .inl rfl⟩
end
end HH

set_option Elab.async false
set_option maxRecDepth 100000
set_option maxHeartbeats 4000000
set_option linter.all false
namespace HH
open PySem L2 Evl
/-! ### the law's small helpers -/
theorem bits_add {c d : Int} {n m : Nat} (hc : Builtin.Int.intBits c ≤ n) (hd : d.natAbs < 2 ^ m) (hn : 0 < n) (hm : 0 < m) : (c + d).natAbs < 2 ^ (n + m) := by
  have h1 : c.natAbs < 2 ^ n := by
    unfold Builtin.Int.intBits at hc
    by_cases h0 : c = 0
    · subst h0
      exact Nat.pow_pos (by decide)
    · rw [if_neg (by simpa using h0)] at hc
      exact Nat.lt_of_lt_of_le Nat.lt_log2_self (Nat.pow_le_pow_right (by decide) hc)
  have h2 : (c + d).natAbs ≤ c.natAbs + d.natAbs := Int.natAbs_add_le c d
  have h3 : 2 ^ n + 2 ^ m ≤ 2 ^ (n + m) := by
    rw [Nat.pow_add]
    have a : 2 ≤ 2 ^ n := Nat.le_trans (by decide : 2 ≤ 2 ^ 1) (Nat.pow_le_pow_right (by decide) hn)
    have b : 2 ≤ 2 ^ m := Nat.le_trans (by decide : 2 ≤ 2 ^ 1) (Nat.pow_le_pow_right (by decide) hm)
    have h4 : 2 ^ n * 2 ≤ 2 ^ n * 2 ^ m := Nat.mul_le_mul_left _ b
    have h5 : 2 * 2 ^ m ≤ 2 ^ n * 2 ^ m := Nat.mul_le_mul_right _ a
    omega
  omega
theorem bits_of {c : Int} {n : Nat} (hc : Builtin.Int.intBits c ≤ n) : Builtin.Int.intBits c ≤ n := hc
section
variable {P : Program} {w : World} {K : PySem.W.Frag} {mg : Str → Option Value} {base : Heap}
def spCellAt (K : PySem.W.Frag) : Sp := fun vs H Q _ => ∃ (a : Addr) (ns : List Int), vs = [.ref a, .int 0] ∧ SqL K H a (ns.map V.int) ∧ ∀ H', Ex H H' → Q (.int (ns.headD 0)) H'
theorem scCellAt : FnScope ["_law_script", "_law_k"] ["_law_script", "_law_k"] (defScope sCellAt) := ⟨rfl, rfl, rfl, by decide +kernel, rfl, by decide +kernel, by decide +kernel⟩
theorem ok_cellAt {f : Addr} {fd : FuncData} (F : Fun K "_law_cell_at" "_law_cell_at" sCellAt f fd) (B : Bl mg) : FnOk P w K mg base CX0 1 f fd ["_law_script", "_law_k"] (spCellAt K) := by
  refine F.ok scCellAt (fun vs H Q E h => ?_) (fun cdv A outer s H vs Q E hr h => ?_)
  · obtain ⟨a, ns, rfl, _⟩ := h
    rfl
  obtain ⟨a, ns, rfl, hS, q⟩ := h
  refine ⟨_, pss_cons (ps_if (pt_cmpR op_lt (pv 1) (pe_callB call_len_seq (by rfl) B.len PySem.boot_len (pa_cons (pv 0) pa_nil)) (nomark _)) (pss_one (ps_ret (pe_ix ix_list (pv 0) (pv 1) (fun _ _ => rfl)))) pss_nil)
    (pss_one (ps_ret pe_int)), ?_⟩
  refine q_when (b := decide ((0 : Int) < ((ns.map V.int).length : Int))) (et_test (ev_op (ev_var rfl) (ev_len (ev_var rfl) hS) rv_I0)) (fun hh H1 e1 => ?_) (fun hh H1 e1 => ?_)
  · cases ns with
    | nil => exact absurd (of_decide_eq_true hh) (by simp)
    | cons n r =>
      refine s_ret (ev_op (ev_var rfl) (ev_var rfl) (rv_ixL (ex_l e1 hS) (atI_nat (j := 0) rfl))) fun H2 e2 => ?_
      exact q H2 (e1.trans e2)
  · cases ns with
    | nil => exact s_ret ev_c fun H2 e2 => q H2 (e1.trans e2)
    | cons n r => exact absurd (show (0 : Int) < (((n :: r).map V.int).length : Int) by rw [List.length_map, List.length_cons]; omega) (of_decide_eq_false hh)
def spMix : Sp := fun vs H Q _ => ∃ (c : Int), vs = [.int c, .int 0] ∧ Builtin.Int.intBits c ≤ 1048576 ∧ ∀ (r : Nat) H', Ex H H' → Q (.int (r : Int)) H'
theorem scMix : FnScope ["_law_cell", "_law_k"] ["_law_cell", "_law_k"] (defScope sMix) := ⟨rfl, rfl, rfl, by decide +kernel, rfl, by decide +kernel, by decide +kernel⟩
theorem bits_lit : Builtin.Int.intBits 48271 ≤ 16 := PyProof.Rows.intBits_le (by decide)
theorem ok_mix {f : Addr} {fd : FuncData} (F : Fun K "_law_mix" "_law_mix" sMix f fd) : FnOk P w K mg base CX0 1 f fd ["_law_cell", "_law_k"] spMix := by
  refine F.ok scMix (fun vs H Q E h => ?_) (fun cdv A outer s H vs Q E hr h => ?_)
  · obtain ⟨c, rfl, _⟩ := h
    rfl
  obtain ⟨c, rfl, hc, q⟩ := h
  refine ⟨_, pss_one (ps_ret (pe_op op_mod (pe_op op_add (pe_op op_add (pe_op op_add (pe_op op_mulX (pv 0) pe_int) (pe_op op_mul (pe_op op_mul (pv 1) (pv 1)) pe_int)) (pe_op op_mul pe_int (pv 1))) pe_int) pe_int)), ?_⟩
  have h1 : CMulX c 48271 := by
    have := bits_lit
    unfold CMulX
    omega
  refine s_ret (ev_op (ev_op (ev_op (ev_op (ev_op (ev_var rfl) ev_c (rv_I h1)) (ev_op (ev_op (ev_var rfl) (ev_var rfl) (rv_I (.inl ⟨by decide, by decide⟩))) ev_c (rv_I (.inl ⟨by decide, by decide⟩))) rv_I0)
    (ev_op ev_c (ev_var rfl) (rv_I (.inl ⟨by decide, by decide⟩))) rv_I0) ev_c rv_I0) ev_c (rv_I (by show (0 : Int) < 2147483647; decide))) fun H1 e1 => ?_
  show Q (.int ((c * 48271 + 0 * 0 * 69621 + 11 * 0 + 1) % 2147483647)) H1
  generalize c * 48271 + 0 * 0 * 69621 + 11 * 0 + 1 = x
  have h2 : 0 ≤ x % 2147483647 := Int.emod_nonneg _ (by decide)
  obtain ⟨r, hr⟩ := Int.eq_ofNat_of_zero_le h2
  rw [hr]
  exact q r H1 e1
def spGreat : Sp := fun vs H Q _ => ∃ (c : Int) (k : Nat), vs = [.int c, .int (k : Int)] ∧ Builtin.Int.intBits c ≤ 1048576 ∧ k < 64 ∧ ∀ (r : Nat) H', Ex H H' → r < 10 ^ 60 → Q (.int (r : Int)) H'
theorem scGreat : FnScope ["_law_cell", "_law_k"] ["_law_cell", "_law_k"] (defScope sGreat) := ⟨rfl, rfl, rfl, by decide +kernel, rfl, by decide +kernel, by decide +kernel⟩
theorem pow60 : (10 : Int) ^ (60 : Int).toNat = ((10 ^ 60 : Nat) : Int) := by
  rw [Int.natCast_pow]
  rfl
theorem lit_abs : (7391046825519380427716093582641907753320168849507113 : Int).natAbs < 2 ^ 200 := by decide +kernel
theorem ok_great {f : Addr} {fd : FuncData} (F : Fun K "_law_great" "_law_great" sGreat f fd) : FnOk P w K mg base CX0 1 f fd ["_law_cell", "_law_k"] spGreat := by
  refine F.ok scGreat (fun vs H Q E h => ?_) (fun cdv A outer s H vs Q E hr h => ?_)
  · obtain ⟨c, k, rfl, _⟩ := h
    rfl
  obtain ⟨c, k, rfl, hc, hk, q⟩ := h
  refine ⟨_, pss_one (ps_ret (pe_op op_mod (pe_op op_mulX (pe_op op_add (pe_op op_add (pv 0) (pe_op op_mul (pv 1) (pv 1))) pe_int) pe_int) (pe_op op_pow pe_int pe_int))), ?_⟩
  have hkk : k * k ≤ 63 * 63 := Nat.mul_le_mul (by omega) (by omega)
  have hkd : ((k : Int) * (k : Int) + 1).natAbs < 2 ^ 13 := by
    rw [← Int.natCast_mul]
    show k * k + 1 < 2 ^ 13
    omega
  have ha := bits_add hc hkd (by decide) (by decide)
  rw [← Int.add_assoc] at ha
  have hm : CMulX (c + (k : Int) * (k : Int) + 1) 7391046825519380427716093582641907753320168849507113 := mulx_ok ha lit_abs (by omega)
  refine s_ret (ev_op (ev_op (ev_op (ev_op (ev_var rfl) (ev_op (ev_var rfl) (ev_var rfl) (rv_I (.inl ⟨by omega, by omega⟩))) rv_I0) ev_c rv_I0) ev_c (rv_I hm)) (ev_op ev_c ev_c (rv_I ⟨by decide, by decide, by decide⟩)) (rv_I (by show (0 : Int) < 10 ^ (60 : Int).toNat; decide +kernel))) fun H1 e1 => ?_
  show Q (.int ((c + (k : Int) * (k : Int) + 1) * 7391046825519380427716093582641907753320168849507113 % 10 ^ (60 : Int).toNat)) H1
  generalize (c + (k : Int) * (k : Int) + 1) * 7391046825519380427716093582641907753320168849507113 = x
  rw [pow60]
  have hp : (0 : Int) < ((10 ^ 60 : Nat) : Int) := by decide +kernel
  have h2 : 0 ≤ x % ((10 ^ 60 : Nat) : Int) := Int.emod_nonneg _ (by omega)
  have h3 : x % ((10 ^ 60 : Nat) : Int) < ((10 ^ 60 : Nat) : Int) := Int.emod_lt_of_pos _ hp
  obtain ⟨r, hr⟩ := Int.eq_ofNat_of_zero_le h2
  rw [hr] at h3 ⊢
  exact q r H1 e1 (Int.ofNat_lt.mp h3)
def spBound : Sp := fun vs H Q _ => ∃ (b : Nat), vs = [.int (b : Int)] ∧ 2 ≤ b ∧ b ≤ 9 ∧ ∀ H', Ex H H' → Q (.int ((b ^ min (b * b) 40 : Nat) : Int)) H'
theorem scBound : FnScope ["_law_base", "_law_bound_here", "_law_k"] ["_law_base"] (defScope sBound) := ⟨rfl, rfl, rfl, by decide +kernel, rfl, by decide +kernel, by decide +kernel⟩
theorem rc_min2 {i j : Int} {H : Hp} : RC (fun xs H Q => ∃ i j, xs = [.int i, .int j] ∧ Q (.int (if j < i then j else i)) H) [.int i, .int j] H (.int (if j < i then j else i)) := fun H1 _ _ q =>
  ⟨i, j, rfl, q H1 (Ex.refl H1)⟩
set_option exponentiation.threshold 10000 in
theorem ok_bound {f : Addr} {fd : FuncData} (F : Fun K "_law_bound" "_law_bound" sBound f fd) (B : Bl mg) : FnOk P w K mg base CX0 1 f fd ["_law_base"] spBound := by
  refine F.ok scBound (fun vs H Q E h => ?_) (fun cdv A outer s H vs Q E hr h => ?_)
  · obtain ⟨b, rfl, _⟩ := h
    rfl
  obtain ⟨b, rfl, hb, hb9, q⟩ := h
  refine ⟨_, pss_cons (ps_set (i := 1) scBound.nd rfl (Or.inl rfl) pe_int)
    (pss_cons (ps_for PassesOwn.never rfl (pi_range1 (by rfl) B.range (pa_cons (pe_callB (call_min2 rfl) (by rfl) B.min PyProof.Rows.boot_min (pa_cons (pe_op op_mul (pv 0) (pv 0)) (pa_cons pe_int pa_nil))) pa_nil)) (pg_name (i := 2) scBound.nd rfl (Or.inl rfl))
      (pss_one (ps_set (i := 1) scBound.nd rfl (Or.inl rfl) (pe_op op_mulX (pv 1) (pv 0)))))
    (pss_one (ps_ret (pv 1)))), ?_⟩
  have hbb : b * b ≤ 81 := Nat.mul_le_mul hb9 hb9
  have emin : (if (40 : Int) < (b : Int) * (b : Int) then (40 : Int) else (b : Int) * (b : Int)) = ((min (b * b) 40 : Nat) : Int) := by
    rw [← Int.natCast_mul]
    split <;> omega
  refine q_asg ev_c fun H1 e1 => ?_
  refine q_forR1 (n := ((min (b * b) 40 : Nat) : Int)) (ea_cons (ev_is (ev_cb (ea_cons (ev_op (ev_var rfl) (ev_var rfl) (rv_I (.inl ⟨by omega, by omega⟩))) (ea_cons ev_c ea_nil)) rc_min2) (congrArg V.int emin)) ea_nil) ⟨by omega, by omega⟩
    (fun i σ' H' => ∃ y2, σ' = [some (.int (b : Int)), some (.int ((b ^ i : Nat) : Int)), y2] ∧ Ex H H') (fun H2 e2 => ⟨none, rfl, e1.trans e2⟩) (fun i σ' H' hi p => ?_) (fun σ' H' p => ?_)
  · obtain ⟨y2, rfl, e2⟩ := p
    have hi : i < 40 := by omega
    have h1 : b ^ i < 2 ^ 5000 := Nat.lt_of_lt_of_le (bits5 (n := i) (by omega)) (Nat.pow_le_pow_right (by decide) (by omega))
    have h2 : b < 2 ^ 5000 := Nat.lt_of_lt_of_le (show b < 2 ^ 10 by omega) (Nat.pow_le_pow_right (by decide) (by decide))
    refine s_asg (ev_op (ev_var rfl) (ev_var rfl) (rv_I (mulx_nat h1 h2))) fun H3 e3 => ?_
    refine ⟨some (.int (i : Int)), ?_, e2.trans e3⟩
    rw [Nat.pow_succ, Int.natCast_mul]
    rfl
  · obtain ⟨y2, rfl, e2⟩ := p
    rw [Int.toNat_natCast]
    exact s_ret (ev_var rfl) fun H3 e3 => q H3 (e2.trans e3)
end
end HH

set_option Elab.async false
set_option maxRecDepth 100000
set_option maxHeartbeats 4000000
set_option linter.all false
namespace HH
open PySem L2 Evl
/-! ### the law's growing -/
/-- the worth of the first exponent -/
def hd (C : Nat) : T → Nat
  | .nil => 0
  | .cons e _ _ => val C e
theorem hd_le {b : Nat} {acc e : T} (hb : 2 ≤ b) (ha : NF b acc) (he : NF b e) (h : val b acc < b ^ val b e) : hd (b + 1) acc ≤ val (b + 1) e := by
  have h1 := below_of_val hb ha he h
  cases acc with
  | nil => exact Nat.zero_le _
  | cons e' c r => exact Nat.le_of_lt (val_lt (by omega) (ha.2.2.1.mono (Nat.le_succ b)) (he.mono (Nat.le_succ b)) h1)
theorem pow5000 {C n : Nat} (hC : C ≤ 18) (hn : n ≤ 999) : C ^ n < 2 ^ 5000 := Nat.lt_of_lt_of_le (bits5 (n := n) hC) (Nat.pow_le_pow_right (by decide) (by omega))
set_option exponentiation.threshold 10000 in
theorem small5000 {n : Nat} (h : n ≤ 1000) : n < 2 ^ 5000 := Nat.lt_of_lt_of_le (show n < 2 ^ 10 by omega) (Nat.pow_le_pow_right (by decide) (by decide))
section
variable {P : Program} {w : World} {K : PySem.W.Frag} {mg : Str → Option Value} {base : Heap}
def spGrown (n : Nat) : Sp := fun vs H Q _ => ∃ m b : Nat, vs = [.int (m : Int), .int (b : Int)] ∧ 2 ≤ b ∧ b ≤ 17 ∧ m < b ^ (b * b) ∧ m < bnd b n ∧ ∀ H', Ex H H' → Q (.int ((gro b m : Nat) : Int)) H'
theorem scGrown : FnScope ["_law_m", "_law_base", "_law_come", "_law_high", "_law_done", "_law_place", "_law_far"] ["_law_m", "_law_base"] (defScope sGrown) := ⟨rfl, rfl, rfl, by decide +kernel, rfl, by decide +kernel, by decide +kernel⟩
theorem step_grown {f : Addr} {fd : FuncData} {n : Nat} (F : Fun K "_law_grown" "_law_grown" sGrown f fd) (bF : Binds K fd ["_law_m", "_law_base"] []) (mF : mg "_law_grown" = some (.ref f))
    (G : FnOk P w K mg base CX0 n f fd ["_law_m", "_law_base"] (spGrown n)) : FnOk P w K mg base CX0 (n + 1) f fd ["_law_m", "_law_base"] (spGrown (n + 1)) := by
  refine F.ok scGrown (fun vs H Q E h => ?_) (fun cdv A outer s H vs Q E hr h => ?_)
  · obtain ⟨m, b, rfl, _⟩ := h
    rfl
  obtain ⟨m0, b, rfl, hb, hb2, hm, hd0, q⟩ := h
  refine ⟨_, pss_cons (ps_set (i := 2) scGrown.nd rfl (Or.inl rfl) pe_int)
    (pss_cons (ps_set (i := 3) scGrown.nd rfl (Or.inl rfl) pe_int)
    (pss_cons (ps_set (i := 4) scGrown.nd rfl (Or.inl rfl) pe_int)
    (pss_cons (ps_set (i := 5) scGrown.nd rfl (Or.inl rfl) pe_int)
    (pss_cons (ps_while PassesOwn.never (pt_cmpR op_gt (pv 0) pe_int (nomark _))
      (pss_cut (ps_if (pt_cmpR op_gt (pe_op op_mod (pv 0) (pv 1)) pe_int (nomark _))
        (pss_cons (ps_set (i := 6) scGrown.nd rfl (Or.inl rfl) (pe_call G hr (by rfl) mF F.kp bF .nil pass0 (pa_cons (pv 5) (pa_cons (pv 1) pa_nil))))
        (pss_cons (ps_while PassesOwn.never (pt_cmpR op_lt (pv 4) (pv 6) (nomark _))
          (pss_cons (ps_set (i := 3) scGrown.nd rfl (Or.inl rfl) (pe_op op_mulX (pv 3) (pe_op op_add (pv 1) pe_int)))
          (pss_one (ps_set (i := 4) scGrown.nd rfl (Or.inl rfl) (pe_op op_add (pv 4) pe_int)))))
        (pss_one (ps_set (i := 2) scGrown.nd rfl (Or.inl rfl) (pe_op op_add (pv 2) (pe_op op_mulX (pe_op op_mod (pv 0) (pv 1)) (pv 3))))))) pss_nil)
      (pss_cons (ps_set (i := 0) scGrown.nd rfl (Or.inl rfl) (pe_op op_fdiv (pv 0) (pv 1)))
      (pss_one (ps_set (i := 5) scGrown.nd rfl (Or.inl rfl) (pe_op op_add (pv 5) pe_int))))))
    (pss_one (ps_ret (pv 2))))))), ?_⟩
  have hbb : b * b ≤ 289 := Nat.mul_le_mul hb2 hb2
  have hC : 2 ≤ b + 1 := by omega
  refine q_asg ev_c fun H1 e1 => ?_
  refine q_asg ev_c fun H2 e2 => ?_
  refine q_asg ev_c fun H3 e3 => ?_
  refine q_asg ev_c fun H4 e4 => ?_
  refine q_while (fun mm σ' H' => ∃ (x pl dn : Nat) (acc : T), ∃ y6, σ' = [some (.int (x : Int)), some (.int (b : Int)), some (.int ((val (b + 1) acc : Nat) : Int)), some (.int (((b + 1) ^ dn : Nat) : Int)), some (.int (dn : Int)), some (.int (pl : Int)), y6] ∧ Ex H H' ∧
      NF b acc ∧ val b acc + x * b ^ pl = m0 ∧ val b acc < b ^ pl ∧ dn = hd (b + 1) acc ∧ x = mm) m0
    ⟨m0, 0, 0, .nil, none, rfl, e1.trans (e2.trans (e3.trans e4)), trivial, by show 0 + m0 * b ^ 0 = m0; rw [Nat.pow_zero]; omega, by show 0 < b ^ 0; rw [Nat.pow_zero]; omega, rfl, rfl⟩ (fun mm σ' H' hw => ?_)
  obtain ⟨x, pl, dn, acc, y6, rfl, e5, nf5, hv5, hb5, hdn, rfl⟩ := hw
  refine ⟨decide ((0 : Int) < (x : Int)), et_test (ev_op (ev_var rfl) ev_c rv_I0), fun ht H6 e6 => ?_, fun ht H6 e6 => ?_⟩
  · have hx : 0 < x := by
      have := of_decide_eq_true ht
      omega
    have hpm : b ^ pl ≤ m0 := by
      have : 1 * b ^ pl ≤ x * b ^ pl := Nat.mul_le_mul_right _ hx
      omega
    have hpl : pl < b * b := lt_of_pow hb (Nat.lt_of_le_of_lt hpm hm)
    have hpd : pl < bnd b n := bnd_down hb hd0 hpm
    have hq : x / b < x := Nat.div_lt_self hx (by omega)
    have hr2 : x % b < b := Nat.mod_lt _ (by omega)
    have hsum := step_sum (b := b) hv5
    have hPs : b ^ (pl + 1) = b * b ^ pl := by rw [Nat.pow_succ, Nat.mul_comm]
    rw [← hPs] at hsum
    have hle : hd (b + 1) acc ≤ val (b + 1) (W b pl) := hd_le hb nf5 (W_nf hb pl) (by rw [W_val hb]; exact hb5)
    have hfar : val (b + 1) (W b pl) ≤ 306 := by
      have h1 : gro b pl = pl + pl / b := gro_small hb hpl
      have h2 : pl / b < b := (Nat.div_lt_iff_lt_mul (by omega)).mpr hpl
      have h3 : val (b + 1) (W b pl) = gro b pl := rfl
      omega
    have hdn306 : dn ≤ 306 := by omega
    -- behind the turn
    refine ⟨fun σ2 H7 => ∃ (dn : Nat) (acc : T), ∃ y6, σ2 = [some (.int ((x / b : Nat) : Int)), some (.int (b : Int)), some (.int ((val (b + 1) acc : Nat) : Int)), some (.int (((b + 1) ^ dn : Nat) : Int)), some (.int (dn : Int)), some (.int ((pl + 1 : Nat) : Int)), y6] ∧ Ex H H7 ∧
        NF b acc ∧ val b acc + x / b * b ^ (pl + 1) = m0 ∧ val b acc < b ^ (pl + 1) ∧ dn = hd (b + 1) acc, fun σ2 H7 h7 => ?_, ?_⟩
    · obtain ⟨dn', acc', y6', h1, h2, h3, h4, h5, h6⟩ := h7
      exact ⟨x / b, hq, x / b, pl + 1, dn', acc', y6', h1, h2, h3, h4, h5, h6, rfl⟩
    have e56 := e5.trans e6
    refine q_cut (M := fun σ2 H7 => ∃ (dn : Nat) (acc : T), ∃ y6, σ2 = [some (.int (x : Int)), some (.int (b : Int)), some (.int ((val (b + 1) acc : Nat) : Int)), some (.int (((b + 1) ^ dn : Nat) : Int)), some (.int (dn : Int)), some (.int (pl : Int)), y6] ∧ Ex H H7 ∧
        NF b acc ∧ val b acc + x / b * b ^ (pl + 1) = m0 ∧ val b acc < b ^ (pl + 1) ∧ dn = hd (b + 1) acc) ?_ (fun σ2 H7 h7 => ?_)
    · refine s_when (b := decide ((0 : Int) < (x : Int) % (b : Int))) (et_test (ev_op (ev_op (ev_var rfl) (ev_var rfl) (rv_I (by show (0 : Int) < (b : Int); omega))) ev_c rv_I0)) (fun hg H7 e7 => ?_) (fun hg H7 e7 => ?_)
      · rw [cast_mod] at hg
        have hf : 0 < x % b := by
          have := of_decide_eq_true hg
          omega
        refine q_asg (ev_call' (z := .int ((gro b pl : Nat) : Int)) (ea_cons (ev_var rfl) (ea_cons (ev_var rfl) ea_nil)) (fun H8 e8 Q8 q8 E8 => ⟨pl, b, rfl, hb, hb2, sq_lt_pow hb hpl, hpd, q8⟩)) fun H8 e8 => ?_
        have e58 := e56.trans (e7.trans e8)
        refine q_while (fun mm σ' H' => ∃ d : Nat, σ' = [some (.int (x : Int)), some (.int (b : Int)), some (.int ((val (b + 1) acc : Nat) : Int)), some (.int (((b + 1) ^ d : Nat) : Int)), some (.int (d : Int)), some (.int (pl : Int)), some (.int ((gro b pl : Nat) : Int))] ∧ Ex H H' ∧ d ≤ gro b pl ∧ gro b pl - d = mm) (gro b pl - dn)
          ⟨dn, rfl, e58, by rw [hdn]; exact hle, rfl⟩ (fun mm σ' H' hw => ?_)
        obtain ⟨d, rfl, e9, hd9, rfl⟩ := hw
        have hd306 : d ≤ 306 := Nat.le_trans hd9 hfar
        refine ⟨decide ((d : Int) < ((gro b pl : Nat) : Int)), et_test (ev_op (ev_var rfl) (ev_var rfl) rv_I0), fun ht2 H10 e10 => ?_, fun ht2 H10 e10 => ?_⟩
        · have hlt : d < gro b pl := by
            have := of_decide_eq_true ht2
            omega
          refine ⟨fun σ2 H11 => σ2 = [some (.int (x : Int)), some (.int (b : Int)), some (.int ((val (b + 1) acc : Nat) : Int)), some (.int (((b + 1) ^ (d + 1) : Nat) : Int)), some (.int ((d + 1 : Nat) : Int)), some (.int (pl : Int)), some (.int ((gro b pl : Nat) : Int))] ∧ Ex H H11,
            fun σ2 H11 ⟨h1, h2⟩ => ⟨gro b pl - (d + 1), by omega, d + 1, h1, h2, hlt, rfl⟩, ?_⟩
          refine q_asg (ev_op (ev_var rfl) (ev_op (ev_var rfl) ev_c rv_I0) (rv_I (mulx_nat (b := b + 1) (pow5000 (by omega) (by omega)) (small5000 (by omega))))) fun H11 e11 => ?_
          refine s_asg (ev_op (ev_var rfl) ev_c rv_I0) fun H12 e12 => ?_
          refine ⟨?_, e9.trans (e10.trans (e11.trans e12))⟩
          rw [Nat.pow_succ, Int.natCast_mul]
          rfl
        · have hde : d = gro b pl := by
            have := of_decide_eq_false ht2
            omega
          subst hde
          refine s_asg (ev_op (ev_var rfl) (ev_op (ev_op (ev_var rfl) (ev_var rfl) (rv_I (by show (0 : Int) < (b : Int); omega))) (ev_var rfl) (rv_I (by rw [cast_mod]; exact mulx_nat (small5000 (by omega)) (pow5000 (by omega) (by omega))))) rv_I0) fun H11 e11 => ?_
          have hnf : NF b (.cons (W b pl) (x % b) acc) := ⟨hf, hr2, W_nf hb pl, nf5, below_of_val hb nf5 (W_nf hb pl) (by rw [W_val hb]; exact hb5)⟩
          have hvv : val b (.cons (W b pl) (x % b) acc) = x % b * b ^ pl + val b acc := by
            show x % b * b ^ val b (W b pl) + val b acc = _
            rw [W_val hb]
          refine ⟨gro b pl, .cons (W b pl) (x % b) acc, some (.int ((gro b pl : Nat) : Int)), ?_, e9.trans (e10.trans e11), hnf, by rw [hvv]; exact hsum, by rw [hvv, hPs]; exact step_bound hb5 hr2, rfl⟩
          have hcast : ((val (b + 1) acc : Nat) : Int) + (x : Int) % (b : Int) * (((b + 1) ^ gro b pl : Nat) : Int) = ((val (b + 1) (.cons (W b pl) (x % b) acc) : Nat) : Int) := by
            rw [cast_mod, ← Int.natCast_mul, ← Int.natCast_add]
            show _ = (((x % b) * (b + 1) ^ val (b + 1) (W b pl) + val (b + 1) acc : Nat) : Int)
            rw [Nat.add_comm]
            rfl
          rw [← hcast]
          rfl
      · rw [cast_mod] at hg
        have hf : x % b = 0 := by
          have := of_decide_eq_false hg
          omega
        have hp1 : b ^ pl ≤ b ^ (pl + 1) := Nat.pow_le_pow_right (by omega) (by omega)
        rw [hf, Nat.zero_mul, Nat.zero_add] at hsum
        exact ⟨dn, acc, y6, rfl, e56.trans e7, nf5, hsum, by omega, hdn⟩
    · obtain ⟨dn', acc', y6', rfl, h2, h3, h4, h5, h6⟩ := h7
      refine q_asg (ev_op (ev_var rfl) (ev_var rfl) (rv_I ⟨by omega, by omega⟩)) fun H8 e8 => ?_
      rw [cast_div]
      refine s_asg (ev_op (ev_var rfl) ev_c rv_I0) fun H9 e9 => ?_
      exact ⟨dn', acc', y6', rfl, h2.trans (e8.trans e9), h3, h4, h5, h6⟩
  · have hx : x = 0 := by
      have := of_decide_eq_false ht
      omega
    rw [hx, Nat.zero_mul, Nat.add_zero] at hv5
    refine s_ret (ev_var rfl) fun H7 e7 => ?_
    show Q (.int ((val (b + 1) acc : Nat) : Int)) H7
    rw [← gro_of hb nf5 hv5]
    exact q H7 (e5.trans (e6.trans e7))
theorem none_grown {f : Addr} {fd : FuncData} {k : Nat} : FnOk P w K mg base CX0 k f fd ["_law_m", "_law_base"] (spGrown 0) := by
  have no : ∀ vs H Q E, ¬ spGrown 0 vs H Q E := fun vs H Q E h => by
    obtain ⟨m, b, _, _, _, _, h1, _⟩ := h
    exact Nat.not_lt_zero _ h1
  exact ⟨fun vs H Q E h => absurd h (no vs H Q E), fun A outer s H args us vs Q E _ _ _ _ h => absurd h (no vs H Q E)⟩
theorem ok_grown {f : Addr} {fd : FuncData} (F : Fun K "_law_grown" "_law_grown" sGrown f fd) (bF : Binds K fd ["_law_m", "_law_base"] []) (mF : mg "_law_grown" = some (.ref f)) :
    ∀ n, FnOk P w K mg base CX0 n f fd ["_law_m", "_law_base"] (spGrown n)
  | 0 => none_grown
  | n + 1 => step_grown F bF mF (ok_grown F bF mF n)
end
end HH

set_option Elab.async false
set_option maxRecDepth 100000
set_option maxHeartbeats 4000000
set_option linter.all false
namespace HH
open PySem L2 Evl
/-! ### the law's reading -/
/-- one more than the worth of the first exponent; 0 of 0 -/
def hd1 (b : Nat) : T → Nat
  | .nil => 0
  | .cons e _ _ => val b e + 1
theorem hd1_le {b : Nat} {s e : T} (hb : 2 ≤ b) (hs : NF b s) (he : NF b e) (h : below s e) : hd1 b s ≤ val b e := by
  cases s with
  | nil => exact Nat.zero_le _
  | cons e' c r => exact val_lt hb hs.2.2.1 he h
theorem tyx_tup {K : PySem.W.Frag} {H : Hp} {a : Addr} {xs : List V} (h : SqT K H a xs) : TyX K H (.ref a) (.type "tuple") := by
  rcases h with (h | ⟨o, h⟩) | ⟨o, its, n, h1, h2, _⟩
  · exact .base (.tup h)
  · exact .fTuple h
  · exact .kTuple h1 h2
theorem isi_tup {K : PySem.W.Frag} {H : Hp} {a : Addr} {xs : List V} (h : SqT K H a xs) : RC (rIsi K) [.ref a, .ty "tuple"] H (.bl true) := fun H1 e Q q =>
  ⟨_, _, _, _, true, rfl, .ty "tuple", tyx_tup (ex_t e h), kit_ty (by decide +kernel), q H1 (Ex.refl H1)⟩
theorem dec_two {x y : V} : (!decide (V.int (([x, y] : List V).length : Int) = V.int 2)) = false := by
  have h : decide (V.int (([x, y] : List V).length : Int) = V.int 2) = true := decide_eq_true rfl
  rw [h]
  rfl
section
variable {P : Program} {w : World} {K : PySem.W.Frag} {mg : Str → Option Value} {base : Heap}
def spRead (K : PySem.W.Frag) (n : Nat) : Sp := fun vs H Q _ => ∃ (a : Addr) (t : T) (b : Nat), vs = [.ref a, .int (b : Int)] ∧ NumAt K H t a ∧ 2 ≤ b ∧ b ≤ 18 ∧ NF b t ∧ val b t < b ^ 201 ∧ val b t < bnd b n ∧ ∀ H', Ex H H' → Q (.int ((val b t : Nat) : Int)) H'
theorem scRead : FnScope ["_law_a", "_law_base", "_law_come", "_law_high", "_law_done", "_law_k", "_law_part", "_law_far"] ["_law_a", "_law_base"] (defScope sRead) := ⟨rfl, rfl, rfl, by decide +kernel, rfl, by decide +kernel, by decide +kernel⟩
theorem step_read {f g : Addr} {fd gd : FuncData} {n : Nat} (F : Fun K "_law_read" "_law_read" sRead f fd) (B : Bl mg) (bF : Binds K fd ["_law_a", "_law_base"] []) (mF : mg "_law_read" = some (.ref f))
    (GW : FnOk P w K mg base CX0 1 g gd ["_law_found"] spLWhole) (bG : Binds K gd ["_law_found"] []) (kG : PySem.W.keepIn K (.ref g) = true) (mG : mg "_law_whole" = some (.ref g))
    (G : FnOk P w K mg base CX0 (n + 1) f fd ["_law_a", "_law_base"] (spRead K n)) : FnOk P w K mg base CX0 (n + 2) f fd ["_law_a", "_law_base"] (spRead K (n + 1)) := by
  refine F.ok scRead (fun vs H Q E h => ?_) (fun cdv A outer s H vs Q E hr h => ?_)
  · obtain ⟨a, t, b, rfl, _⟩ := h
    rfl
  obtain ⟨a, t, b, rfl, ⟨xs, hx, hp⟩, hb, hb2, nf, hv, hd0, q⟩ := h
  refine ⟨_, pss_cons (ps_if (pt_not (pt_val (pe_callB call_isi (by rfl) B.isi PyProof.Rows.boot_isinstance (pa_cons (pv 0) (pa_cons (pe_bltn (v := .ty "tuple") (by rfl) B.tuple PyProof.Rows.boot_tuple rfl) pa_nil))))) pss_never pss_nil)
    (pss_cons (ps_set (i := 2) scRead.nd rfl (Or.inl rfl) pe_int)
    (pss_cons (ps_set (i := 3) scRead.nd rfl (Or.inl rfl) pe_int)
    (pss_cons (ps_set (i := 4) scRead.nd rfl (Or.inl rfl) pe_int)
    (pss_cons (ps_for PassesOwn.never rfl (pi_range3 (by rfl) B.range (pa_cons (pe_op op_sub (pe_callB call_len_seq (by rfl) B.len PySem.boot_len (pa_cons (pv 0) pa_nil)) pe_int) (pa_cons (pe_un un_neg pe_int) (pa_cons (pe_un un_neg pe_int) pa_nil)))) (pg_name (i := 5) scRead.nd rfl (Or.inl rfl))
      (pss_cons (ps_set (i := 6) scRead.nd rfl (Or.inl rfl) (pe_ix ix_tup (pv 0) (pv 5) (fun _ _ => rfl)))
      (pss_cons (ps_if (PW.pt (pw_or (pt_not (pt_val (pe_callB call_isi (by rfl) B.isi PyProof.Rows.boot_isinstance (pa_cons (pv 6) (pa_cons (pe_bltn (v := .ty "tuple") (by rfl) B.tuple PyProof.Rows.boot_tuple rfl) pa_nil)))))
          (pw_or (pt_cmpR op_ne (pe_callB call_len_seq (by rfl) B.len PySem.boot_len (pa_cons (pv 6) pa_nil)) pe_int (nomark _))
            (pw_or1 (pt_not (pt_val (pe_call GW (hr.mono (by omega)) (by rfl) mG kG bG .nil pass0 (pa_cons (pe_ix ix_tup (pv 6) pe_int (fun _ _ => rfl)) pa_nil)))))))) pss_never pss_nil)
      (pss_cons (ps_set (i := 7) scRead.nd rfl (Or.inl rfl) (pe_call G hr (by rfl) mF F.kp bF .nil pass0 (pa_cons (pe_ix ix_tup (pv 6) pe_int (fun _ _ => rfl)) (pa_cons (pv 1) pa_nil))))
      (pss_cons (ps_if (PW.pt (pw_or (pt_cmpR op_lt (pv 7) (pv 4) (nomark _)) (pw_or (pt_cmpR op_gt (pv 7) pe_int (nomark _)) (pw_or (pt_cmpR op_lt (pe_ix ix_tup (pv 6) pe_int (fun _ _ => rfl)) pe_int (nomark _))
          (pw_or1 (pt_cmpR op_ge (pe_ix ix_tup (pv 6) pe_int (fun _ _ => rfl)) (pv 1) (nomark _))))))) pss_never pss_nil)
      (pss_cons (ps_while PassesOwn.never (pt_cmpR op_lt (pv 4) (pv 7) (nomark _))
          (pss_cons (ps_set (i := 3) scRead.nd rfl (Or.inl rfl) (pe_op op_mulX (pv 3) (pv 1)))
          (pss_one (ps_set (i := 4) scRead.nd rfl (Or.inl rfl) (pe_op op_add (pv 4) pe_int)))))
      (pss_cons (ps_set (i := 2) scRead.nd rfl (Or.inl rfl) (pe_op op_add (pv 2) (pe_op op_mulX (pe_ix ix_tup (pv 6) pe_int (fun _ _ => rfl)) (pv 3))))
      (pss_cons (ps_set (i := 3) scRead.nd rfl (Or.inl rfl) (pe_op op_mulX (pv 3) (pv 1)))
      (pss_one (ps_set (i := 4) scRead.nd rfl (Or.inl rfl) (pe_op op_add (pv 4) pe_int)))))))))))
    (pss_one (ps_ret (pv 2))))))), ?_⟩
  have et := of_parts t
  rw [← et] at hp nf hv hd0
  have hl := psAt_len hp
  have hlen : (parts t).length ≤ 201 := nf_len hb nf hv
  refine q_when (b := !true) (et_not (et_B (ev_cb (ea_cons (ev_var rfl) (ea_cons ev_c ea_nil)) (isi_tup hx)))) (fun hh => nomatch hh) (fun _ H1 e1 => ?_)
  refine q_asg ev_c fun H2 e2 => ?_
  refine q_asg ev_c fun H3 e3 => ?_
  refine q_asg ev_c fun H4 e4 => ?_
  have e14 := e1.trans (e2.trans (e3.trans e4))
  refine q_forDown (n := xs.length) (lo := (xs.length : Int) - 1) (ea_cons (ev_op (ev_lenT (ev_var rfl) (ex_t e14 hx)) ev_c rv_I0) (ea_cons (ev_un ev_c ru_neg) (ea_cons (ev_un ev_c ru_neg) ea_nil))) (by omega) (by omega)
    (fun i σ' H' => ∃ (dn : Nat), ∃ y5 y6 y7, σ' = [some (.ref a), some (.int (b : Int)), some (.int ((val b (ofL ((parts t).drop (xs.length - i))) : Nat) : Int)), some (.int ((b ^ dn : Nat) : Int)), some (.int (dn : Int)), y5, y6, y7] ∧ Ex H H' ∧ dn = hd1 b (ofL ((parts t).drop (xs.length - i))))
    (fun H5 e5 => ⟨0, none, none, none, ?_, e14.trans e5, ?_⟩) (fun i σ' H' hi p => ?_) (fun σ' H' p => ?_)
  · rw [hl, Nat.sub_zero, List.drop_length]
    rfl
  · rw [hl, Nat.sub_zero, List.drop_length]
    rfl
  · obtain ⟨dn, y5, y6, y7, rfl, e5, hdn⟩ := p
    have hk : xs.length - 1 - i < (parts t).length := by omega
    have hg : (parts t)[xs.length - 1 - i]? = some (parts t)[xs.length - 1 - i] := List.getElem?_eq_getElem hk
    obtain ⟨x', hx', pa, aa, rfl, h1, h2⟩ := psAt_get hp hg
    have hmem : (parts t)[xs.length - 1 - i] ∈ parts t := List.getElem_mem hk
    have hn := nf_mem nf _ hmem
    have hvm := val_mem nf _ hmem
    have hdrop := drop_at hg
    have hnd := nf_drop nf (xs.length - 1 - i)
    rw [hdrop] at hnd
    have hki : xs.length - 1 - i + 1 = xs.length - i := by omega
    have hki2 : xs.length - (i + 1) = xs.length - 1 - i := by omega
    rw [hki] at hdrop hnd
    rw [hki2, hdrop]
    generalize (parts t)[xs.length - 1 - i] = p at hn hvm h1 h2 hnd
    generalize (parts t).drop (xs.length - i) = D at hdn hnd
    obtain ⟨p1, p2, p3, p4, p5⟩ := hnd
    have hfar : val b p.1 < 201 := lt_of_pow hb (Nat.lt_of_le_of_lt hvm hv)
    have hle : dn ≤ val b p.1 := by
      rw [hdn]
      exact hd1_le hb p4 p3 p5
    refine q_asg (v := .ref pa) (ev_op (ev_var rfl) (ev_var rfl) (rv_ixT (ex_t e5 hx) (atI_nat hx'))) fun H6 e6 => ?_
    have e56 := e5.trans e6
    refine q_when (b := false) (et_is (et_or (et_not (et_B (ev_cb (ea_cons (ev_var rfl) (ea_cons ev_c ea_nil)) (isi_tup (ex_t e56 h1))))) fun _ => et_or (et_test (ev_op (ev_lenT (ev_var rfl) (ex_t e56 h1)) ev_c (rv_ne rfl)))
      fun _ => et_not (et_B (ev_call' (z := .bl true) (ea_cons (ev_op (ev_var rfl) ev_c (rv_ixT (ex_t e56 h1) (atI_nat (j := 1) rfl))) ea_nil) (fun H7 e7 Q7 q7 E7 => ⟨(p.2 : Int), rfl, q7⟩)))) ?_) (fun hh => nomatch hh) (fun _ H7 e7 => ?_)
    · rw [dec_two]
      rfl
    have e57 := e56.trans e7
    refine q_asg (ev_call' (z := .int ((val b p.1 : Nat) : Int)) (ea_cons (ev_op (ev_var rfl) ev_c (rv_ixT (ex_t e57 h1) (atI_nat (j := 0) rfl))) (ea_cons (ev_var rfl) ea_nil))
      (fun H8 e8 Q8 q8 E8 => ⟨aa, p.1, b, rfl, numAt_mono (e57.trans e8) h2, hb, hb2, p3, Nat.lt_trans hfar (lt_pow_self' hb 201), bnd_down hb hd0 hvm, q8⟩)) fun H8 e8 => ?_
    have e58 := e57.trans e8
    refine q_when (b := false) (et_is (et_or (et_test (ev_op (ev_var rfl) (ev_var rfl) rv_I0)) fun _ => et_or (et_test (ev_op (ev_var rfl) ev_c rv_I0)) fun _ => et_or (et_test (ev_op (ev_op (ev_var rfl) ev_c (rv_ixT (ex_t e58 h1) (atI_nat (j := 1) rfl))) ev_c rv_I0))
      fun _ => et_test (ev_op (ev_op (ev_var rfl) ev_c (rv_ixT (ex_t e58 h1) (atI_nat (j := 1) rfl))) (ev_var rfl) rv_I0)) ?_) (fun hh => nomatch hh) (fun _ H9 e9 => ?_)
    · rw [decide_eq_false (by omega), decide_eq_false (by omega), decide_eq_false (by omega), decide_eq_false (by omega)]
      rfl
    have e59 := e58.trans e9
    refine q_while (fun mm σ' H' => ∃ d : Nat, σ' = [some (.ref a), some (.int (b : Int)), some (.int ((val b (ofL D) : Nat) : Int)), some (.int ((b ^ d : Nat) : Int)), some (.int (d : Int)), some (.int ((xs.length - 1 - i : Nat) : Int)), some (.ref pa), some (.int ((val b p.1 : Nat) : Int))] ∧ Ex H H' ∧ d ≤ val b p.1 ∧ val b p.1 - d = mm) (val b p.1 - dn)
      ⟨dn, rfl, e59, hle, rfl⟩ (fun mm σ' H' hw => ?_)
    obtain ⟨d, rfl, e10, hd9, rfl⟩ := hw
    refine ⟨decide ((d : Int) < ((val b p.1 : Nat) : Int)), et_test (ev_op (ev_var rfl) (ev_var rfl) rv_I0), fun ht2 H10 e11 => ?_, fun ht2 H10 e11 => ?_⟩
    · have hlt : d < val b p.1 := by
        have := of_decide_eq_true ht2
        omega
      refine ⟨fun σ2 H11 => σ2 = [some (.ref a), some (.int (b : Int)), some (.int ((val b (ofL D) : Nat) : Int)), some (.int ((b ^ (d + 1) : Nat) : Int)), some (.int ((d + 1 : Nat) : Int)), some (.int ((xs.length - 1 - i : Nat) : Int)), some (.ref pa), some (.int ((val b p.1 : Nat) : Int))] ∧ Ex H H11,
        fun σ2 H11 ⟨h1, h2⟩ => ⟨val b p.1 - (d + 1), by omega, d + 1, h1, h2, hlt, rfl⟩, ?_⟩
      refine q_asg (ev_op (ev_var rfl) (ev_var rfl) (rv_I (mulx_nat (pow5000 hb2 (by omega)) (small5000 (by omega))))) fun H11 e12 => ?_
      refine s_asg (ev_op (ev_var rfl) ev_c rv_I0) fun H12 e13 => ?_
      refine ⟨?_, e10.trans (e11.trans (e12.trans e13))⟩
      rw [Nat.pow_succ, Int.natCast_mul]
      rfl
    · have hde : d = val b p.1 := by
        have := of_decide_eq_false ht2
        omega
      subst hde
      have e511 := e10.trans e11
      refine q_asg (ev_op (ev_var rfl) (ev_op (ev_op (ev_var rfl) ev_c (rv_ixT (ex_t e511 h1) (atI_nat (j := 1) rfl))) (ev_var rfl) (rv_I (mulx_nat (small5000 (by omega)) (pow5000 hb2 (by omega))))) rv_I0) fun H11 e12 => ?_
      refine q_asg (ev_op (ev_var rfl) (ev_var rfl) (rv_I (mulx_nat (pow5000 hb2 (by omega)) (small5000 (by omega))))) fun H12 e13 => ?_
      refine s_asg (ev_op (ev_var rfl) ev_c rv_I0) fun H13 e14 => ?_
      refine ⟨val b p.1 + 1, some (.int ((xs.length - 1 - i : Nat) : Int)), some (.ref pa), some (.int ((val b p.1 : Nat) : Int)), ?_, e511.trans (e12.trans (e13.trans e14)), rfl⟩
      have hcast : ((val b (ofL D) : Nat) : Int) + (p.2 : Int) * ((b ^ val b p.1 : Nat) : Int) = ((val b (ofL (p :: D)) : Nat) : Int) := by
        rw [← Int.natCast_mul, ← Int.natCast_add]
        show _ = ((p.2 * b ^ val b p.1 + val b (ofL D) : Nat) : Int)
        rw [Nat.add_comm]
      rw [← hcast, Nat.pow_succ, Int.natCast_mul]
      rfl
  · obtain ⟨dn, y5, y6, y7, rfl, e5, hdn⟩ := p
    rw [Nat.sub_self, List.drop_zero, et]
    exact s_ret (ev_var rfl) fun H6 e6 => q H6 (e5.trans e6)
theorem none_read {f : Addr} {fd : FuncData} {k : Nat} : FnOk P w K mg base CX0 k f fd ["_law_a", "_law_base"] (spRead K 0) := by
  have no : ∀ vs H Q E, ¬ spRead K 0 vs H Q E := fun vs H Q E h => by
    obtain ⟨a, t, b, _, _, _, _, _, _, h1, _⟩ := h
    exact Nat.not_lt_zero _ h1
  exact ⟨fun vs H Q E h => absurd h (no vs H Q E), fun A outer s H args us vs Q E _ _ _ _ h => absurd h (no vs H Q E)⟩
theorem ok_read {f g : Addr} {fd gd : FuncData} (F : Fun K "_law_read" "_law_read" sRead f fd) (B : Bl mg) (bF : Binds K fd ["_law_a", "_law_base"] []) (mF : mg "_law_read" = some (.ref f))
    (GW : FnOk P w K mg base CX0 1 g gd ["_law_found"] spLWhole) (bG : Binds K gd ["_law_found"] []) (kG : PySem.W.keepIn K (.ref g) = true) (mG : mg "_law_whole" = some (.ref g)) :
    ∀ n, FnOk P w K mg base CX0 (n + 1) f fd ["_law_a", "_law_base"] (spRead K n)
  | 0 => none_read
  | n + 1 => step_read F B bF mF GW bG kG mG (ok_read F B bF mF GW bG kG mG n)
end
end HH

set_option Elab.async false
set_option maxRecDepth 100000
set_option maxHeartbeats 4000000
set_option linter.all false
namespace HH
open PySem L2 Evl
section
variable {K : PySem.W.Frag} {σ : L2.St} {H H' : Hp} {ta tb te : TE} {x y z v : V} {D : Ends} {tu tw tz : TS} {Pv : V → Prop}
theorem evp_opR {r : R2} {f : V → V} (ha : Ev ta σ H x) (hb : EvP tb σ H (fun v _ => Pv v)) (hr : ∀ y, Pv y → ∀ H1, RV r x y H1 (f y)) : EvP (tOp r ta tb) σ H (fun v _ => ∃ y, Pv y ∧ v = f y) := fun H1 e Q q =>
  ha H1 e _ fun H2 e2 => hb H2 (e.trans e2) _ fun y H3 e3 py => hr y py H3 H3 (Ex.refl H3) Q fun H4 e4 => q (f y) H4 (e2.trans (e3.trans e4)) ⟨y, py, rfl⟩
theorem evp_opL {r : R2} {f : V → V} (ha : EvP ta σ H (fun v _ => Pv v)) (hb : Ev tb σ H y) (hr : ∀ x, Pv x → ∀ H1, RV r x y H1 (f x)) : EvP (tOp r ta tb) σ H (fun v _ => ∃ x, Pv x ∧ v = f x) := fun H1 e Q q =>
  ha H1 e _ fun x H2 e2 px => hb H2 (e.trans e2) _ fun H3 e3 => hr x px H3 H3 (Ex.refl H3) Q fun H4 e4 => q (f x) H4 (e2.trans (e3.trans e4)) ⟨x, px, rfl⟩
end
theorem isi_list {K : PySem.W.Frag} {H : Hp} {a : Addr} {xs : List V} (h : H a = some (.lst xs)) : RC (rIsi K) [.ref a, .ty "list"] H (.bl true) := fun H1 e Q q =>
  ⟨_, _, _, _, true, rfl, .ty "list", .base (.lst (e _ _ h)), kit_ty (by decide +kernel), q H1 (Ex.refl H1)⟩
/-- the law's line -/
noncomputable def lineL (b m n : Nat) : List V := (List.range n).map fun i => V.int ((nth b m i : Nat) : Int)
theorem line_len (b m n : Nat) : (lineL b m n).length = n := by
  unfold lineL
  rw [List.length_map, List.length_range]
theorem line_succ (b m n : Nat) : lineL b m (n + 1) = lineL b m n ++ [V.int ((nth b m n : Nat) : Int)] := by
  unfold lineL
  rw [List.range_succ, List.map_append]
  rfl
theorem line_get {b m n k : Nat} (h : k < n) : (lineL b m n)[k]? = some (V.int ((nth b m k : Nat) : Int)) := by
  unfold lineL
  rw [List.getElem?_map, List.getElem?_range h]
  rfl
section
variable {P : Program} {w : World} {K : PySem.W.Frag} {mg : Str → Option Value} {base : Heap}
def spLaw (K : PySem.W.Frag) : Sp := fun vs H Q _ => ∃ (a : Addr) (ns : List Int), vs = [.ref a] ∧ SqL K H a (ns.map V.int) ∧ ns.length ≤ 63 ∧ (∀ z ∈ ns, Builtin.Int.intBits z ≤ 1048576) ∧ ∀ H', Q (.bl true) H'
theorem scLaw : FnScope ["_law_script", "_law_first", "_law_base", "_law_m", "_law_k", "_law_most", "_law_line", "_law_found"] ["_law_script"] (defScope sLaw) := ⟨rfl, rfl, rfl, by decide +kernel, rfl, by decide +kernel, by decide +kernel⟩
theorem ten7 : (10 : Int) ^ (7 : Int).toNat = ((10000000 : Nat) : Int) := by decide +kernel
theorem ok_law {f f1 f2 f3 f4 f5 f6 f7 f8 : Addr} {fd d1 d2 d3 d4 d5 d6 d7 d8 : FuncData} (F : Fun K "law" "law" sLaw f fd) (B : Bl mg)
    (G1 : FnOk P w K mg base CX0 1 f1 d1 ["_law_script", "_law_k"] (spCellAt K)) (b1 : Binds K d1 ["_law_script", "_law_k"] []) (k1 : PySem.W.keepIn K (.ref f1) = true) (m1 : mg "_law_cell_at" = some (.ref f1))
    (G2 : FnOk P w K mg base CX0 1 f2 d2 ["_law_cell", "_law_k"] spMix) (b2 : Binds K d2 ["_law_cell", "_law_k"] []) (k2 : PySem.W.keepIn K (.ref f2) = true) (m2 : mg "_law_mix" = some (.ref f2))
    (G3 : FnOk P w K mg base CX0 1 f3 d3 ["_law_cell", "_law_k"] spGreat) (b3 : Binds K d3 ["_law_cell", "_law_k"] []) (k3 : PySem.W.keepIn K (.ref f3) = true) (m3 : mg "_law_great" = some (.ref f3))
    (G4 : FnOk P w K mg base CX0 1 f4 d4 ["_law_base"] spBound) (b4 : Binds K d4 ["_law_base"] []) (k4 : PySem.W.keepIn K (.ref f4) = true) (m4 : mg "_law_bound" = some (.ref f4))
    (G5 : FnOk P w K mg base CX0 4 f5 d5 ["_law_m", "_law_base"] (spGrown 4)) (b5 : Binds K d5 ["_law_m", "_law_base"] []) (k5 : PySem.W.keepIn K (.ref f5) = true) (m5 : mg "_law_grown" = some (.ref f5))
    (G6 : FnOk P w K mg base CX0 7 f6 d6 ["m", "base", "most"] (spRow K)) (b6 : Binds K d6 ["m", "base", "most"] []) (k6 : PySem.W.keepIn K (.ref f6) = true) (m6 : mg "row" = some (.ref f6))
    (G7 : FnOk P w K mg base CX0 1 f7 d7 ["_law_found"] spLWhole) (b7 : Binds K d7 ["_law_found"] []) (k7 : PySem.W.keepIn K (.ref f7) = true) (m7 : mg "_law_whole" = some (.ref f7))
    (G8 : FnOk P w K mg base CX0 5 f8 d8 ["_law_a", "_law_base"] (spRead K 4)) (b8 : Binds K d8 ["_law_a", "_law_base"] []) (k8 : PySem.W.keepIn K (.ref f8) = true) (m8 : mg "_law_read" = some (.ref f8)) :
    FnOk P w K mg base CX0 8 f fd ["_law_script"] (spLaw K) := by
  refine F.ok scLaw (fun vs H Q E h => ?_) (fun cdv A outer s H vs Q E hr h => ?_)
  · obtain ⟨a, ns, rfl, _⟩ := h
    rfl
  obtain ⟨a, ns, rfl, hS, hlen, hbits, q⟩ := h
  refine ⟨_, pss_cons (ps_set (i := 1) scLaw.nd rfl (Or.inl rfl) (pe_call G2 (hr.mono (by omega)) (by rfl) m2 k2 b2 .nil pass0 (pa_cons (pe_call G1 (hr.mono (by omega)) (by rfl) m1 k1 b1 .nil pass0 (pa_cons (pv 0) (pa_cons pe_int pa_nil))) (pa_cons pe_int pa_nil))))
    (pss_cons (ps_set (i := 2) scLaw.nd rfl (Or.inl rfl) (pe_op op_add pe_int (pe_op op_mod (pv 1) pe_int)))
    (pss_cons (ps_set (i := 3) scLaw.nd rfl (Or.inl rfl) pe_int)
    (pss_cons (ps_for PassesOwn.never rfl (pi_range1 (by rfl) B.range (pa_cons (pe_callB call_len_seq (by rfl) B.len PySem.boot_len (pa_cons (pv 0) pa_nil)) pa_nil)) (pg_name (i := 4) scLaw.nd rfl (Or.inl rfl))
      (pss_one (ps_set (i := 3) scLaw.nd rfl (Or.inl rfl) (pe_op op_mod (pe_op op_add (pe_op op_mulX (pv 3) (pe_op op_pow pe_int pe_int)) (pe_call G3 (hr.mono (by omega)) (by rfl) m3 k3 b3 .nil pass0 (pa_cons (pe_ix ix_list (pv 0) (pv 4) (fun _ _ => rfl)) (pa_cons (pv 4) pa_nil))))
        (pe_call G4 (hr.mono (by omega)) (by rfl) m4 k4 b4 .nil pass0 (pa_cons (pv 2) pa_nil))))))
    (pss_cons (ps_set (i := 5) scLaw.nd rfl (Or.inl rfl) (pe_op op_mod (pe_op op_fdiv (pv 1) pe_int) pe_int))
    (pss_cons (ps_if (pt_cmpR op_lt (pv 2) pe_int (nomark _)) (pss_one (ps_set (i := 5) scLaw.nd rfl (Or.inl rfl) (pe_op op_mod (pe_op op_fdiv (pv 1) pe_int) pe_int))) pss_nil)
    (pss_cons (ps_set (i := 6) scLaw.nd rfl (Or.inl rfl) (pe_lst (pa_cons (pv 3) pa_nil)))
    (pss_cons (ps_while PassesOwn.never (PW.pt (pw_and (pt_cmpR op_le (pe_callB call_len_seq (by rfl) B.len PySem.boot_len (pa_cons (pv 6) pa_nil)) (pv 5) (nomark _)) (pw_and1 (pt_cmpR op_gt (pe_ix ix_list (pv 6) (pe_un un_neg pe_int) (fun _ _ => rfl)) pe_int (nomark _)))))
      (pss_one (ps_expr (pe_bm PySem.F.plainAttrs_list PySem.F.slot_list_append PySem.F.type_list_append mt_append (pv 6) (pa_cons (pe_op op_sub (pe_call G5 (hr.mono (by omega)) (by rfl) m5 k5 b5 .nil pass0 (pa_cons (pe_ix ix_list (pv 6) (pe_un un_neg pe_int) (fun _ _ => rfl))
        (pa_cons (pe_op op_sub (pe_op op_add (pv 2) (pe_callB call_len_seq (by rfl) B.len PySem.boot_len (pa_cons (pv 6) pa_nil))) pe_int) pa_nil))) pe_int) pa_nil)))))
    (pss_cons (ps_set (i := 7) scLaw.nd rfl (Or.inl rfl) (pe_call G6 hr (by rfl) m6 k6 b6 .nil pass0 (pa_cons (pv 3) (pa_cons (pv 2) (pa_cons (pv 5) pa_nil)))))
    (pss_cons (ps_if (PW.pt (pw_or (pt_not (pt_val (pe_callB call_isi (by rfl) B.isi PyProof.Rows.boot_isinstance (pa_cons (pv 7) (pa_cons (pe_bltn (v := .ty "list") (by rfl) B.list PyProof.Rows.boot_list rfl) pa_nil)))))
        (pw_or1 (pt_cmpR op_ne (pe_callB call_len_seq (by rfl) B.len PySem.boot_len (pa_cons (pv 7) pa_nil)) (pe_callB call_len_seq (by rfl) B.len PySem.boot_len (pa_cons (pv 6) pa_nil)) (nomark _))))) pss_never pss_nil)
    (pss_cons (ps_for PassesOwn.never rfl (pi_range1 (by rfl) B.range (pa_cons (pe_callB call_len_seq (by rfl) B.len PySem.boot_len (pa_cons (pv 6) pa_nil)) pa_nil)) (pg_name (i := 4) scLaw.nd rfl (Or.inl rfl))
      (pss_cons (ps_if (PW.pt (pw_or (pt_not (pt_val (pe_callB call_isi (by rfl) B.isi PyProof.Rows.boot_isinstance (pa_cons (pe_ix ix_list (pv 7) (pv 4) (fun _ _ => rfl)) (pa_cons (pe_bltn (v := .ty "tuple") (by rfl) B.tuple PyProof.Rows.boot_tuple rfl) pa_nil)))))
        (pw_or1 (pt_cmpR op_ne (pe_callB call_len_seq (by rfl) B.len PySem.boot_len (pa_cons (pe_ix ix_list (pv 7) (pv 4) (fun _ _ => rfl)) pa_nil)) pe_int (nomark _))))) pss_never pss_nil)
      (pss_one (ps_if (PW.pt (pw_or (pt_not (pt_val (pe_call G7 (hr.mono (by omega)) (by rfl) m7 k7 b7 .nil pass0 (pa_cons (pe_ix ix_tup (pe_ix ix_list (pv 7) (pv 4) (fun _ _ => rfl)) pe_int (fun _ _ => rfl)) pa_nil))))
        (pw_or (pt_cmpR op_ne (pe_ix ix_tup (pe_ix ix_list (pv 7) (pv 4) (fun _ _ => rfl)) pe_int (fun _ _ => rfl)) (pe_op op_add (pv 2) (pv 4)) (nomark _))
        (pw_or1 (pt_cmpR op_ne (pe_call G8 (hr.mono (by omega)) (by rfl) m8 k8 b8 .nil pass0 (pa_cons (pe_ix ix_tup (pe_ix ix_list (pv 7) (pv 4) (fun _ _ => rfl)) pe_int (fun _ _ => rfl)) (pa_cons (pe_op op_add (pv 2) (pv 4)) pa_nil))) (pe_ix ix_list (pv 6) (pv 4) (fun _ _ => rfl)) (nomark _)))))) pss_never pss_nil))))
    (pss_one (ps_ret pe_bl)))))))))))), ?_⟩
  have hb0 : Builtin.Int.intBits (ns.headD 0) ≤ 1048576 := by
    cases ns with
    | nil => exact Nat.le_trans (PyProof.Rows.intBits_le (k := 1) (by decide)) (by decide)
    | cons n r => exact hbits n (List.mem_cons_self ..)
  refine q_asgP (P := fun v _ => ∃ r : Nat, v = .int (r : Int)) (evp_call (ea_cons (ev_call' (z := .int (ns.headD 0)) (ea_cons (ev_var rfl) (ea_cons ev_c ea_nil)) (fun H2 e2 Q2 q2 E2 => ⟨a, ns, rfl, ex_l e2 hS, q2⟩)) (ea_cons ev_c ea_nil))
    (fun H4 e4 Q4 q4 E4 => ⟨ns.headD 0, rfl, hb0, fun r H5 e5 => q4 _ H5 e5 ⟨r, rfl⟩⟩)) fun v H1 e1 ⟨r, ev⟩ => ?_
  subst ev
  refine q_asg (v := .int ((2 + r % 8 : Nat) : Int)) (ev_is (ev_op ev_c (ev_op (ev_var rfl) ev_c (rv_I (by show (0 : Int) < 8; decide))) rv_I0) (congrArg V.int (by omega))) fun H2 e2 => ?_
  refine q_asg ev_c fun H3 e3 => ?_
  have hb2 : 2 ≤ 2 + r % 8 := by omega
  have hb9 : 2 + r % 8 ≤ 9 := by omega
  generalize 2 + r % 8 = b at hb2 hb9
  have e13 := e1.trans (e2.trans e3)
  -- the whole number out of all cells
  refine q_forR1 (n := (ns.length : Int)) (ea_cons (ev_is (ev_len (ev_var rfl) (ex_l e13 hS)) (by rw [List.length_map])) ea_nil) ⟨by omega, by omega⟩
    (fun i σ' H' => ∃ (m : Nat), ∃ y4, σ' = [some (.ref a), some (.int (r : Int)), some (.int (b : Int)), some (.int (m : Int)), y4, none, none, none] ∧ Ex H H' ∧ m < b ^ min (b * b) 40)
    (fun H4 e4 => ⟨0, none, rfl, e13.trans e4, pow_pos' hb2 _⟩) (fun i σ' H' hi p => ?_) (fun σ' H' p => ?_)
  · obtain ⟨m, y4, rfl, e4, hm⟩ := p
    have hi : i < ns.length := by omega
    have hget : (ns.map V.int)[i]? = some (.int ns[i]) := by
      rw [List.getElem?_map, List.getElem?_eq_getElem hi]
      rfl
    have hzb := hbits ns[i] (List.getElem_mem hi)
    have hbd : 0 < b ^ min (b * b) 40 := pow_pos' hb2 _
    have hm40 : m < 2 ^ 5000 := by
      have h1 : b ^ min (b * b) 40 ≤ b ^ 40 := Nat.pow_le_pow_right (by omega) (by omega)
      have h2 := pow5000 (C := b) (n := 40) (by omega) (by omega)
      omega
    refine s_asgP (evp_opL (evp_opR (Pv := fun y => ∃ g : Nat, y = .int (g : Int)) (f := fun y => match y with | .int g => .int ((m : Int) * 10 ^ (7 : Int).toNat + g) | _ => .non) (ev_op (ev_var rfl) (ev_op ev_c ev_c (rv_I ⟨by decide, by decide, by decide⟩)) (rv_I (by rw [ten7]; exact mulx_nat hm40 (Nat.lt_of_lt_of_le (by decide : 10000000 < 2 ^ 24) (Nat.pow_le_pow_right (by decide) (by decide))))))
        (evp_call (ea_cons (ev_op (ev_var rfl) (ev_var rfl) (rv_ixL (ex_l e4 hS) (atI_nat hget))) (ea_cons (ev_var rfl) ea_nil)) (fun H5 e5 Q5 q5 E5 => ⟨ns[i], i, rfl, hzb, by omega, fun g H6 e6 _ => q5 _ H6 e6 ⟨g, rfl⟩⟩)) (fun y ⟨g, ey⟩ H5 => by
          subst ey
          exact rv_I0))
      (ev_call' (z := .int ((b ^ min (b * b) 40 : Nat) : Int)) (ea_cons (ev_var rfl) ea_nil) (fun H5 e5 Q5 q5 E5 => ⟨b, rfl, hb2, hb9, q5⟩))
      (f := fun x => match x with | .int g => .int (g % ((b ^ min (b * b) 40 : Nat) : Int)) | _ => .non) (fun x ⟨y, ⟨g, ey⟩, ex⟩ H5 => by
        subst ey
        subst ex
        exact rv_I (Int.ofNat_lt.mpr hbd))) fun v H5 e5 ⟨x, ⟨y, ⟨g, ey⟩, ex⟩, ev⟩ => ?_
    subst ey
    subst ex
    subst ev
    refine ⟨(m * 10000000 + g) % b ^ min (b * b) 40, some (.int (i : Int)), ?_, e4.trans e5, Nat.mod_lt _ hbd⟩
    have hc : ((m : Int) * 10 ^ (7 : Int).toNat + (g : Int)) % ((b ^ min (b * b) 40 : Nat) : Int) = (((m * 10000000 + g) % b ^ min (b * b) 40 : Nat) : Int) := by
      rw [ten7, ← Int.natCast_mul, ← Int.natCast_add, ← Int.natCast_emod]
    rw [← hc]
    rfl
  · obtain ⟨m, y4, rfl, e4, hm⟩ := p
    -- how many steps
    refine q_asg (v := .int ((r / 8 % 7 : Nat) : Int)) (ev_is (ev_op (ev_op (ev_var rfl) ev_c (rv_I ⟨by decide, by decide⟩)) ev_c (rv_I (by show (0 : Int) < 7; decide))) (congrArg V.int (by omega))) fun H5 e5 => ?_
    refine q_ifAsg (b := decide ((b : Int) < 4)) (v := .int ((if b < 4 then r / 8 % 15 else r / 8 % 7 : Nat) : Int)) (et_test (ev_op (ev_var rfl) ev_c rv_I0))
      (fun hh => ev_is (ev_op (ev_op (ev_var rfl) ev_c (rv_I ⟨by decide, by decide⟩)) ev_c (rv_I (by show (0 : Int) < 15; decide))) (congrArg V.int (by have h1 := of_decide_eq_true hh; rw [if_pos (by omega)]; omega)))
      (fun hh => by
        have h1 := of_decide_eq_false hh
        rw [if_neg (by omega)]
        rfl) fun H6 e6 => ?_
    have hmost : b + (if b < 4 then r / 8 % 15 else r / 8 % 7) ≤ 18 ∧ (if b < 4 then r / 8 % 15 else r / 8 % 7) ≤ 14 ∧ b * (b + (if b < 4 then r / 8 % 15 else r / 8 % 7)) ≤ 200 := by
      by_cases h4 : b < 4
      · rw [if_pos h4]
        refine ⟨by omega, by omega, ?_⟩
        have : b * (b + r / 8 % 15) ≤ 3 * 17 := Nat.mul_le_mul (by omega) (by omega)
        omega
      · rw [if_neg h4]
        refine ⟨by omega, by omega, ?_⟩
        have : b * (b + r / 8 % 7) ≤ 9 * 15 := Nat.mul_le_mul (by omega) (by omega)
        omega
    generalize (if b < 4 then r / 8 % 15 else r / 8 % 7) = most at hmost
    obtain ⟨hbm, hm14, hbb⟩ := hmost
    have hmb : m < b ^ (b * b) := Nat.lt_of_lt_of_le hm (Nat.pow_le_pow_right (by omega) (by omega))
    have e46 := e4.trans (e5.trans e6)
    -- the law's line
    refine q_asgL (xs := [.int (m : Int)]) (el_lst (ea_cons (ev_var rfl) ea_nil) (by show 1 ≤ 100000; decide)) fun l H7 nl e7 hl7 => ?_
    refine q_while (fun mm σ' H' => ∃ j : Nat, σ' = [some (.ref a), some (.int (r : Int)), some (.int (b : Int)), some (.int (m : Int)), y4, some (.int (most : Int)), some (.ref l), none] ∧ Ex H6 H' ∧ H' l = some (.lst (lineL b m (j + 1))) ∧ j ≤ most ∧ (∀ i, i < j → 0 < nth b m i) ∧ most - j = mm) most
      ⟨0, rfl, e7, hl7, Nat.zero_le _, fun i hi => absurd hi (Nat.not_lt_zero _), rfl⟩ (fun mm σ' H' hw => ?_)
    obtain ⟨j, rfl, e8, hl8, hj, hpos, rfl⟩ := hw
    have hlast : atI (lineL b m (j + 1)) (-1) = some (V.int ((nth b m j : Nat) : Int)) := by
      rw [line_succ]
      exact atI_last _ _
    have hll := line_len b m (j + 1)
    refine ⟨decide (((lineL b m (j + 1)).length : Int) ≤ (most : Int)) && decide ((0 : Int) < ((nth b m j : Nat) : Int)), et_and (et_test (ev_op (ev_len (ev_var rfl) (sq_of hl8)) (ev_var rfl) rv_I0)) (fun _ => et_test (ev_op (ev_op (ev_var rfl) (ev_un ev_c ru_neg) (rv_ixL (sq_of hl8) hlast)) ev_c rv_I0)), fun ht H9 e9 => ?_, fun ht H9 e9 => ?_⟩
    · -- one number more
      rw [Bool.and_eq_true] at ht
      have h1 := of_decide_eq_true ht.1
      have h2 := of_decide_eq_true ht.2
      rw [hll] at h1
      have hjm : j + 1 ≤ most := by omega
      have hnj : 0 < nth b m j := by omega
      have hnb := nth_bound hb2 hmb j
      have hbj : b * (b + j) ≤ (b + j) * (b + j) := Nat.mul_le_mul_right _ (by omega)
      have hl9 : H9 l = some (.lst (lineL b m (j + 1))) := e9 _ _ hl8
      have hbase : (b : Int) + ((lineL b m (j + 1)).length : Int) - 1 = ((b + j : Nat) : Int) := by
        rw [hll]
        omega
      have hgp := gro_pos (B := b + j) (by omega) hnj
      have hnext : ((gro (b + j) (nth b m j) : Nat) : Int) - 1 = ((nth b m (j + 1) : Nat) : Int) := by
        show _ = ((gro (b + j) (nth b m j) - 1 : Nat) : Int)
        omega
      refine ⟨fun σ2 H10 => σ2 = [some (.ref a), some (.int (r : Int)), some (.int (b : Int)), some (.int (m : Int)), y4, some (.int (most : Int)), some (.ref l), none] ∧ Ex H6 H10 ∧ H10 l = some (.lst (lineL b m (j + 1 + 1))),
        fun σ2 H10 ⟨g1, g2, g3⟩ => ⟨most - (j + 1), by omega, j + 1, g1, g2, g3, hjm, fun i hi => ?_, rfl⟩, ?_⟩
      · by_cases hc : i < j
        · exact hpos i hc
        · have ei : i = j := by omega
          rw [ei]
          exact hnj
      refine s_app (l := l) (xs := lineL b m (j + 1)) (v := .int ((nth b m (j + 1) : Nat) : Int)) hl9 (ev_var rfl) (ev_is (ev_op (ev_call' (z := .int ((gro (b + j) (nth b m j) : Nat) : Int)) (ea_cons (ev_op (ev_var rfl) (ev_un ev_c ru_neg) (rv_ixL (sq_of hl9) hlast))
        (ea_cons (ev_is (ev_op (ev_op (ev_var rfl) (ev_len (ev_var rfl) (sq_of hl9)) rv_I0) ev_c rv_I0) (congrArg V.int hbase)) ea_nil)) (fun H10 e10 Q10 q10 E10 => ⟨nth b m j, b + j, rfl, by omega, by omega, Nat.lt_of_lt_of_le hnb (Nat.pow_le_pow_right (by omega) hbj), bnd_four (u := b) (by omega) (by omega) hnb, q10⟩)) ev_c rv_I0) (congrArg V.int hnext)) (by omega) fun H10 e10 => ?_
      refine ⟨rfl, Ex.mut (e8.trans (e9.trans e10)) nl, ?_⟩
      rw [line_succ b m (j + 1)]
      exact upd_same
    · -- the line's end
      have hends : EndsAt b m most j := by
        refine ⟨hj, hpos, ?_⟩
        rw [hll] at ht
        by_cases h1 : j + 1 ≤ most
        · rw [decide_eq_true (by omega), Bool.true_and] at ht
          have := of_decide_eq_false ht
          exact .inr (by omega)
        · exact .inl (by omega)
      have e89 := e8.trans e9
      have hl9 : H9 l = some (.lst (lineL b m (j + 1))) := e9 _ _ hl8
      refine q_asgP (P := fun v H' => ∃ p xs, v = .ref p ∧ H' p = some (.lst xs) ∧ FoundAt K H' b m (j + 1) xs) (evp_call (ea_cons (ev_var rfl) (ea_cons (ev_var rfl) (ea_cons (ev_var rfl) ea_nil))) (fun H10 e10 Q10 q10 E10 => ⟨m, b, most, rfl, hb2, hmb, hbm, hbb, fun p H11 xs j' e11 hp11 hf11 he11 => by
        have ej := endsAt_uniq he11 hends
        subst ej
        exact q10 (.ref p) H11 e11 ⟨p, xs, rfl, hp11, hf11⟩⟩)) fun v H10 e10 ⟨fa, xs, ev, hp10, hf10⟩ => ?_
      subst ev
      have hl10 : H10 l = some (.lst (lineL b m (j + 1))) := e10 _ _ hl9
      refine q_when (b := false) (et_is (et_or (et_not (et_B (ev_cb (ea_cons (ev_var rfl) (ea_cons ev_c ea_nil)) (isi_list hp10)))) fun _ => et_test (ev_op (ev_len (ev_var rfl) (sq_of hp10)) (ev_len (ev_var rfl) (sq_of hl10)) (rv_ne rfl))) ?_) (fun hh => nomatch hh) (fun _ H11 e11 => ?_)
      · rw [hf10.1, hll, decide_eq_true rfl]
        rfl
      have e1011 := e10.trans e11
      have hl11 : H11 l = some (.lst (lineL b m (j + 1))) := e11 _ _ hl10
      refine q_forR1 (n := ((j + 1 : Nat) : Int)) (ea_cons (ev_is (ev_len (ev_var rfl) (sq_of hl11)) (by rw [hll])) ea_nil) ⟨by omega, by omega⟩
        (fun i σ' H' => ∃ y4, σ' = [some (.ref a), some (.int (r : Int)), some (.int (b : Int)), some (.int (m : Int)), y4, some (.int (most : Int)), some (.ref l), some (.ref fa)] ∧ Ex H11 H')
        (fun H12 e12 => ⟨y4, rfl, e12⟩) (fun i σ' H' hi p => ?_) (fun σ' H' p => ?_)
      · obtain ⟨y4', rfl, e12⟩ := p
        have hi : i < j + 1 := by omega
        have e1012 := e11.trans e12
        obtain ⟨qi, ai, g1, g2, g3⟩ := hf10.2 i hi
        have hxs : SqL K H' fa xs := sq_of (e1012 _ _ hp10)
        have g2 : SqT K H' qi [.int ((b + i : Nat) : Int), .ref ai] := ex_t e1012 g2
        have g3 := numAt_mono e1012 g3
        have hll' : SqL K H' l (lineL b m (j + 1)) := sq_of (e12 _ _ hl11)
        have hnb := nth_bound hb2 hmb i
        have hbi : b * (b + i) ≤ 200 := Nat.le_trans (Nat.mul_le_mul_left _ (by omega)) hbb
        have hbase : (b : Int) + (i : Int) = ((b + i : Nat) : Int) := by omega
        refine q_when (b := false) (et_is (et_or (et_not (et_B (ev_cb (ea_cons (ev_op (ev_var rfl) (ev_var rfl) (rv_ixL hxs (atI_nat g1))) (ea_cons ev_c ea_nil)) (isi_tup g2)))) fun _ => et_test (ev_op (ev_lenT (ev_op (ev_var rfl) (ev_var rfl) (rv_ixL hxs (atI_nat g1))) g2) ev_c (rv_ne rfl))) ?_) (fun hh => nomatch hh) (fun _ H13 e13 => ?_)
        · rw [dec_two]
          rfl
        have hxs := ex_l e13 hxs
        have g2 := ex_t e13 g2
        have g3 := numAt_mono e13 g3
        have hll' := ex_l e13 hll'
        refine s_when (b := false) (et_is (et_or (et_not (et_B (ev_call' (z := .bl true) (ea_cons (ev_op (ev_op (ev_var rfl) (ev_var rfl) (rv_ixL hxs (atI_nat g1))) ev_c (rv_ixT g2 (atI_nat (j := 0) rfl))) ea_nil) (fun H14 e14 Q14 q14 E14 => ⟨((b + i : Nat) : Int), rfl, q14⟩))))
            fun _ => et_or (et_test (ev_op (ev_op (ev_op (ev_var rfl) (ev_var rfl) (rv_ixL hxs (atI_nat g1))) ev_c (rv_ixT g2 (atI_nat (j := 0) rfl))) (ev_op (ev_var rfl) (ev_var rfl) rv_I0) (rv_ne rfl)))
            fun _ => et_test (ev_op (ev_call' (z := .int ((nth b m i : Nat) : Int)) (ea_cons (ev_op (ev_op (ev_var rfl) (ev_var rfl) (rv_ixL hxs (atI_nat g1))) ev_c (rv_ixT g2 (atI_nat (j := 1) rfl))) (ea_cons (ev_is (ev_op (ev_var rfl) (ev_var rfl) rv_I0) (congrArg V.int hbase)) ea_nil))
              (fun H14 e14 Q14 q14 E14 => ⟨ai, W (b + i) (nth b m i), b + i, rfl, numAt_mono e14 g3, by omega, by omega, W_nf (by omega) _, by rw [W_val (by omega)]; exact Nat.lt_of_lt_of_le hnb (Nat.pow_le_pow_right (by omega) (by omega)),
                by rw [W_val (by omega)]; exact bnd_four (u := b) (by omega) (by omega) hnb, by rw [W_val (by omega)]; exact q14⟩)) (ev_op (ev_var rfl) (ev_var rfl) (rv_ixL hll' (atI_nat (line_get hi)))) (rv_ne rfl))) ?_) (fun hh => nomatch hh) (fun _ H14 e14 => ?_)
        · rw [hbase, decide_eq_true rfl, decide_eq_true rfl]
          rfl
        · exact ⟨some (.int (i : Int)), rfl, e12.trans (e13.trans e14)⟩
      · obtain ⟨y4', rfl, e12⟩ := p
        exact s_ret ev_c fun H13 e13 => q H13
end
end HH

set_option Elab.async false
set_option maxRecDepth 100000
set_option maxHeartbeats 4000000
set_option linter.all false
namespace HH
open PySem L2
theorem all_mk {l : PySem.W.OpenLaw} {w : World} {K : PySem.W.Frag} {h : Heap} {mg : Str → Option Value} {fa f0 f1 f2 f3 f4 f5 f6 f7 f8 f9 f10 f11 f12 f13 f14 f15 g0 t0 g1 t1 : Addr} {tk : Tok} (X : K.In h) (G : h.Ns mainGlobals mg) (hfa : mg "law" = some (.ref fa))
    {od0 an0 od1 an1 od2 an2 od3 an3 od4 an4 od5 an5 od6 an6 od7 an7 od8 an8 od9 an9 od10 an10 od11 an11 od12 an12 od13 an13 od14 an14 od15 an15 : Option Addr} {sl0 sl1 sl2 sl3 sl4 sl5 sl6 sl7 sl8 sl9 sl10 sl11 sl12 sl13 sl14 sl15 : Array (Option Value)} {oc0 kV0 dc0 pm0 cd0 ct0 oc1 kV1 dc1 pm1 cd1 ct1 oc2 kV2 dc2 pm2 cd2 ct2 oc3 kV3 dc3 pm3 cd3 ct3 oc4 kV4 dc4 pm4 cd4 ct4 oc5 kV5 dc5 pm5 cd5 ct5 oc6 kV6 dc6 pm6 cd6 ct6 oc7 kV7 dc7 pm7 cd7 ct7 oc8 kV8 dc8 pm8 cd8 ct8 oc9 kV9 dc9 pm9 cd9 ct9 oc10 kV10 dc10 pm10 cd10 ct10 oc11 kV11 dc11 pm11 cd11 ct11 oc12 kV12 dc12 pm12 cd12 ct12 oc13 kV13 dc13 pm13 cd13 ct13 oc14 kV14 dc14 pm14 cd14 ct14 oc15 kV15 dc15 pm15 cd15 ct15 : Value}
    {ud0 un0 td0 ud1 un1 td1 : Option Addr} {us0 ts0 us1 ts1 : Array (Option Value)} {uc0 uV0 ue0 up0 ug0 ut0 tc0 uc1 uV1 ue1 up1 ug1 ut1 tc1 : Value} {ti0 ti1 : Array Value} {tn0 tn1 : Nat} {tt0_0 tt1_0 tt1_1 : Tok}
    (a0 : PySem.W.nsIn K mainGlobals "is_whole" = some (some (.ref f0))) (l0 : K.lookup f0 = some ⟨oc0, od0, .func (PySem.W.fnOf "is_whole" "is_whole" (defArgs sWhole) (defBody sWhole) (defScope sWhole) .none kV0 dc0 pm0 an0 cd0 ct0), sl0⟩) (c0 : PySem.W.codeIn K cd0 "is_whole" = true) (k0 : PySem.W.keepIn K (.ref f0) = true)
    (a1 : PySem.W.nsIn K mainGlobals "greatest" = some (some (.ref f1))) (l1 : K.lookup f1 = some ⟨oc1, od1, .func (PySem.W.fnOf "greatest" "greatest" (defArgs sGreatest) (defBody sGreatest) (defScope sGreatest) .none kV1 dc1 pm1 an1 cd1 ct1), sl1⟩) (c1 : PySem.W.codeIn K cd1 "greatest" = true) (k1 : PySem.W.keepIn K (.ref f1) = true)
    (a2 : PySem.W.nsIn K mainGlobals "too_great" = some (some (.ref f2))) (l2 : K.lookup f2 = some ⟨oc2, od2, .func (PySem.W.fnOf "too_great" "too_great" (defArgs sTooGreat) (defBody sTooGreat) (defScope sTooGreat) .none kV2 dc2 pm2 an2 cd2 ct2), sl2⟩) (c2 : PySem.W.codeIn K cd2 "too_great" = true) (k2 : PySem.W.keepIn K (.ref f2) = true)
    (a3 : PySem.W.nsIn K mainGlobals "fits" = some (some (.ref f3))) (l3 : K.lookup f3 = some ⟨oc3, od3, .func (PySem.W.fnOf "fits" "fits" (defArgs sFits) (defBody sFits) (defScope sFits) .none kV3 dc3 pm3 an3 cd3 ct3), sl3⟩) (c3 : PySem.W.codeIn K cd3 "fits" = true) (k3 : PySem.W.keepIn K (.ref f3) = true)
    (a4 : PySem.W.nsIn K mainGlobals "base_to" = some (some (.ref f4))) (l4 : K.lookup f4 = some ⟨oc4, od4, .func (PySem.W.fnOf "base_to" "base_to" (defArgs sBaseTo) (defBody sBaseTo) (defScope sBaseTo) .none kV4 dc4 pm4 an4 cd4 ct4), sl4⟩) (c4 : PySem.W.codeIn K cd4 "base_to" = true) (k4 : PySem.W.keepIn K (.ref f4) = true)
    (a5 : PySem.W.nsIn K mainGlobals "worth" = some (some (.ref f5))) (l5 : K.lookup f5 = some ⟨oc5, od5, .func (PySem.W.fnOf "worth" "worth" (defArgs sWorth) (defBody sWorth) (defScope sWorth) .none kV5 dc5 pm5 an5 cd5 ct5), sl5⟩) (c5 : PySem.W.codeIn K cd5 "worth" = true) (k5 : PySem.W.keepIn K (.ref f5) = true)
    (a6 : PySem.W.nsIn K mainGlobals "one_less" = some (some (.ref f6))) (l6 : K.lookup f6 = some ⟨oc6, od6, .func (PySem.W.fnOf "one_less" "one_less" (defArgs sOneLess) (defBody sOneLess) (defScope sOneLess) .none kV6 dc6 pm6 an6 cd6 ct6), sl6⟩) (c6 : PySem.W.codeIn K cd6 "one_less" = true) (k6 : PySem.W.keepIn K (.ref f6) = true)
    (a7 : PySem.W.nsIn K mainGlobals "down" = some (some (.ref f7))) (l7 : K.lookup f7 = some ⟨oc7, od7, .func (PySem.W.fnOf "down" "down" (defArgs sDown) (defBody sDown) (defScope sDown) .none kV7 dc7 pm7 an7 cd7 ct7), sl7⟩) (c7 : PySem.W.codeIn K cd7 "down" = true) (k7 : PySem.W.keepIn K (.ref f7) = true)
    (a8 : PySem.W.nsIn K mainGlobals "_law_cell_at" = some (some (.ref f8))) (l8 : K.lookup f8 = some ⟨oc8, od8, .func (PySem.W.fnOf "_law_cell_at" "_law_cell_at" (defArgs sCellAt) (defBody sCellAt) (defScope sCellAt) .none kV8 dc8 pm8 an8 cd8 ct8), sl8⟩) (c8 : PySem.W.codeIn K cd8 "_law_cell_at" = true) (k8 : PySem.W.keepIn K (.ref f8) = true)
    (a9 : PySem.W.nsIn K mainGlobals "_law_mix" = some (some (.ref f9))) (l9 : K.lookup f9 = some ⟨oc9, od9, .func (PySem.W.fnOf "_law_mix" "_law_mix" (defArgs sMix) (defBody sMix) (defScope sMix) .none kV9 dc9 pm9 an9 cd9 ct9), sl9⟩) (c9 : PySem.W.codeIn K cd9 "_law_mix" = true) (k9 : PySem.W.keepIn K (.ref f9) = true)
    (a10 : PySem.W.nsIn K mainGlobals "_law_great" = some (some (.ref f10))) (l10 : K.lookup f10 = some ⟨oc10, od10, .func (PySem.W.fnOf "_law_great" "_law_great" (defArgs sGreat) (defBody sGreat) (defScope sGreat) .none kV10 dc10 pm10 an10 cd10 ct10), sl10⟩) (c10 : PySem.W.codeIn K cd10 "_law_great" = true) (k10 : PySem.W.keepIn K (.ref f10) = true)
    (a11 : PySem.W.nsIn K mainGlobals "_law_whole" = some (some (.ref f11))) (l11 : K.lookup f11 = some ⟨oc11, od11, .func (PySem.W.fnOf "_law_whole" "_law_whole" (defArgs sLWhole) (defBody sLWhole) (defScope sLWhole) .none kV11 dc11 pm11 an11 cd11 ct11), sl11⟩) (c11 : PySem.W.codeIn K cd11 "_law_whole" = true) (k11 : PySem.W.keepIn K (.ref f11) = true)
    (a12 : PySem.W.nsIn K mainGlobals "_law_read" = some (some (.ref f12))) (l12 : K.lookup f12 = some ⟨oc12, od12, .func (PySem.W.fnOf "_law_read" "_law_read" (defArgs sRead) (defBody sRead) (defScope sRead) .none kV12 dc12 pm12 an12 cd12 ct12), sl12⟩) (c12 : PySem.W.codeIn K cd12 "_law_read" = true) (k12 : PySem.W.keepIn K (.ref f12) = true)
    (a13 : PySem.W.nsIn K mainGlobals "_law_grown" = some (some (.ref f13))) (l13 : K.lookup f13 = some ⟨oc13, od13, .func (PySem.W.fnOf "_law_grown" "_law_grown" (defArgs sGrown) (defBody sGrown) (defScope sGrown) .none kV13 dc13 pm13 an13 cd13 ct13), sl13⟩) (c13 : PySem.W.codeIn K cd13 "_law_grown" = true) (k13 : PySem.W.keepIn K (.ref f13) = true)
    (a14 : PySem.W.nsIn K mainGlobals "_law_bound" = some (some (.ref f14))) (l14 : K.lookup f14 = some ⟨oc14, od14, .func (PySem.W.fnOf "_law_bound" "_law_bound" (defArgs sBound) (defBody sBound) (defScope sBound) .none kV14 dc14 pm14 an14 cd14 ct14), sl14⟩) (c14 : PySem.W.codeIn K cd14 "_law_bound" = true) (k14 : PySem.W.keepIn K (.ref f14) = true)
    (a15 : PySem.W.nsIn K mainGlobals "law" = some (some (.ref f15))) (l15 : K.lookup f15 = some ⟨oc15, od15, .func (PySem.W.fnOf "law" "law" (defArgs sLaw) (defBody sLaw) (defScope sLaw) .none kV15 dc15 pm15 an15 cd15 ct15), sl15⟩) (c15 : PySem.W.codeIn K cd15 "law" = true) (k15 : PySem.W.keepIn K (.ref f15) = true)
    (ea0 : PySem.W.nsIn K mainGlobals "written" = some (some (.ref g0))) (el0 : K.lookup g0 = some ⟨uc0, ud0, .func (PySem.W.fnOf "written" "written" (defArgs sWritten) (defBody sWritten) (defScope sWritten) (.ref t0) uV0 ue0 up0 un0 ug0 ut0), us0⟩) (ec0 : PySem.W.codeIn K ug0 "written" = true) (ek0 : PySem.W.keepIn K (.ref g0) = true)
    (et0 : K.lookup t0 = some ⟨tc0, td0, .seq ti0 tn0, ts0⟩) (ev0 : ti0.toList = [Value.int 2 tt0_0])
    (ea1 : PySem.W.nsIn K mainGlobals "row" = some (some (.ref g1))) (el1 : K.lookup g1 = some ⟨uc1, ud1, .func (PySem.W.fnOf "row" "row" (defArgs sRow) (defBody sRow) (defScope sRow) (.ref t1) uV1 ue1 up1 un1 ug1 ut1), us1⟩) (ec1 : PySem.W.codeIn K ug1 "row" = true) (ek1 : PySem.W.keepIn K (.ref g1) = true)
    (et1 : K.lookup t1 = some ⟨tc1, td1, .seq ti1 tn1, ts1⟩) (ev1 : ti1.toList = [Value.int 2 tt1_0, Value.int 20 tt1_1])
    (zM : PySem.W.nsIn K mainGlobals "MOST_PARTS" = some (some (.int 200 tk)))
    (z0 : PySem.W.nsIn K mainGlobals "len" = some none)
    (z1 : PySem.W.nsIn K mainGlobals "isinstance" = some none)
    (z2 : PySem.W.nsIn K mainGlobals "int" = some none)
    (z3 : PySem.W.nsIn K mainGlobals "bool" = some none)
    (z4 : PySem.W.nsIn K mainGlobals "tuple" = some none)
    (z5 : PySem.W.nsIn K mainGlobals "list" = some none)
    (z6 : PySem.W.nsIn K mainGlobals "range" = some none)
    (z7 : PySem.W.nsIn K mainGlobals "max" = some none)
    (z8 : PySem.W.nsIn K mainGlobals "min" = some none)
    (z9 : PySem.W.nsIn K mainGlobals "divmod" = some none)
    (z10 : PySem.W.nsIn K mainGlobals "reversed" = some none)
    : ∃ fd : FuncData, (∀ (s : Shared) (v : Value), BindsTo s fd ⟨[v], []⟩ [("_law_script", v)]) ∧ ∀ base : Heap, K.In base → base.Ns mainGlobals mg → FnOk l.prog w K mg base CX0 8 fa fd ["_law_script"] (spLaw K) := by
  have e := hfa.symm.trans (PySem.W.mg_of X G a15)
  cases e
  have F0 := fun_mk (st := sWhole) l0 c0 k0
  have m0 := PySem.W.mg_of X G a0
  have b0 := F0.binds (ps := ["thing"]) fun _ _ _ _ _ _ us hl => match us, hl with | [_], _ => rfl
  have F1 := fun_mk (st := sGreatest) l1 c1 k1
  have m1 := PySem.W.mg_of X G a1
  have b1 := F1.binds (ps := ["a"]) fun _ _ _ _ _ _ us hl => match us, hl with | [_], _ => rfl
  have F2 := fun_mk (st := sTooGreat) l2 c2 k2
  have m2 := PySem.W.mg_of X G a2
  have b2 := F2.binds (ps := []) fun _ _ _ _ _ _ us hl => match us, hl with | [], _ => rfl
  have F3 := fun_mk (st := sFits) l3 c3 k3
  have m3 := PySem.W.mg_of X G a3
  have b3 := F3.binds (ps := ["a", "base"]) fun _ _ _ _ _ _ us hl => match us, hl with | [_, _], _ => rfl
  have F4 := fun_mk (st := sBaseTo) l4 c4 k4
  have m4 := PySem.W.mg_of X G a4
  have b4 := F4.binds (ps := ["base", "exponent"]) fun _ _ _ _ _ _ us hl => match us, hl with | [_, _], _ => rfl
  have F5 := fun_mk (st := sWorth) l5 c5 k5
  have m5 := PySem.W.mg_of X G a5
  have b5 := F5.binds (ps := ["a", "base"]) fun _ _ _ _ _ _ us hl => match us, hl with | [_, _], _ => rfl
  have F6 := fun_mk (st := sOneLess) l6 c6 k6
  have m6 := PySem.W.mg_of X G a6
  have b6 := F6.binds (ps := ["a"]) fun _ _ _ _ _ _ us hl => match us, hl with | [_], _ => rfl
  have F7 := fun_mk (st := sDown) l7 c7 k7
  have m7 := PySem.W.mg_of X G a7
  have b7 := F7.binds (ps := ["a", "base"]) fun _ _ _ _ _ _ us hl => match us, hl with | [_, _], _ => rfl
  have F8 := fun_mk (st := sCellAt) l8 c8 k8
  have m8 := PySem.W.mg_of X G a8
  have b8 := F8.binds (ps := ["_law_script", "_law_k"]) fun _ _ _ _ _ _ us hl => match us, hl with | [_, _], _ => rfl
  have F9 := fun_mk (st := sMix) l9 c9 k9
  have m9 := PySem.W.mg_of X G a9
  have b9 := F9.binds (ps := ["_law_cell", "_law_k"]) fun _ _ _ _ _ _ us hl => match us, hl with | [_, _], _ => rfl
  have F10 := fun_mk (st := sGreat) l10 c10 k10
  have m10 := PySem.W.mg_of X G a10
  have b10 := F10.binds (ps := ["_law_cell", "_law_k"]) fun _ _ _ _ _ _ us hl => match us, hl with | [_, _], _ => rfl
  have F11 := fun_mk (st := sLWhole) l11 c11 k11
  have m11 := PySem.W.mg_of X G a11
  have b11 := F11.binds (ps := ["_law_found"]) fun _ _ _ _ _ _ us hl => match us, hl with | [_], _ => rfl
  have F12 := fun_mk (st := sRead) l12 c12 k12
  have m12 := PySem.W.mg_of X G a12
  have b12 := F12.binds (ps := ["_law_a", "_law_base"]) fun _ _ _ _ _ _ us hl => match us, hl with | [_, _], _ => rfl
  have F13 := fun_mk (st := sGrown) l13 c13 k13
  have m13 := PySem.W.mg_of X G a13
  have b13 := F13.binds (ps := ["_law_m", "_law_base"]) fun _ _ _ _ _ _ us hl => match us, hl with | [_, _], _ => rfl
  have F14 := fun_mk (st := sBound) l14 c14 k14
  have m14 := PySem.W.mg_of X G a14
  have b14 := F14.binds (ps := ["_law_base"]) fun _ _ _ _ _ _ us hl => match us, hl with | [_], _ => rfl
  have F15 := fun_mk (st := sLaw) l15 c15 k15
  have m15 := PySem.W.mg_of X G a15
  have E0 : FunD K "written" "written" (defArgs sWritten) (defBody sWritten) (defScope sWritten) [.int 2] [] g0 _ := ⟨⟨_, _, _, _, _, _, _, _, _, _, rfl, el0, ec0, .inr ⟨by simp, t0, _, ti0.toList, tn0, rfl, et0, by simp, by rw [ev0]; exact (.cons ⟨_, rfl⟩ .nil)⟩, .inl rfl⟩, ek0⟩
  have n0 := PySem.W.mg_of X G ea0
  obtain ⟨ds0, rd0, bb0⟩ := E0.binds1 (ps := ["m", "base"]) 2 1 (by simp) rfl (fun T kV doc pm an cdv ct us its h1 h2 => match us, its, h1, h2 with | [_, _], [_], _, _ => ⟨_, rfl, rfl⟩)
  have rn0 : ds0 = [] := by cases rd0; rfl
  rw [rn0] at bb0
  have E1 : FunD K "row" "row" (defArgs sRow) (defBody sRow) (defScope sRow) [.int 2, .int 20] [] g1 _ := ⟨⟨_, _, _, _, _, _, _, _, _, _, rfl, el1, ec1, .inr ⟨by simp, t1, _, ti1.toList, tn1, rfl, et1, by simp, by rw [ev1]; exact (.cons ⟨_, rfl⟩ (.cons ⟨_, rfl⟩ .nil))⟩, .inl rfl⟩, ek1⟩
  have n1 := PySem.W.mg_of X G ea1
  obtain ⟨ds1, rd1, bb1⟩ := E1.binds1 (ps := ["m", "base", "most"]) 3 2 (by simp) rfl (fun T kV doc pm an cdv ct us its h1 h2 => match us, its, h1, h2 with | [_, _, _], [_, _], _, _ => ⟨_, rfl, rfl⟩)
  have rn1 : ds1 = [] := by cases rd1; rfl
  rw [rn1] at bb1
  have B : Bl mg := ⟨PySem.W.mg_none_of X G z0, PySem.W.mg_none_of X G z1, PySem.W.mg_none_of X G z2, PySem.W.mg_none_of X G z3, PySem.W.mg_none_of X G z4, PySem.W.mg_none_of X G z5, PySem.W.mg_none_of X G z6, PySem.W.mg_none_of X G z7, PySem.W.mg_none_of X G z8, PySem.W.mg_none_of X G z9, PySem.W.mg_none_of X G z10⟩
  have mM := PySem.W.mg_of X G zM
  refine ⟨PySem.W.fnOf "law" "law" (defArgs sLaw) (defBody sLaw) (defScope sLaw) .none kV15 dc15 pm15 an15 cd15 ct15, fun s v => .of_eq rfl, fun base _ _ => ?_⟩
  have GW := ok_whole (P := l.prog) (w := w) (base := base) (k := 0) F0 B
  have GL := ok_lwhole (P := l.prog) (w := w) (base := base) (k := 0) F11 B
  have GG := ok_greatest (P := l.prog) (w := w) (base := base) F1 B b1 m1 4
  have GF := ok_fits F3 GG b1 F1.kp m1
  have GT := ok_tooGreat (P := l.prog) (w := w) (mg := mg) (base := base) F2
  have GB := ok_baseTo F4 GT b2 F2.kp m2
  have GO := ok_worth F5 b5 m5 GB b4 F4.kp m4 GT b2 F2.kp m2 3
  have GR := ok_written E0 B bb0 n0 GW b0 F0.kp m0
  have GS := ok_oneLess (P := l.prog) (w := w) (mg := mg) (base := base) F6
  have GD := ok_down F7 B mM GF b3 F3.kp m3 GS b6 F6.kp m6 GO b5 F5.kp m5 (GR 3) bb0 E0.kp n0
  have GP := ok_row E1 B (GR 4) bb0 E0.kp n0 GD b7 F7.kp m7
  have G1 := ok_cellAt (P := l.prog) (w := w) (base := base) F8 B
  have G2 := ok_mix (P := l.prog) (w := w) (mg := mg) (base := base) F9
  have G3 := ok_great (P := l.prog) (w := w) (mg := mg) (base := base) F10
  have G4 := ok_bound (P := l.prog) (w := w) (base := base) F14 B
  have G5 := ok_grown (P := l.prog) (w := w) (base := base) F13 b13 m13 4
  have G8 := ok_read F12 B b12 m12 GL b11 F11.kp m11 4
  exact ok_law F15 B G1 b8 F8.kp m8 G2 b9 F9.kp m9 G3 b10 F10.kp m10 G4 b14 F14.kp m14 G5 b13 F13.kp m13 GP bb1 E1.kp n1 GL b11 F11.kp m11 G8 b12 F12.kp m12
end HH
open PySem PySem.W PyProof.Rows in
set_option maxRecDepth 100000 in
set_option maxHeartbeats 0 in
theorem PySem.Challenge.cw_hydrahouse_k56_rows_by_whole_numbers_holds : PySem.Challenge.rw_hydrahouse_k56_rows_by_whole_numbers.Holds := by
  w_on; o_law; k_head; (case hw => w_witness2)
  k_fill
  refine L2.walk_ofB (l := PySem.Challenge.rw_hydrahouse_k56_rows_by_whole_numbers) (n := 63) (k := 8) (x := "_law_script") (CX := fun _ => L2.CX0) (sp := fun w => HH.spLaw _) rfl (by decide) rfl ⟨rfl, by decide, by decide⟩ (fun w h Y => PySem.W.kIn_of Y) ?F (fun _ _ a ns hl hb _ hS => ⟨a, ns, rfl, hS, hl, hb, fun _ => rfl⟩) (fun _ _ _ _ _ h => h)
  case F =>
    intro w mg fa h KX G hmg
    refine' HH.all_mk KX G hmg ?a0 ?l0 ?c0 ?k0 ?a1 ?l1 ?c1 ?k1 ?a2 ?l2 ?c2 ?k2 ?a3 ?l3 ?c3 ?k3 ?a4 ?l4 ?c4 ?k4 ?a5 ?l5 ?c5 ?k5 ?a6 ?l6 ?c6 ?k6 ?a7 ?l7 ?c7 ?k7 ?a8 ?l8 ?c8 ?k8 ?a9 ?l9 ?c9 ?k9 ?a10 ?l10 ?c10 ?k10 ?a11 ?l11 ?c11 ?k11 ?a12 ?l12 ?c12 ?k12 ?a13 ?l13 ?c13 ?k13 ?a14 ?l14 ?c14 ?k14 ?a15 ?l15 ?c15 ?k15 ?ea0 ?el0 ?ec0 ?ek0 ?et0 ?ev0 ?ea1 ?el1 ?ec1 ?ek1 ?et1 ?ev1 ?zM ?z0 ?z1 ?z2 ?z3 ?z4 ?z5 ?z6 ?z7 ?z8 ?z9 ?z10
    (case a0 => k_is)
    (case l0 => k_is)
    (case c0 => k_is)
    (case k0 => k_is)
    (case a1 => k_is)
    (case l1 => k_is)
    (case c1 => k_is)
    (case k1 => k_is)
    (case a2 => k_is)
    (case l2 => k_is)
    (case c2 => k_is)
    (case k2 => k_is)
    (case a3 => k_is)
    (case l3 => k_is)
    (case c3 => k_is)
    (case k3 => k_is)
    (case a4 => k_is)
    (case l4 => k_is)
    (case c4 => k_is)
    (case k4 => k_is)
    (case a5 => k_is)
    (case l5 => k_is)
    (case c5 => k_is)
    (case k5 => k_is)
    (case a6 => k_is)
    (case l6 => k_is)
    (case c6 => k_is)
    (case k6 => k_is)
    (case a7 => k_is)
    (case l7 => k_is)
    (case c7 => k_is)
    (case k7 => k_is)
    (case a8 => k_is)
    (case l8 => k_is)
    (case c8 => k_is)
    (case k8 => k_is)
    (case a9 => k_is)
    (case l9 => k_is)
    (case c9 => k_is)
    (case k9 => k_is)
    (case a10 => k_is)
    (case l10 => k_is)
    (case c10 => k_is)
    (case k10 => k_is)
    (case a11 => k_is)
    (case l11 => k_is)
    (case c11 => k_is)
    (case k11 => k_is)
    (case a12 => k_is)
    (case l12 => k_is)
    (case c12 => k_is)
    (case k12 => k_is)
    (case a13 => k_is)
    (case l13 => k_is)
    (case c13 => k_is)
    (case k13 => k_is)
    (case a14 => k_is)
    (case l14 => k_is)
    (case c14 => k_is)
    (case k14 => k_is)
    (case a15 => k_is)
    (case l15 => k_is)
    (case c15 => k_is)
    (case k15 => k_is)
    (case ea0 => k_is)
    (case el0 => k_is)
    (case ec0 => k_is)
    (case ek0 => k_is)
    (case et0 => k_is)
    (case ea1 => k_is)
    (case el1 => k_is)
    (case ec1 => k_is)
    (case ek1 => k_is)
    (case et1 => k_is)
    (case zM => k_is)
    (case z0 => k_is)
    (case z1 => k_is)
    (case z2 => k_is)
    (case z3 => k_is)
    (case z4 => k_is)
    (case z5 => k_is)
    (case z6 => k_is)
    (case z7 => k_is)
    (case z8 => k_is)
    (case z9 => k_is)
    (case z10 => k_is)
    (case ev0 => rfl)
    (case ev1 => rfl)
#print axioms PySem.Challenge.cw_hydrahouse_k56_rows_by_whole_numbers_holds
