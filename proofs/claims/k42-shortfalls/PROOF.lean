import PyProof.Rows.All
import Wide.All
import OpenK.AllK
import Wide.FinOn
import HandS.ForMost
import HandS.Gcd
import HandS.Wide
import HandS.Style
import HandS.TupAny
import HandS.More
import HandS.IsInst
import HandS.AnyAll
import HandS.EndTab
import PySem.Challenge.RW_actuarium_k42_whole_shortfalls
set_option Elab.async false
namespace Sh
/-! The plain law: the greedy worst view's sum is the least of edge + (what is above it) * T. No program in sight. -/
/-- what is taken of the rest -/
def part (T r p : Rat) : Rat := if r < T * p then r else T * p
/-- the sum of index * part, the top index first -/
def S (T : Rat) : List Rat → Rat → Rat
  | [], _ => 0
  | p :: l, r => (l.length : Rat) * part T r p + S T l (r - part T r p)
/-- the mass -/
def M : List Rat → Rat
  | [] => 0
  | p :: l => p + M l
/-- what lies above the edge e, the top index first -/
def A (e : Nat) : List Rat → Rat
  | [] => 0
  | p :: l => (if e < l.length then ((l.length : Rat) - (e : Rat)) * p else 0) + A e l
def Nn (l : List Rat) : Prop := ∀ p ∈ l, 0 ≤ p
theorem Nn.head {p : Rat} {l : List Rat} (h : Nn (p :: l)) : 0 ≤ p := h p List.mem_cons_self
theorem Nn.tail {p : Rat} {l : List Rat} (h : Nn (p :: l)) : Nn l := fun q hq => h q (List.mem_cons_of_mem _ hq)
theorem M_nn : ∀ {l : List Rat}, Nn l → 0 ≤ M l
  | [], _ => Rat.le_refl
  | p :: l, h => Rat.add_nonneg h.head (M_nn h.tail)
theorem part_zero {T p : Rat} (hT : 0 ≤ T) (hp : 0 ≤ p) : part T 0 p = 0 := by
  have h := Rat.mul_nonneg hT hp
  unfold part
  split
  · rfl
  · grind
theorem S_zero {T : Rat} (hT : 0 ≤ T) : ∀ {l : List Rat}, Nn l → S T l 0 = 0
  | [], _ => rfl
  | p :: l, h => by
    unfold S
    rw [part_zero hT h.head]
    have e : (0 : Rat) - 0 = 0 := by grind
    rw [e, S_zero hT h.tail]
    grind
theorem A_above : ∀ {l : List Rat} {e : Nat}, l.length ≤ e + 1 → A e l = 0
  | [], _, _ => rfl
  | p :: l, e, h => by
    rw [List.length_cons] at h
    unfold A
    rw [if_neg (by omega), A_above (by omega)]
    grind
theorem S_le {T : Rat} (hT : 0 ≤ T) (e : Nat) : ∀ {l : List Rat} {r : Rat}, Nn l → 0 ≤ r → r ≤ T * M l → S T l r ≤ (e : Rat) * r + T * A e l
  | [], r, _, h0, hr => by
    unfold S A
    unfold M at hr
    have : r = 0 := by grind
    subst this
    grind
  | p :: l, r, h, h0, hr => by
    have hp := h.head
    have hTp := Rat.mul_nonneg hT hp
    unfold M at hr
    have a1 : part T r p ≤ T * p := by unfold part; split <;> grind
    have a2 : 0 ≤ part T r p := by unfold part; split <;> grind
    have a3 : 0 ≤ r - part T r p := by unfold part; split <;> grind
    have a4 : r - part T r p ≤ T * M l := by
      have hM := Rat.mul_nonneg hT (M_nn h.tail)
      unfold part; split <;> grind
    have ih := S_le hT e (l := l) (r := r - part T r p) h.tail a3 a4
    unfold S A
    by_cases he : e < l.length
    · rw [if_pos he]
      have hn : (0 : Rat) ≤ (l.length : Rat) - (e : Rat) := by
        have : (e : Rat) ≤ (l.length : Rat) := Rat.natCast_le_natCast.mpr (by omega)
        grind
      have k := Rat.mul_le_mul_of_nonneg_left a1 hn
      grind
    · rw [if_neg he]
      have hn : (0 : Rat) ≤ (e : Rat) - (l.length : Rat) := by
        have : (l.length : Rat) ≤ (e : Rat) := Rat.natCast_le_natCast.mpr (by omega)
        grind
      have k := Rat.mul_nonneg hn a2
      grind
theorem S_eq {T : Rat} (hT : 0 ≤ T) : ∀ {l : List Rat} {r : Rat}, Nn l → l ≠ [] → 0 ≤ r → r ≤ T * M l → ∃ e : Nat, e < l.length ∧ S T l r = (e : Rat) * r + T * A e l
  | [], _, _, h, _, _ => absurd rfl h
  | p :: l, r, h, _, h0, hr => by
    have hp := h.head
    have hTp := Rat.mul_nonneg hT hp
    unfold M at hr
    by_cases hc : r ≤ T * p
    · have e1 : part T r p = r := by unfold part; split <;> grind
      refine ⟨l.length, by simp, ?_⟩
      unfold S
      rw [e1, show r - r = 0 by grind, S_zero hT h.tail, A_above (by simp)]
      grind
    · have e1 : part T r p = T * p := by unfold part; split <;> grind
      have hl : l ≠ [] := by
        intro q
        subst q
        unfold M at hr
        grind
      obtain ⟨e, he, q⟩ := S_eq hT (l := l) (r := r - T * p) h.tail hl (by grind) (by grind)
      refine ⟨e, by simp; omega, ?_⟩
      unfold S A
      rw [e1, q, if_pos he]
      grind
/-! ### the view -/
def vent (T r p : Rat) : Rat := if 0 < p then part T r p / p else 0
def gstep (T : Rat) (s : Rat × List Rat) (p : Rat) : Rat × List Rat := (s.1 - part T s.1 p, vent T s.1 p :: s.2)
def Vw (T : Rat) : List Rat → Rat → List Rat → List Rat
  | [], _, acc => acc
  | p :: l, r, acc => Vw T l (r - part T r p) (vent T r p :: acc)
theorem fold_Vw (T : Rat) : ∀ (l : List Rat) (r : Rat) (acc : List Rat), (l.foldl (gstep T) (r, acc)).2 = Vw T l r acc
  | [], _, _ => rfl
  | p :: l, r, acc => by
    show (l.foldl (gstep T) (gstep T (r, acc) p)).2 = _
    exact fold_Vw T l _ _
def sk : Nat → List Rat → List Rat → Rat
  | j, p :: ps, v :: vs => (j : Rat) * (p * v) + sk (j + 1) ps vs
  | _, _, _ => 0
theorem mul_vent {T r p : Rat} (hT : 0 ≤ T) (h0 : 0 ≤ r) (hp : 0 ≤ p) : p * vent T r p = part T r p := by
  unfold vent
  by_cases h : 0 < p
  · rw [if_pos h, Rat.mul_comm, Rat.div_mul_cancel (by grind)]
  · rw [if_neg h]
    have : p = 0 := by grind
    subst this
    unfold part
    split <;> grind
theorem part_le {T r p : Rat} : part T r p ≤ r := by unfold part; split <;> grind
theorem sk_Vw {T : Rat} (hT : 0 ≤ T) : ∀ (l : List Rat) (r : Rat) (rest acc : List Rat), Nn l → 0 ≤ r → sk 0 (l.reverse ++ rest) (Vw T l r acc) = S T l r + sk l.length rest acc
  | [], r, rest, acc, _, _ => by
    show sk 0 rest acc = 0 + sk 0 rest acc
    grind
  | p :: l, r, rest, acc, h, h0 => by
    have e : (p :: l).reverse ++ rest = l.reverse ++ (p :: rest) := by simp
    rw [e]
    have hle : part T r p ≤ r := part_le
    have ih := sk_Vw hT l (r - part T r p) (p :: rest) (vent T r p :: acc) h.tail (by grind)
    show sk 0 (l.reverse ++ p :: rest) (Vw T l (r - part T r p) (vent T r p :: acc)) = _
    rw [ih]
    show S T l (r - part T r p) + ((l.length : Rat) * (p * vent T r p) + sk (l.length + 1) rest acc) = (l.length : Rat) * part T r p + S T l (r - part T r p) + sk (l.length + 1) rest acc
    rw [mul_vent hT h0 h.head]
    grind
end Sh
set_option Elab.async false
set_option linter.unusedVariables false
namespace Sh
/-! ### sums over a range -/
def sumR (f : Nat → Rat) : Nat → Rat
  | 0 => 0
  | n + 1 => sumR f n + f n
def tot (qs : List Rat) : Rat := qs.foldl (· + ·) 0
theorem tot_snoc (qs : List Rat) (q : Rat) : tot (qs ++ [q]) = tot qs + q := by
  unfold tot
  rw [List.foldl_append]
  rfl
theorem tot_range (f : Nat → Rat) : ∀ n, tot ((List.range n).map f) = sumR f n
  | 0 => rfl
  | n + 1 => by
    rw [List.range_succ, List.map_append]
    show tot ((List.range n).map f ++ [f n]) = sumR f n + f n
    rw [tot_snoc, tot_range f n]
theorem sumR_congr {f g : Nat → Rat} : ∀ {n : Nat}, (∀ i, i < n → f i = g i) → sumR f n = sumR g n
  | 0, _ => rfl
  | n + 1, h => by
    show sumR f n + f n = sumR g n + g n
    rw [sumR_congr fun i hi => h i (by omega), h n (by omega)]
theorem sumR_shift (f : Nat → Rat) : ∀ n, sumR f (n + 1) = f 0 + sumR (fun i => f (i + 1)) n
  | 0 => by
    show (0 : Rat) + f 0 = f 0 + 0
    grind
  | n + 1 => by
    show sumR f (n + 1) + f (n + 1) = f 0 + (sumR (fun i => f (i + 1)) n + f (n + 1))
    rw [sumR_shift f n]
    grind
theorem sk_sumR : ∀ (j : Nat) (ps vs : List Rat), ps.length = vs.length → sk j ps vs = sumR (fun k => ((j + k : Nat) : Rat) * (ps.getD k 0 * vs.getD k 0)) ps.length
  | j, [], [], _ => rfl
  | j, [], _ :: _, h => by simp at h
  | j, _ :: _, [], h => by simp at h
  | j, p :: ps, v :: vs, h => by
    have h2 : ps.length = vs.length := by simpa using h
    rw [List.length_cons, sumR_shift]
    show (j : Rat) * (p * v) + sk (j + 1) ps vs = ((j + 0 : Nat) : Rat) * (p * v) + sumR (fun i => ((j + (i + 1) : Nat) : Rat) * (ps.getD i 0 * vs.getD i 0)) ps.length
    rw [sk_sumR (j + 1) ps vs h2, Nat.add_zero]
    congr 1
    apply sumR_congr
    intro i _
    rw [show j + 1 + i = j + (i + 1) by omega]
theorem Vw_length (T : Rat) : ∀ (l : List Rat) (r : Rat) (acc : List Rat), (Vw T l r acc).length = l.length + acc.length
  | [], _, acc => by
    show acc.length = 0 + acc.length
    omega
  | p :: l, r, acc => by
    show (Vw T l _ (_ :: acc)).length = l.length + 1 + acc.length
    rw [Vw_length T l]
    simp
    omega
theorem A_sumR (e : Nat) : ∀ l : List Rat, A e l = sumR (fun i => ((i + 1 : Nat) : Rat) * l.reverse.getD (e + 1 + i) 0) (l.length - (e + 1))
  | [] => by
    rw [List.length_nil, Nat.zero_sub]
    rfl
  | p :: l => by
    unfold A
    rw [A_sumR e l]
    by_cases he : e < l.length
    · rw [if_pos he, List.length_cons, show l.length + 1 - (e + 1) = (l.length - (e + 1)) + 1 by omega]
      show _ = sumR _ (l.length - (e + 1)) + ((l.length - (e + 1) + 1 : Nat) : Rat) * (p :: l).reverse.getD (e + 1 + (l.length - (e + 1))) 0
      have e1 : (p :: l).reverse.getD (e + 1 + (l.length - (e + 1))) 0 = p := by
        rw [show e + 1 + (l.length - (e + 1)) = l.length by omega]
        simp [List.getD_eq_getElem?_getD]
      have e2 : sumR (fun i => ((i + 1 : Nat) : Rat) * (p :: l).reverse.getD (e + 1 + i) 0) (l.length - (e + 1)) = sumR (fun i => ((i + 1 : Nat) : Rat) * l.reverse.getD (e + 1 + i) 0) (l.length - (e + 1)) := by
        apply sumR_congr
        intro i hi
        congr 1
        rw [List.getD_eq_getElem?_getD, List.getD_eq_getElem?_getD, List.reverse_cons, List.getElem?_append_left (by simp; omega)]
      have e3 : ((l.length - (e + 1) + 1 : Nat) : Rat) = (l.length : Rat) - (e : Rat) := by
        have : (l.length : Rat) = ((l.length - (e + 1) + 1 : Nat) : Rat) + (e : Rat) := by
          rw [← Rat.natCast_add]
          congr 1
          omega
        grind
      rw [e1, e2, e3]
      grind
    · rw [if_neg he, List.length_cons, show l.length - (e + 1) = 0 by omega, show l.length + 1 - (e + 1) = 0 by omega]
      show (0 : Rat) + 0 = 0
      grind
theorem M_append : ∀ (a b : List Rat), M (a ++ b) = M a + M b
  | [], b => by
    show M b = 0 + M b
    grind
  | p :: a, b => by
    show p + M (a ++ b) = p + M a + M b
    rw [M_append a b]
    grind
theorem M_reverse : ∀ l : List Rat, M l.reverse = M l
  | [] => rfl
  | p :: l => by
    rw [List.reverse_cons, M_append, M_reverse l]
    show M l + (p + 0) = p + M l
    grind
/-! ### chances -/
def chR (s : Int) (k : Int) : Rat := Rat.divInt k s
theorem chR_div {s k : Int} : chR s k = (k : Rat) / (s : Rat) := Rat.divInt_eq_div k s
theorem M_ch {s : Int} : ∀ ks : List Int, M (ks.map (chR s)) = ((ks.sum : Int) : Rat) / (s : Rat)
  | [] => by
    show (0 : Rat) = ((0 : Int) : Rat) / (s : Rat)
    rw [Rat.div_def]
    have : ((0 : Int) : Rat) = 0 := rfl
    rw [this]
    grind
  | k :: ks => by
    show chR s k + M (ks.map (chR s)) = _
    rw [M_ch ks, chR_div, List.sum_cons, Rat.intCast_add, Rat.div_def, Rat.div_def, Rat.div_def]
    grind
theorem M_ch1 {ks : List Int} (h : 0 < ks.sum) : M (ks.map (chR ks.sum)) = 1 := by
  rw [M_ch, Rat.div_def]
  apply Rat.mul_inv_cancel
  intro z
  have := Rat.intCast_eq_zero_iff.mp z
  omega
theorem ch_nn {s k : Int} (hs : 0 < s) (hk : 0 ≤ k) : 0 ≤ chR s k := Rat.divInt_nonneg hk (by omega)
theorem Nn_ch {s : Int} (hs : 0 < s) {ks : List Int} (h : ∀ k ∈ ks, 0 ≤ k) : Nn (ks.map (chR s)) := fun p hp => by
  obtain ⟨k, hk, rfl⟩ := List.mem_map.mp hp
  exact ch_nn hs (h k hk)
/-! ### both sides -/
def viewR (T : Rat) (ps : List Rat) : List Rat := (ps.reverse.foldl (gstep T) (1, [])).2
theorem viewR_length (T : Rat) (ps : List Rat) : (viewR T ps).length = ps.length := by
  unfold viewR
  rw [fold_Vw, Vw_length]
  simp
def termR (ps vs : List Rat) (k : Nat) : Rat := (k : Rat) * (ps.getD k 0 * vs.getD k 0)
/-- what the program hands back -/
def esR (T : Rat) (ps : List Rat) : Rat := tot ((List.range ps.length).map (termR ps (viewR T ps)))
def abR (e : Nat) (ps : List Rat) (i : Nat) : Rat := ((i + 1 : Nat) : Rat) * ps.getD (e + 1 + i) 0
def aboveR (e : Nat) (ps : List Rat) : Rat := tot ((List.range (ps.length - (e + 1))).map (abR e ps))
def edgeR (T : Rat) (ps : List Rat) (e : Nat) : Rat := (e : Rat) + aboveR e ps * T
/-- what the law asks: the least behind i + 1 edges -/
def dueR (T : Rat) (ps : List Rat) : Nat → Rat
  | 0 => edgeR T ps 0
  | i + 1 => if edgeR T ps (i + 1) < dueR T ps i then edgeR T ps (i + 1) else dueR T ps i
theorem due_le {T : Rat} {ps : List Rat} : ∀ {i e : Nat}, e ≤ i → dueR T ps i ≤ edgeR T ps e
  | 0, e, h => by
    have : e = 0 := by omega
    subst this
    exact Rat.le_refl
  | i + 1, e, h => by
    unfold dueR
    by_cases he : e = i + 1
    · subst he
      split <;> grind
    · have ih := due_le (T := T) (ps := ps) (i := i) (e := e) (by omega)
      split <;> grind
theorem due_at {T : Rat} {ps : List Rat} : ∀ i : Nat, ∃ e, e ≤ i ∧ dueR T ps i = edgeR T ps e
  | 0 => ⟨0, Nat.le_refl _, rfl⟩
  | i + 1 => by
    unfold dueR
    split
    · exact ⟨i + 1, Nat.le_refl _, rfl⟩
    · obtain ⟨e, h, q⟩ := due_at (T := T) (ps := ps) i
      exact ⟨e, by omega, q⟩
theorem aboveR_A (e : Nat) (ps : List Rat) : aboveR e ps = A e ps.reverse := by
  unfold aboveR
  rw [tot_range, A_sumR, List.reverse_reverse, List.length_reverse]
  rfl
theorem esR_S {T : Rat} {ps : List Rat} (hT : 0 ≤ T) (h : Nn ps) : esR T ps = S T ps.reverse 1 := by
  unfold esR
  rw [tot_range]
  have hr : Nn ps.reverse := fun p hp => h p (List.mem_reverse.mp hp)
  have k := sk_Vw hT ps.reverse 1 [] [] hr (by decide)
  rw [List.reverse_reverse, List.append_nil] at k
  have k2 := sk_sumR 0 ps (Vw T ps.reverse 1 []) (by rw [Vw_length]; simp)
  have k3 : viewR T ps = Vw T ps.reverse 1 [] := fold_Vw T _ _ _
  have k4 : sk ps.reverse.length [] [] = 0 := by
    cases ps.reverse.length <;> rfl
  rw [k4] at k
  have k5 : sumR (termR ps (viewR T ps)) ps.length = sumR (fun k => ((0 + k : Nat) : Rat) * (ps.getD k 0 * (Vw T ps.reverse 1 []).getD k 0)) ps.length := by
    apply sumR_congr
    intro i _
    unfold termR
    rw [k3, Nat.zero_add]
  rw [k5, ← k2, k]
  grind
/-- THE PLAIN LAW -/
theorem es_due {T : Rat} {ps : List Rat} (hT : 1 ≤ T) (h : Nn ps) (hM : M ps = 1) (hne : ps ≠ []) : esR T ps = dueR T ps (ps.length - 1) := by
  have hT0 : 0 ≤ T := Rat.le_trans (by decide) hT
  have hr : Nn ps.reverse := fun p hp => h p (List.mem_reverse.mp hp)
  have hmass : (1 : Rat) ≤ T * M ps.reverse := by
    rw [M_reverse, hM]
    grind
  have hl : 0 < ps.length := List.length_pos_iff.mpr hne
  rw [esR_S hT0 h]
  have low : ∀ e, S T ps.reverse 1 ≤ edgeR T ps e := fun e => by
    have k := S_le hT0 e hr (by decide) hmass
    unfold edgeR
    rw [aboveR_A]
    grind
  obtain ⟨e, he, q⟩ := S_eq hT0 hr (by simpa using hne) (by decide) hmass
  have q2 : S T ps.reverse 1 = edgeR T ps e := by
    unfold edgeR
    rw [aboveR_A, q]
    grind
  rw [List.length_reverse] at he
  obtain ⟨e', h', q'⟩ := due_at (T := T) (ps := ps) (ps.length - 1)
  apply Rat.le_antisymm
  · rw [q']
    exact low e'
  · rw [q2]
    exact due_le (by omega)
end Sh
set_option Elab.async false
set_option linter.unusedVariables false
namespace Sh
/-! ### ratios in lowest terms -/
theorem num_of {t b : Int} (hb : 0 < b) : (Rat.divInt t b).num = t / ((Nat.gcd t.natAbs b.natAbs : Nat) : Int) := by
  rw [Rat.num_divInt, Int.sign_eq_one_of_pos hb, Int.one_mul, Int.gcd_comm]
  rfl
theorem den_of {t b : Int} (hb : 0 < b) : ((Rat.divInt t b).den : Int) = b / ((Nat.gcd t.natAbs b.natAbs : Nat) : Int) := by
  rw [Rat.den_divInt, if_neg (by omega)]
  have e : Int.gcd b t = Nat.gcd t.natAbs b.natAbs := by rw [Int.gcd_comm]; rfl
  rw [e, Int.natCast_ediv]
  congr 1
  omega
/-- a size in bits -/
def Sz (n : Nat) (q : Rat) : Prop := q.num.natAbs < 2 ^ n ∧ q.den < 2 ^ n
theorem Sz.mono {m n : Nat} {q : Rat} (h : Sz m q) (k : m ≤ n) : Sz n q :=
  ⟨Nat.lt_of_lt_of_le h.1 (Nat.pow_le_pow_right (by decide) k), Nat.lt_of_lt_of_le h.2 (Nat.pow_le_pow_right (by decide) k)⟩
theorem sz_divInt {n : Nat} {t b : Int} (hb : 0 < b) (h1 : t.natAbs < 2 ^ n) (h2 : b.natAbs < 2 ^ n) : Sz n (Rat.divInt t b) := by
  have g : 0 < Nat.gcd t.natAbs b.natAbs := Nat.gcd_pos_of_pos_right _ (by omega)
  constructor
  · rw [num_of hb]
    refine Nat.lt_of_le_of_lt ?_ h1
    rw [Int.natAbs_ediv_of_dvd (Int.ofNat_dvd_left.mpr (Nat.gcd_dvd_left _ _)), Int.natAbs_natCast]
    exact Nat.div_le_self _ _
  · have e := den_of (t := t) hb
    have e2 : (Rat.divInt t b).den = b.natAbs / Nat.gcd t.natAbs b.natAbs := by
      have e3 : ((Rat.divInt t b).den : Int) = ((b.natAbs / Nat.gcd t.natAbs b.natAbs : Nat) : Int) := by
        rw [e, Int.natCast_ediv]
        congr 1
        omega
      exact Int.ofNat.inj e3
    rw [e2]
    exact Nat.lt_of_le_of_lt (Nat.div_le_self _ _) h2
theorem pow_add_lt {a b m n : Nat} (ha : a < 2 ^ m) (hb : b < 2 ^ n) : a * b < 2 ^ (m + n) := by
  rw [Nat.pow_add]
  exact Nat.mul_lt_mul'' ha hb
theorem natAbs_mul_lt {i j : Int} {m n : Nat} (ha : i.natAbs < 2 ^ m) (hb : j.natAbs < 2 ^ n) : (i * j).natAbs < 2 ^ (m + n) := by
  rw [Int.natAbs_mul]
  exact pow_add_lt ha hb
theorem two_lt {i j : Int} {n : Nat} (ha : i.natAbs < 2 ^ n) (hb : j.natAbs < 2 ^ n) : (i + j).natAbs < 2 ^ (n + 1) := by
  rw [Nat.pow_succ]
  omega
theorem two_lt' {i j : Int} {n : Nat} (ha : i.natAbs < 2 ^ n) (hb : j.natAbs < 2 ^ n) : (i - j).natAbs < 2 ^ (n + 1) := by
  rw [Nat.pow_succ]
  omega
theorem den_abs (q : Rat) : ((q.den : Int)).natAbs = q.den := by omega
theorem den_posI (q : Rat) : (0 : Int) < (q.den : Int) := by have := q.den_pos; omega
theorem den_mul_pos (a b : Rat) : (0 : Int) < (a.den : Int) * (b.den : Int) := Int.mul_pos (den_posI a) (den_posI b)
/-! what the program's ratio of two products is -/
theorem add_div (a b : Rat) : Rat.divInt (a.num * b.den + b.num * a.den) (a.den * b.den) = a + b := by
  have h1 := a.den_nz
  have h2 := b.den_nz
  conv => rhs; rw [← Rat.num_divInt_den a, ← Rat.num_divInt_den b]
  rw [Rat.divInt_add_divInt _ _ (by omega) (by omega)]
theorem sub_div (a b : Rat) : Rat.divInt (a.num * b.den - b.num * a.den) (a.den * b.den) = a - b := by
  have h1 := a.den_nz
  have h2 := b.den_nz
  conv => rhs; rw [← Rat.num_divInt_den a, ← Rat.num_divInt_den b]
  rw [Rat.divInt_sub_divInt _ _ (by omega) (by omega)]
theorem mul_div (a b : Rat) : Rat.divInt (a.num * b.num) (a.den * b.den) = a * b := by
  conv => rhs; rw [← Rat.num_divInt_den a, ← Rat.num_divInt_den b]
  rw [Rat.divInt_mul_divInt]
theorem div_div (a b : Rat) : Rat.divInt (a.num * b.den) (a.den * b.num) = a / b := by
  rw [Rat.div_def, Rat.inv_def]
  conv => rhs; rw [← Rat.num_divInt_den a]
  rw [Rat.divInt_mul_divInt]
theorem num_pos {a : Rat} : 0 < a.num ↔ 0 < a := by
  rw [Rat.lt_iff]
  show _ ↔ (0 : Int) * _ < a.num * (1 : Int)
  rw [Int.zero_mul, Int.mul_one]
theorem sz_add {a b : Rat} {m n : Nat} (ha : Sz m a) (hb : Sz n b) : Sz (m + n + 1) (a + b) := by
  rw [← add_div]
  refine sz_divInt (den_mul_pos a b) (two_lt (natAbs_mul_lt ha.1 (by rw [den_abs]; exact hb.2)) ?_) ?_
  · rw [Nat.add_comm m n]
    exact natAbs_mul_lt hb.1 (by rw [den_abs]; exact ha.2)
  · refine Nat.lt_of_lt_of_le (natAbs_mul_lt (by rw [den_abs]; exact ha.2) (by rw [den_abs]; exact hb.2)) (Nat.pow_le_pow_right (by decide) (by omega))
theorem sz_sub {a b : Rat} {m n : Nat} (ha : Sz m a) (hb : Sz n b) : Sz (m + n + 1) (a - b) := by
  rw [← sub_div]
  refine sz_divInt (den_mul_pos a b) (two_lt' (natAbs_mul_lt ha.1 (by rw [den_abs]; exact hb.2)) ?_) ?_
  · rw [Nat.add_comm m n]
    exact natAbs_mul_lt hb.1 (by rw [den_abs]; exact ha.2)
  · refine Nat.lt_of_lt_of_le (natAbs_mul_lt (by rw [den_abs]; exact ha.2) (by rw [den_abs]; exact hb.2)) (Nat.pow_le_pow_right (by decide) (by omega))
theorem sz_mul {a b : Rat} {m n : Nat} (ha : Sz m a) (hb : Sz n b) : Sz (m + n) (a * b) := by
  rw [← mul_div]
  exact sz_divInt (den_mul_pos a b) (natAbs_mul_lt ha.1 hb.1) (natAbs_mul_lt (by rw [den_abs]; exact ha.2) (by rw [den_abs]; exact hb.2))
theorem sz_div {a b : Rat} {m n : Nat} (ha : Sz m a) (hb : Sz n b) (h : 0 < b) : Sz (m + n) (a / b) := by
  rw [← div_div]
  exact sz_divInt (Int.mul_pos (den_posI a) (num_pos.mpr h)) (natAbs_mul_lt ha.1 (by rw [den_abs]; exact hb.2)) (natAbs_mul_lt (by rw [den_abs]; exact ha.2) hb.1)
theorem sz_nat {k n : Nat} (h : k < 2 ^ n) (h0 : 0 < n) : Sz n (k : Rat) :=
  ⟨by rw [Rat.num_natCast, Int.natAbs_natCast]; exact h, by rw [Rat.den_natCast]; exact Nat.one_lt_two_pow (by omega)⟩
theorem sz_zero {n : Nat} (h0 : 0 < n) : Sz n 0 := sz_nat (k := 0) (Nat.two_pow_pos n) h0
theorem sz_one {n : Nat} (h0 : 0 < n) : Sz n 1 := sz_nat (k := 1) (Nat.one_lt_two_pow (by omega)) h0
theorem sz_tot {m : Nat} (hm : 0 < m) : ∀ {qs : List Rat}, (∀ q ∈ qs, Sz m q) → ∀ i, Sz ((m + 1) * i + 1) (tot (qs.take i))
  | qs, h, 0 => by
    rw [List.take_zero]
    exact sz_zero (by omega)
  | qs, h, i + 1 => by
    have ih := sz_tot hm h i
    rw [List.take_add_one]
    cases e : qs[i]? with
    | none =>
      show Sz _ (tot (qs.take i ++ []))
      rw [List.append_nil]
      exact ih.mono (by rw [Nat.mul_add]; omega)
    | some q =>
      show Sz _ (tot (qs.take i ++ [q]))
      rw [tot_snoc]
      have hq := h q (List.mem_of_getElem? e)
      exact (sz_add ih hq).mono (by rw [Nat.mul_add]; omega)
theorem sz_part {T r p : Rat} {n : Nat} (hT : Sz 15 T) (hp : Sz 15 p) (hr : Sz n r) (hn : 31 ≤ n) : Sz n (part T r p) := by
  unfold part
  split
  · exact hr
  · exact (sz_mul hT hp).mono (by omega)
theorem sz_rest {T r p : Rat} {n : Nat} (hT : Sz 15 T) (hp : Sz 15 p) (hr : Sz n r) : Sz (n + 31) (r - part T r p) := by
  unfold part
  split
  · rw [show r - r = 0 by grind]
    exact sz_zero (by omega)
  · exact (sz_sub hr (sz_mul hT hp)).mono (by omega)
theorem sz_vent {T r p : Rat} {n : Nat} (hT : Sz 15 T) (hp : Sz 15 p) (hr : Sz n r) (hn : 31 ≤ n) : Sz (n + 15) (vent T r p) := by
  unfold vent
  split
  · exact sz_div (sz_part hT hp hr hn) hp (by assumption)
  · exact sz_zero (by omega)
/-- the greedy state behind i turns -/
def gst (T : Rat) (ps : List Rat) (i : Nat) : Rat × List Rat := (ps.reverse.take i).foldl (gstep T) (1, [])
theorem gst_succ {T : Rat} {ps : List Rat} {i : Nat} {p : Rat} (h : ps.reverse[i]? = some p) : gst T ps (i + 1) = gstep T (gst T ps i) p := by
  unfold gst
  rw [List.take_add_one, h]
  show ((ps.reverse.take i) ++ [p]).foldl _ _ = _
  rw [List.foldl_append]
  rfl
theorem gst_end {T : Rat} {ps : List Rat} : (gst T ps ps.length).2 = viewR T ps := by
  unfold gst viewR; rw [List.take_of_length_le (by simp)]
theorem sz_gst {T : Rat} {ps : List Rat} (hT : Sz 15 T) (hp : ∀ p ∈ ps, Sz 15 p) : ∀ i, Sz (31 * (i + 1)) (gst T ps i).1 ∧ ∀ v ∈ (gst T ps i).2, Sz (31 * (i + 1) + 15) v
  | 0 => ⟨sz_one (by omega), fun v hv => absurd (show v ∈ ([] : List Rat) from hv) (by simp)⟩
  | i + 1 => by
    obtain ⟨h1, h2⟩ := sz_gst hT hp i
    cases e : ps.reverse[i]? with
    | none =>
      have e2 : gst T ps (i + 1) = gst T ps i := by
        unfold gst
        rw [List.take_add_one, e]
        show List.foldl _ _ (ps.reverse.take i ++ []) = _
        rw [List.append_nil]
      rw [e2]
      exact ⟨h1.mono (by omega), fun v hv => (h2 v hv).mono (by omega)⟩
    | some p =>
      have hpp := hp p (List.mem_reverse.mp (List.mem_of_getElem? e))
      rw [gst_succ e]
      refine ⟨(sz_rest hT hpp h1).mono (by omega), fun v hv => ?_⟩
      rcases List.mem_cons.mp hv with z | z
      · rw [z]
        exact (sz_vent hT hpp h1 (by omega)).mono (by omega)
      · exact (h2 v z).mono (by omega)
theorem sz_view {T : Rat} {ps : List Rat} (hT : Sz 15 T) (hp : ∀ p ∈ ps, Sz 15 p) (hl : ps.length ≤ 6) : ∀ v ∈ viewR T ps, Sz 240 v := fun v hv => by
  rw [← gst_end] at hv
  exact ((sz_gst hT hp ps.length).2 v hv).mono (by omega)
theorem getD_sz {n : Nat} {qs : List Rat} (h : ∀ q ∈ qs, Sz n q) (h0 : 0 < n) (k : Nat) : Sz n (qs.getD k 0) := by
  simp only [List.getD_eq_getElem?_getD]
  cases e : qs[k]? with
  | none => exact sz_zero h0
  | some q => exact h q (List.mem_of_getElem? e)
theorem sz_term {ps vs : List Rat} (hp : ∀ p ∈ ps, Sz 15 p) (hv : ∀ v ∈ vs, Sz 240 v) {k : Nat} (hk : k < 6) : Sz 260 (termR ps vs k) :=
  (sz_mul (sz_nat (n := 3) (by omega) (by decide)) (sz_mul (getD_sz hp (by decide) k) (getD_sz hv (by decide) k))).mono (by decide)
theorem sz_ab {ps : List Rat} (hp : ∀ p ∈ ps, Sz 15 p) {e i : Nat} (hi : i < 6) : Sz 18 (abR e ps i) :=
  (sz_mul (sz_nat (n := 3) (by omega) (by decide)) (getD_sz hp (by decide) _)).mono (by decide)
theorem sz_above {ps : List Rat} (hp : ∀ p ∈ ps, Sz 15 p) (hl : ps.length ≤ 6) (e : Nat) : Sz 120 (aboveR e ps) := by
  have h := sz_tot (m := 18) (by decide) (qs := (List.range (ps.length - (e + 1))).map (abR e ps)) (fun q hq => by
    obtain ⟨i, hi, rfl⟩ := List.mem_map.mp hq
    have := List.mem_range.mp hi
    exact sz_ab hp (by omega)) 6
  rw [List.take_of_length_le (by simp; omega)] at h
  exact h.mono (by omega)
theorem sz_edge {T : Rat} {ps : List Rat} (hT : Sz 15 T) (hp : ∀ p ∈ ps, Sz 15 p) (hl : ps.length ≤ 6) {e : Nat} (he : e < 6) : Sz 160 (edgeR T ps e) :=
  (sz_add (sz_nat (n := 3) (by omega) (by decide)) (sz_mul (sz_above hp hl e) hT)).mono (by decide)
theorem sz_due {T : Rat} {ps : List Rat} (hT : Sz 15 T) (hp : ∀ p ∈ ps, Sz 15 p) (hl : ps.length ≤ 6) : ∀ {i : Nat}, i < 6 → Sz 160 (dueR T ps i) := fun {i} hi => by
  obtain ⟨e, h, q⟩ := due_at (T := T) (ps := ps) i
  rw [q]
  exact sz_edge hT hp hl (by omega)
theorem lt_nums (a b : Rat) : decide (a.num * (b.den : Int) < b.num * (a.den : Int)) = decide (a < b) := by
  rw [decide_eq_decide]
  exact (Rat.lt_iff a b).symm
end Sh
set_option Elab.async false
set_option linter.all false
set_option maxRecDepth 100000
set_option maxHeartbeats 3900000
namespace Sh
open PySem.Spec PySem L2 PyProof.Rows
/-! ### the text -/
def topS (i : Nat) : Stmt := PySem.Challenge.pw_actuarium_k42_whole_shortfalls.main.body.getD i (.Pass ⟨0, 0, 0, 0⟩)
abbrev sRatio : Stmt := topS 6
abbrev sPlus : Stmt := topS 7
abbrev sMinus : Stmt := topS 8
abbrev sBy : Stmt := topS 9
abbrev sOver : Stmt := topS 10
abbrev sLess : Stmt := topS 11
abbrev sTotal : Stmt := topS 12
abbrev sIsRatio : Stmt := topS 13
abbrev sIsIn : Stmt := topS 15
abbrev sNeedClaims : Stmt := topS 19
abbrev sChancesOf : Stmt := topS 20
abbrev sNeedLevel : Stmt := topS 23
abbrev sViewOf : Stmt := topS 24
abbrev sExpected : Stmt := topS 25
abbrev sShortfall : Stmt := topS 26
abbrev sTaken : Stmt := topS 28
abbrev sPick : Stmt := topS 29
abbrev sAlike : Stmt := topS 30
abbrev sLRatio : Stmt := topS 31
abbrev sLPlus : Stmt := topS 32
abbrev sLBy : Stmt := topS 33
abbrev sLSum : Stmt := topS 34
abbrev sLClaims : Stmt := topS 35
abbrev sLChances : Stmt := topS 36
abbrev sLAbove : Stmt := topS 38
abbrev sLBelow : Stmt := topS 39
abbrev sLaw : Stmt := topS 42
/-! ### a ratio in the heap -/
def rt (q : Rat) : HO := .tup [.int q.num, .int (q.den : Int)]
/-- a ratio is to be read at p -/
def RA (K : PySem.W.Frag) (H : Hp) (p : Addr) (q : Rat) : Prop := SqT K H p [.int q.num, .int (q.den : Int)]
theorem RA.of {K : PySem.W.Frag} {H : Hp} {p : Addr} {q : Rat} (h : H p = some (rt q)) : RA K H p q := SqT.of h
theorem seqT {K : PySem.W.Frag} {H H' : Hp} {a : Addr} {xs : List V} (e : Same H H') (h : SqT K H a xs) : SqT K H' a xs := by
  rcases h with (h | ⟨ob, h⟩) | h
  · exact .inl (.inl (e _ _ h))
  · exact .inl (.inr ⟨ob, e _ _ h⟩)
  · exact .inr h
theorem RA.same {K : PySem.W.Frag} {H H' : Hp} {p : Addr} {q : Rat} (h : RA K H p q) (e : Same H H') : RA K H' p q := seqT e h
theorem same_upd {p : Addr} {o : HO} {H : Hp} (h : H p = none) : Same H (upd H p o) := fun b x e => by
  rw [upd_ne (ne_of_none e h)]
  exact e
/-- a new ratio stands at p; what stood stands -/
def NewR (H : Hp) (q : Rat) (Q : VK) : Prop := ∀ p, H p = none → Q (.ref p) (upd H p (rt q))
/-! ### promises of the arithmetic -/
def spRatio : Sp := fun vs H Q _ => ∃ t b : Int, vs = [.int t, .int b] ∧ 0 < b ∧ t.natAbs < 2 ^ 8900 ∧ b.natAbs < 2 ^ 8900 ∧ NewR H (Rat.divInt t b) Q
def spBin (K : PySem.W.Frag) (ok : Rat → Prop) (f : Rat → Rat → Rat) : Sp := fun vs H Q _ => ∃ (p q : Addr) (a b : Rat), vs = [.ref p, .ref q] ∧ RA K H p a ∧ RA K H q b ∧ Sz 4000 a ∧ Sz 4000 b ∧ ok b ∧ NewR H (f a b) Q
def spLess (K : PySem.W.Frag) : Sp := fun vs H Q _ => ∃ (p q : Addr) (a b : Rat), vs = [.ref p, .ref q] ∧ RA K H p a ∧ RA K H q b ∧ Sz 4000 a ∧ Sz 4000 b ∧ Q (.bl (decide (a < b))) H
section
variable {base : Heap} {mg : Str → Option Value} {K : PySem.W.Frag} {w : World} {P : Program}
theorem scRatio : FnScope ["top", "bottom", "common"] ["top", "bottom"] (defScope sRatio) := ⟨rfl, rfl, rfl, by decide +kernel, rfl, by decide +kernel, by decide +kernel⟩
theorem gcd_small {t b : Int} (hb : 0 < b) (h : b.natAbs < 2 ^ 8900) : CDivW t ((Nat.gcd t.natAbs b.natAbs : Nat) : Int) := by
  have g : 0 < Nat.gcd t.natAbs b.natAbs := Nat.gcd_pos_of_pos_right _ (by omega)
  have le : Nat.gcd t.natAbs b.natAbs ≤ b.natAbs := Nat.gcd_le_right _ (by omega)
  refine wide_div (b := 8900) (by omega) ?_ (by decide) (by decide)
  rw [Int.natAbs_natCast]
  exact Nat.lt_of_le_of_lt le h
theorem ok_ratio {f : Addr} {fd : FuncData} (F : Fun K "ratio" "ratio" sRatio f fd) (mG : mg "gcd" = some (.builtin "math.gcd")) : FnOk P w K mg base CX0 1 f fd ["top", "bottom"] spRatio := by
  refine F.ok scRatio (fun vs H Q E h => ?_) (fun cdv A outer s H vs Q E hr h => ?_)
  · obtain ⟨t, b, rfl, _⟩ := h
    rfl
  · obtain ⟨t, b, rfl, hb, h1, h2, q⟩ := h
    refine ⟨_, pss_cons (ps_set (i := 2) scRatio.nd rfl (.inl rfl) (pe_ifExp (pt_cmpR op_gt (pv 1) pe_int (nomark _)) (pe_callBfun cr_gcd (by rfl) mG (pa_cons (pv 0) (pa_cons (pv 1) pa_nil)))
        (pe_op op_sub pe_int (pe_callBfun cr_gcd (by rfl) mG (pa_cons (pv 0) (pa_cons (pv 1) pa_nil))))))
      (pss_one (ps_ret (pe_tup (pa_cons (pe_op op_fdivW (pv 0) (pv 2)) (pa_cons (pe_op op_fdivW (pv 1) (pv 2)) pa_nil))))), ?_⟩
    refine ⟨_, rfl, b, 0, rfl, rfl, decide (0 < b), rfl, ?_⟩
    rw [decide_eq_true hb]
    refine iteT ⟨_, rfl, _, rfl, t, b, rfl, ?_⟩
    refine ⟨_, rfl, _, rfl, t, _, rfl, rfl, gcd_small hb h2, _, rfl, _, rfl, b, _, rfl, rfl, gcd_small (t := t) hb h2, (by show 2 ≤ sizeLine; decide), fun p hp => ?_⟩
    have k := q p hp
    unfold rt at k
    rw [num_of (t := t) hb, den_of (t := t) hb] at k
    exact k
/-- a product of a top or a bottom by another -/
theorem mulOk {i j : Int} (h1 : i.natAbs < 2 ^ 4000) (h2 : j.natAbs < 2 ^ 4000) : CMulW i j := wide_mul h1 h2 (by decide) (by decide) (by decide)
theorem denB {q : Rat} {n : Nat} (h : Sz n q) : ((q.den : Int)).natAbs < 2 ^ n := by
  rw [den_abs]
  exact h.2
theorem up {i : Int} {m : Nat} (h : i.natAbs < 2 ^ m) (k : m ≤ 8900) : i.natAbs < 2 ^ 8900 := Nat.lt_of_lt_of_le h (Nat.pow_le_pow_right (by decide) k)
theorem scPlus : FnScope ["one", "other"] ["one", "other"] (defScope sPlus) := ⟨rfl, rfl, rfl, by decide +kernel, rfl, by decide +kernel, by decide +kernel⟩
theorem scMinus : FnScope ["one", "other"] ["one", "other"] (defScope sMinus) := ⟨rfl, rfl, rfl, by decide +kernel, rfl, by decide +kernel, by decide +kernel⟩
theorem scBy : FnScope ["one", "other"] ["one", "other"] (defScope sBy) := ⟨rfl, rfl, rfl, by decide +kernel, rfl, by decide +kernel, by decide +kernel⟩
theorem scOver : FnScope ["one", "other"] ["one", "other"] (defScope sOver) := ⟨rfl, rfl, rfl, by decide +kernel, rfl, by decide +kernel, by decide +kernel⟩
theorem scLess : FnScope ["one", "other"] ["one", "other"] (defScope sLess) := ⟨rfl, rfl, rfl, by decide +kernel, rfl, by decide +kernel, by decide +kernel⟩
theorem ok_plus {f fR : Addr} {fd fdR : FuncData} (F : Fun K "plus" "plus" sPlus f fd) (FR : Fun K "ratio" "ratio" sRatio fR fdR) (GR : FnOk P w K mg base CX0 1 fR fdR ["top", "bottom"] spRatio) (bR : Binds K fdR ["top", "bottom"] []) (gR : mg "ratio" = some (.ref fR)) :
    FnOk P w K mg base CX0 2 f fd ["one", "other"] (spBin K (fun _ => True) (· + ·)) := by
  refine F.ok scPlus (fun vs H Q E h => ?_) (fun cdv A outer s H vs Q E hr h => ?_)
  · obtain ⟨p, q, a, b, rfl, _⟩ := h
    rfl
  · obtain ⟨p, q, a, b, rfl, ha, hb, sa, sb, _, k⟩ := h
    refine ⟨_, pss_one (ps_ret (pe_call GR hr (by rfl) gR FR.kp bR .nil pass0
      (pa_cons (pe_op op_add (pe_op op_mulW (pe_ix ix_tup (pv 0) pe_int (fun _ _ => rfl)) (pe_ix ix_tup (pv 1) pe_int (fun _ _ => rfl))) (pe_op op_mulW (pe_ix ix_tup (pv 1) pe_int (fun _ _ => rfl)) (pe_ix ix_tup (pv 0) pe_int (fun _ _ => rfl))))
        (pa_cons (pe_op op_mulW (pe_ix ix_tup (pv 0) pe_int (fun _ _ => rfl)) (pe_ix ix_tup (pv 1) pe_int (fun _ _ => rfl))) pa_nil)))), ?_⟩
    refine ⟨_, rfl, p, _, 0, _, rfl, rfl, ha, atI_nat (j := 0) rfl, _, rfl, q, _, 1, _, rfl, rfl, hb, atI_nat (j := 1) rfl, _, _, rfl, rfl, mulOk sa.1 (denB sb), ?_⟩
    refine ⟨_, rfl, q, _, 0, _, rfl, rfl, hb, atI_nat (j := 0) rfl, _, rfl, p, _, 1, _, rfl, rfl, ha, atI_nat (j := 1) rfl, _, _, rfl, rfl, mulOk sb.1 (denB sa), _, _, rfl, rfl, ?_⟩
    refine ⟨_, rfl, p, _, 1, _, rfl, rfl, ha, atI_nat (j := 1) rfl, _, rfl, q, _, 1, _, rfl, rfl, hb, atI_nat (j := 1) rfl, _, _, rfl, rfl, mulOk (denB sa) (denB sb), ?_⟩
    refine ⟨_, _, rfl, den_mul_pos a b, up (two_lt (natAbs_mul_lt sa.1 (denB sb)) (natAbs_mul_lt sb.1 (denB sa))) (by decide), up (natAbs_mul_lt (denB sa) (denB sb)) (by decide), ?_⟩
    rw [add_div]
    exact k
theorem ok_minus {f fR : Addr} {fd fdR : FuncData} (F : Fun K "minus" "minus" sMinus f fd) (FR : Fun K "ratio" "ratio" sRatio fR fdR) (GR : FnOk P w K mg base CX0 1 fR fdR ["top", "bottom"] spRatio) (bR : Binds K fdR ["top", "bottom"] []) (gR : mg "ratio" = some (.ref fR)) :
    FnOk P w K mg base CX0 2 f fd ["one", "other"] (spBin K (fun _ => True) (· - ·)) := by
  refine F.ok scMinus (fun vs H Q E h => ?_) (fun cdv A outer s H vs Q E hr h => ?_)
  · obtain ⟨p, q, a, b, rfl, _⟩ := h
    rfl
  · obtain ⟨p, q, a, b, rfl, ha, hb, sa, sb, _, k⟩ := h
    refine ⟨_, pss_one (ps_ret (pe_call GR hr (by rfl) gR FR.kp bR .nil pass0
      (pa_cons (pe_op op_sub (pe_op op_mulW (pe_ix ix_tup (pv 0) pe_int (fun _ _ => rfl)) (pe_ix ix_tup (pv 1) pe_int (fun _ _ => rfl))) (pe_op op_mulW (pe_ix ix_tup (pv 1) pe_int (fun _ _ => rfl)) (pe_ix ix_tup (pv 0) pe_int (fun _ _ => rfl))))
        (pa_cons (pe_op op_mulW (pe_ix ix_tup (pv 0) pe_int (fun _ _ => rfl)) (pe_ix ix_tup (pv 1) pe_int (fun _ _ => rfl))) pa_nil)))), ?_⟩
    refine ⟨_, rfl, p, _, 0, _, rfl, rfl, ha, atI_nat (j := 0) rfl, _, rfl, q, _, 1, _, rfl, rfl, hb, atI_nat (j := 1) rfl, _, _, rfl, rfl, mulOk sa.1 (denB sb), ?_⟩
    refine ⟨_, rfl, q, _, 0, _, rfl, rfl, hb, atI_nat (j := 0) rfl, _, rfl, p, _, 1, _, rfl, rfl, ha, atI_nat (j := 1) rfl, _, _, rfl, rfl, mulOk sb.1 (denB sa), _, _, rfl, rfl, ?_⟩
    refine ⟨_, rfl, p, _, 1, _, rfl, rfl, ha, atI_nat (j := 1) rfl, _, rfl, q, _, 1, _, rfl, rfl, hb, atI_nat (j := 1) rfl, _, _, rfl, rfl, mulOk (denB sa) (denB sb), ?_⟩
    refine ⟨_, _, rfl, den_mul_pos a b, up (two_lt' (natAbs_mul_lt sa.1 (denB sb)) (natAbs_mul_lt sb.1 (denB sa))) (by decide), up (natAbs_mul_lt (denB sa) (denB sb)) (by decide), ?_⟩
    rw [sub_div]
    exact k
theorem ok_by {f fR : Addr} {fd fdR : FuncData} (F : Fun K "by" "by" sBy f fd) (FR : Fun K "ratio" "ratio" sRatio fR fdR) (GR : FnOk P w K mg base CX0 1 fR fdR ["top", "bottom"] spRatio) (bR : Binds K fdR ["top", "bottom"] []) (gR : mg "ratio" = some (.ref fR)) :
    FnOk P w K mg base CX0 2 f fd ["one", "other"] (spBin K (fun _ => True) (· * ·)) := by
  refine F.ok scBy (fun vs H Q E h => ?_) (fun cdv A outer s H vs Q E hr h => ?_)
  · obtain ⟨p, q, a, b, rfl, _⟩ := h
    rfl
  · obtain ⟨p, q, a, b, rfl, ha, hb, sa, sb, _, k⟩ := h
    refine ⟨_, pss_one (ps_ret (pe_call GR hr (by rfl) gR FR.kp bR .nil pass0
      (pa_cons (pe_op op_mulW (pe_ix ix_tup (pv 0) pe_int (fun _ _ => rfl)) (pe_ix ix_tup (pv 1) pe_int (fun _ _ => rfl)))
        (pa_cons (pe_op op_mulW (pe_ix ix_tup (pv 0) pe_int (fun _ _ => rfl)) (pe_ix ix_tup (pv 1) pe_int (fun _ _ => rfl))) pa_nil)))), ?_⟩
    refine ⟨_, rfl, p, _, 0, _, rfl, rfl, ha, atI_nat (j := 0) rfl, _, rfl, q, _, 0, _, rfl, rfl, hb, atI_nat (j := 0) rfl, _, _, rfl, rfl, mulOk sa.1 sb.1, ?_⟩
    refine ⟨_, rfl, p, _, 1, _, rfl, rfl, ha, atI_nat (j := 1) rfl, _, rfl, q, _, 1, _, rfl, rfl, hb, atI_nat (j := 1) rfl, _, _, rfl, rfl, mulOk (denB sa) (denB sb), ?_⟩
    refine ⟨_, _, rfl, den_mul_pos a b, up (natAbs_mul_lt sa.1 sb.1) (by decide), up (natAbs_mul_lt (denB sa) (denB sb)) (by decide), ?_⟩
    rw [mul_div]
    exact k
theorem ok_over {f fR : Addr} {fd fdR : FuncData} (F : Fun K "over" "over" sOver f fd) (FR : Fun K "ratio" "ratio" sRatio fR fdR) (GR : FnOk P w K mg base CX0 1 fR fdR ["top", "bottom"] spRatio) (bR : Binds K fdR ["top", "bottom"] []) (gR : mg "ratio" = some (.ref fR)) :
    FnOk P w K mg base CX0 2 f fd ["one", "other"] (spBin K (fun b => 0 < b) (· / ·)) := by
  refine F.ok scOver (fun vs H Q E h => ?_) (fun cdv A outer s H vs Q E hr h => ?_)
  · obtain ⟨p, q, a, b, rfl, _⟩ := h
    rfl
  · obtain ⟨p, q, a, b, rfl, ha, hb, sa, sb, pos, k⟩ := h
    refine ⟨_, pss_one (ps_ret (pe_call GR hr (by rfl) gR FR.kp bR .nil pass0
      (pa_cons (pe_op op_mulW (pe_ix ix_tup (pv 0) pe_int (fun _ _ => rfl)) (pe_ix ix_tup (pv 1) pe_int (fun _ _ => rfl)))
        (pa_cons (pe_op op_mulW (pe_ix ix_tup (pv 0) pe_int (fun _ _ => rfl)) (pe_ix ix_tup (pv 1) pe_int (fun _ _ => rfl))) pa_nil)))), ?_⟩
    refine ⟨_, rfl, p, _, 0, _, rfl, rfl, ha, atI_nat (j := 0) rfl, _, rfl, q, _, 1, _, rfl, rfl, hb, atI_nat (j := 1) rfl, _, _, rfl, rfl, mulOk sa.1 (denB sb), ?_⟩
    refine ⟨_, rfl, p, _, 1, _, rfl, rfl, ha, atI_nat (j := 1) rfl, _, rfl, q, _, 0, _, rfl, rfl, hb, atI_nat (j := 0) rfl, _, _, rfl, rfl, mulOk (denB sa) sb.1, ?_⟩
    refine ⟨_, _, rfl, Int.mul_pos (den_posI a) (num_pos.mpr pos), up (natAbs_mul_lt sa.1 (denB sb)) (by decide), up (natAbs_mul_lt (denB sa) sb.1) (by decide), ?_⟩
    rw [div_div]
    exact k
theorem ok_less {f : Addr} {fd : FuncData} (F : Fun K "less" "less" sLess f fd) : FnOk P w K mg base CX0 1 f fd ["one", "other"] (spLess K) := by
  refine F.ok scLess (fun vs H Q E h => ?_) (fun cdv A outer s H vs Q E hr h => ?_)
  · obtain ⟨p, q, a, b, rfl, _⟩ := h
    rfl
  · obtain ⟨p, q, a, b, rfl, ha, hb, sa, sb, k⟩ := h
    refine ⟨_, pss_one (ps_ret (pe_cmpR op_lt (pe_op op_mulW (pe_ix ix_tup (pv 0) pe_int (fun _ _ => rfl)) (pe_ix ix_tup (pv 1) pe_int (fun _ _ => rfl)))
      (pe_op op_mulW (pe_ix ix_tup (pv 1) pe_int (fun _ _ => rfl)) (pe_ix ix_tup (pv 0) pe_int (fun _ _ => rfl))) (nomark _))), ?_⟩
    refine ⟨_, rfl, p, _, 0, _, rfl, rfl, ha, atI_nat (j := 0) rfl, _, rfl, q, _, 1, _, rfl, rfl, hb, atI_nat (j := 1) rfl, _, _, rfl, rfl, mulOk sa.1 (denB sb), ?_⟩
    refine ⟨_, rfl, q, _, 0, _, rfl, rfl, hb, atI_nat (j := 0) rfl, _, rfl, p, _, 1, _, rfl, rfl, ha, atI_nat (j := 1) rfl, _, _, rfl, rfl, mulOk sb.1 (denB sa), _, _, rfl, rfl, ?_⟩
    show Q (.bl (decide (a.num * (b.den : Int) < b.num * (a.den : Int)))) H
    rw [lt_nums]
    exact k
end
end Sh
set_option Elab.async false
set_option linter.all false
set_option maxRecDepth 100000
set_option maxHeartbeats 3900000
namespace Sh
open PySem.Spec PySem L2 PyProof.Rows
/-- ratios stand at the addresses -/
structure RAs (K : PySem.W.Frag) (H : Hp) (as : List Addr) (qs : List Rat) : Prop where
  len : as.length = qs.length
  at_ : ∀ (i : Nat) (a : Addr) (q : Rat), as[i]? = some a → qs[i]? = some q → RA K H a q
theorem RAs.same {K : PySem.W.Frag} {H H' : Hp} {as : List Addr} {qs : List Rat} (h : RAs K H as qs) (e : Same H H') : RAs K H' as qs :=
  ⟨h.len, fun i a q h1 h2 => (h.at_ i a q h1 h2).same e⟩
theorem RAs.get {K : PySem.W.Frag} {H : Hp} {as : List Addr} {qs : List Rat} (h : RAs K H as qs) {i : Nat} {x : V} (hx : (as.map V.ref)[i]? = some x) : ∃ a q, x = V.ref a ∧ as[i]? = some a ∧ qs[i]? = some q ∧ RA K H a q := by
  rw [List.getElem?_map] at hx
  cases e : as[i]? with
  | none =>
    rw [e] at hx
    cases hx
  | some a =>
    rw [e] at hx
    have hi : i < as.length := (List.getElem?_eq_some_iff.mp e).1
    have hq : qs[i]? = some (qs[i]'(by rw [← h.len]; exact hi)) := List.getElem?_eq_getElem _
    exact ⟨a, _, (Option.some.inj hx).symm, rfl, hq, h.at_ i a _ e hq⟩
theorem RAs.nil {K : PySem.W.Frag} {H : Hp} : RAs K H [] [] := ⟨rfl, fun i a q h _ => by simp at h⟩
theorem RAs.snoc {K : PySem.W.Frag} {H : Hp} {as : List Addr} {qs : List Rat} {a : Addr} {q : Rat} (h : RAs K H as qs) (ha : RA K H a q) : RAs K H (as ++ [a]) (qs ++ [q]) := by
  refine ⟨by simp [h.len], fun i b r h1 h2 => ?_⟩
  by_cases hi : i < as.length
  · rw [List.getElem?_append_left hi] at h1
    rw [List.getElem?_append_left (by rw [← h.len]; exact hi)] at h2
    exact h.at_ i b r h1 h2
  · have e : i = as.length := by
      have := (List.getElem?_eq_some_iff.mp h1).1
      rw [List.length_append] at this
      simp at this
      omega
    subst e
    rw [List.getElem?_append_right (Nat.le_refl _), Nat.sub_self] at h1
    rw [h.len, List.getElem?_append_right (Nat.le_refl _), Nat.sub_self] at h2
    have e1 : a = b := Option.some.inj h1
    have e2 : q = r := Option.some.inj h2
    rw [← e1, ← e2]
    exact ha
theorem RAs.cons {K : PySem.W.Frag} {H : Hp} {as : List Addr} {qs : List Rat} {a : Addr} {q : Rat} (h : RAs K H as qs) (ha : RA K H a q) : RAs K H (a :: as) (q :: qs) := by
  refine ⟨by simp [h.len], fun i b r h1 h2 => ?_⟩
  cases i with
  | zero =>
    have e1 : a = b := Option.some.inj h1
    have e2 : q = r := Option.some.inj h2
    rw [← e1, ← e2]
    exact ha
  | succ i => exact h.at_ i b r h1 h2
theorem RAs.rev {K : PySem.W.Frag} {H : Hp} : ∀ {as : List Addr} {qs : List Rat}, RAs K H as qs → RAs K H as.reverse qs.reverse
  | [], [], _ => RAs.nil
  | [], _ :: _, h => by have := h.len; simp at this
  | _ :: _, [], h => by have := h.len; simp at this
  | a :: as, q :: qs, h => by
    simp only [List.reverse_cons]
    have t : RAs K H as qs := ⟨by have := h.len; simpa using this, fun i b r h1 h2 => h.at_ (i + 1) b r h1 h2⟩
    exact (RAs.rev t).snoc (h.at_ 0 a q rfl rfl)
theorem rt_zero : rt 0 = .tup [.int 0, .int 1] := rfl
theorem rt_one : rt 1 = .tup [.int 1, .int 1] := rfl
theorem rt_nat (k : Nat) : rt (k : Rat) = .tup [.int (k : Int), .int 1] := rfl
/-- the sum of a list of ratios -/
def spSum (K : PySem.W.Frag) : Sp := fun vs H Q _ => ∃ (l : Addr) (as : List Addr) (qs : List Rat), vs = [.ref l] ∧ SqL K H l (as.map V.ref) ∧ RAs K H as qs ∧ qs.length ≤ 6 ∧ (∀ q ∈ qs, Sz 300 q) ∧
  ∀ H' p, Same H H' → H' p = some (rt (tot qs)) → Q (.ref p) H'
section
variable {base : Heap} {mg : Str → Option Value} {K : PySem.W.Frag} {w : World} {P : Program}
theorem scTotal : FnScope ["some", "found", "one"] ["some"] (defScope sTotal) := ⟨rfl, rfl, rfl, by decide +kernel, rfl, by decide +kernel, by decide +kernel⟩
theorem ok_total {f fP : Addr} {fd fdP : FuncData} (F : Fun K "total" "total" sTotal f fd) (FP : Fun K "plus" "plus" sPlus fP fdP) (GP : FnOk P w K mg base CX0 2 fP fdP ["one", "other"] (spBin K (fun _ => True) (· + ·))) (bP : Binds K fdP ["one", "other"] []) (gP : mg "plus" = some (.ref fP)) :
    FnOk P w K mg base CX0 3 f fd ["some"] (spSum K) := by
  refine F.ok scTotal (fun vs H Q E h => ?_) (fun cdv A outer s H vs Q E hr h => ?_)
  · obtain ⟨l, as, qs, rfl, _⟩ := h
    rfl
  · obtain ⟨l, as, qs, rfl, hL, hA, hlen, hsz, k⟩ := h
    refine ⟨_, pss_cons (ps_set (i := 1) scTotal.nd rfl (.inl rfl) (pe_tup (pa_cons pe_int (pa_cons pe_int pa_nil))))
      (pss_cons (ps_for PassesOwn.never rfl (pi_list (pv 0)) (pg_name (i := 2) scTotal.nd rfl (.inl rfl))
        (pss_one (ps_set (i := 1) scTotal.nd rfl (.inl rfl) (pe_call GP hr (by rfl) gP FP.kp bP .nil pass0 (pa_cons (pv 1) (pa_cons (pv 2) pa_nil)))))) (pss_one (ps_ret (pv 1)))), ?_⟩
    refine ⟨(by show 2 ≤ sizeLine; decide), fun p0 n0 => ?_⟩
    have s0 : Same H (upd H p0 (.tup [.int 0, .int 1])) := same_upd n0
    refine ⟨_, rfl, l, rfl, ⟨_, s0.seq hL⟩, for_list (K := K) (a := l) (xs := as.map V.ref) (fun i σ H' => ∃ (p : Addr) (v : Option V), σ = [some (.ref l), some (.ref p), v] ∧ Same H H' ∧ H' p = some (rt (tot (qs.take i))))
      ⟨p0, none, rfl, s0, upd_same⟩ (fun i σ H' _ ⟨_, _, _, s1, _⟩ => s1.seq hL) ?_ ?_⟩
    · rintro i x σ H' hi ⟨p, v, rfl, s1, ep⟩
      obtain ⟨a, q, rfl, ha, hq, _⟩ := hA.get hi
      have hra : RA K H' a q := (hA.at_ i a q ha hq).same s1
      have hi6 : i < 6 := by
        have := (List.getElem?_eq_some_iff.mp hq).1
        omega
      refine ⟨_, rfl, _, rfl, p, a, _, q, rfl, RA.of ep, hra, (sz_tot (m := 300) (by decide) hsz i).mono (by omega), (hsz q (List.mem_of_getElem? hq)).mono (by decide), True.intro, fun p' np => ?_⟩
      refine ⟨p', some (.ref a), rfl, s1.trans (same_upd np), ?_⟩
      rw [List.take_add_one, hq]
      show _ = some (rt (tot (qs.take i ++ [q])))
      rw [tot_snoc]
      exact upd_same
    · rintro σ H' ⟨p, v, rfl, s1, ep⟩
      rw [List.take_of_length_le (by rw [List.length_map, hA.len]; exact Nat.le_refl _)] at ep
      exact ⟨_, rfl, k H' p s1 ep⟩
/-! ### the law's own arithmetic -/
theorem scLRatio : FnScope ["_law_top", "_law_bottom", "_law_one", "_law_other"] ["_law_top", "_law_bottom"] (defScope sLRatio) := ⟨rfl, rfl, rfl, by decide +kernel, rfl, by decide +kernel, by decide +kernel⟩
theorem gcd_mod (a b : Int) (ha : 0 ≤ a) (hb : 0 < b) : Nat.gcd b.natAbs (a % b).natAbs = Nat.gcd a.natAbs b.natAbs := by
  rw [Int.natAbs_emod_of_nonneg ha]
  rw [Nat.gcd_comm b.natAbs, ← Nat.gcd_rec, Nat.gcd_comm]
theorem ok_lratio {f : Addr} {fd : FuncData} (F : Fun K "_law_ratio" "_law_ratio" sLRatio f fd) (mA : mg "abs" = none) (mI : mg "int" = none) : FnOk P w K mg base CX0 1 f fd ["_law_top", "_law_bottom"] spRatio := by
  refine F.ok scLRatio (fun vs H Q E h => ?_) (fun cdv A outer s H vs Q E hr h => ?_)
  · obtain ⟨t, b, rfl, _⟩ := h
    rfl
  · obtain ⟨t, b, rfl, hb, h1, h2, q⟩ := h
    refine ⟨_, pss_cons (ps_par (i := 2) (j := 3) rfl scLRatio.nd rfl rfl (by decide) rfl rfl (pa_cons (pe_callB call_abs (by rfl) mA (by decide +kernel) (pa_cons (pv 0) pa_nil)) (pa_cons (pe_callB call_abs (by rfl) mA (by decide +kernel) (pa_cons (pv 1) pa_nil)) pa_nil)) (by rfl))
      (pss_cons (ps_while PassesOwn.never (pt_cmpR op_ne (pv 3) pe_int (nomark _))
        (pss_one (ps_par (i := 2) (j := 3) rfl scLRatio.nd rfl rfl (by decide) rfl rfl (pa_cons (pv 3) (pa_cons (pe_op op_mod (pe_callTy call_int1 (by rfl) mI (by decide +kernel) (pa_cons (pv 2) pa_nil)) (pv 3)) pa_nil)) (by rfl))))
      (pss_one (ps_ret (pe_ifExp (pt_cmpR op_gt (pv 1) pe_int (nomark _))
        (pe_tup (pa_cons (pe_op op_fdivW (pv 0) (pv 2)) (pa_cons (pe_op op_fdivW (pv 1) (pv 2)) pa_nil)))
        (pe_tup (pa_cons (pe_op op_sub pe_int (pe_op op_fdivW (pv 0) (pv 2))) (pa_cons (pe_op op_sub pe_int (pe_op op_fdivW (pv 1) (pv 2))) pa_nil))))))), ?_⟩
    refine ⟨_, rfl, t, rfl, _, rfl, b, rfl, _, _, rfl, ?_⟩
    have ab : ∀ i : Int, (if i < 0 then -i else i) = ((i.natAbs : Nat) : Int) := fun i => by split <;> omega
    rw [ab t, ab b]
    refine ⟨fun m σ H' => ∃ x y : Int, σ = [some (.int t), some (.int b), some (.int x), some (.int y)] ∧ 0 ≤ x ∧ 0 ≤ y ∧ m = y.toNat ∧ Nat.gcd x.natAbs y.natAbs = Nat.gcd t.natAbs b.natAbs ∧ H' = H,
      ⟨_, _, _, rfl, by omega, by omega, rfl, by simp, rfl⟩, ?_⟩
    rintro m σ H' ⟨x, y, rfl, hx, hy, rfl, hg, rfl⟩
    refine ⟨_, rfl, rfl, ⟨_, rfl, ?_⟩⟩
    by_cases hz : y = 0
    · subst hz
      have e : (!decide (V.int 0 = V.int 0)) = false := by simp
      rw [e]
      refine iteF ?_
      have hxg : x = ((Nat.gcd t.natAbs b.natAbs : Nat) : Int) := by
        rw [← hg]
        simp
        omega
      subst hxg
      refine ⟨_, rfl, b, 0, rfl, rfl, decide (0 < b), rfl, ?_⟩
      rw [decide_eq_true hb]
      refine iteT ?_
      refine ⟨_, rfl, _, rfl, t, _, rfl, rfl, gcd_small hb h2, _, rfl, _, rfl, b, _, rfl, rfl, gcd_small (t := t) hb h2, (by show 2 ≤ sizeLine; decide), fun p hp => ?_⟩
      have k := q p hp
      unfold rt at k
      rw [num_of (t := t) hb, den_of (t := t) hb] at k
      exact k
    · have e : (!decide (V.int y = V.int 0)) = true := by simp [hz]
      rw [e]
      refine iteT ⟨fun σ' H2 => ∃ m', m' < y.toNat ∧ ∃ x y : Int, σ' = [some (.int t), some (.int b), some (.int x), some (.int y)] ∧ 0 ≤ x ∧ 0 ≤ y ∧ m' = y.toNat ∧ Nat.gcd x.natAbs y.natAbs = Nat.gcd t.natAbs b.natAbs ∧ H2 = H', fun σ' H2 h => h, ?_⟩
      have hyp : 0 < y := by omega
      refine ⟨_, rfl, _, rfl, .inl ⟨x, rfl, _, rfl, x, y, rfl, rfl, hyp, _, _, rfl, ?_⟩⟩
      have m1 := Int.emod_nonneg x (show y ≠ 0 by omega)
      have m2 := Int.emod_lt_of_pos x hyp
      exact ⟨(x % y).toNat, by omega, y, x % y, rfl, hy, m1, rfl, by rw [gcd_mod x y hx hyp]; exact hg, rfl⟩
end
end Sh
set_option Elab.async false
set_option linter.all false
set_option maxRecDepth 100000
set_option maxHeartbeats 3900000
/-! The law's own plus, by, below, sum: turned out of the walks of plus, by, less, total. -/
namespace Sh
open PySem.Spec PySem L2 PyProof.Rows
section
variable {base : Heap} {mg : Str → Option Value} {K : PySem.W.Frag} {w : World} {P : Program}
theorem scLPlus : FnScope ["_law_one", "_law_other"] ["_law_one", "_law_other"] (defScope sLPlus) := ⟨rfl, rfl, rfl, by decide +kernel, rfl, by decide +kernel, by decide +kernel⟩
theorem ok_lplus {f fR : Addr} {fd fdR : FuncData} (F : Fun K "_law_plus" "_law_plus" sLPlus f fd) (FR : Fun K "_law_ratio" "_law_ratio" sLRatio fR fdR) (GR : FnOk P w K mg base CX0 1 fR fdR ["_law_top", "_law_bottom"] spRatio) (bR : Binds K fdR ["_law_top", "_law_bottom"] []) (gR : mg "_law_ratio" = some (.ref fR)) :
    FnOk P w K mg base CX0 2 f fd ["_law_one", "_law_other"] (spBin K (fun _ => True) (· + ·)) := by
  refine F.ok scLPlus (fun vs H Q E h => ?_) (fun cdv A outer s H vs Q E hr h => ?_)
  · obtain ⟨p, q, a, b, rfl, _⟩ := h
    rfl
  · obtain ⟨p, q, a, b, rfl, ha, hb, sa, sb, _, k⟩ := h
    refine ⟨_, pss_one (ps_ret (pe_call GR hr (by rfl) gR FR.kp bR .nil pass0
      (pa_cons (pe_op op_add (pe_op op_mulW (pe_ix ix_tup (pv 0) pe_int (fun _ _ => rfl)) (pe_ix ix_tup (pv 1) pe_int (fun _ _ => rfl))) (pe_op op_mulW (pe_ix ix_tup (pv 1) pe_int (fun _ _ => rfl)) (pe_ix ix_tup (pv 0) pe_int (fun _ _ => rfl))))
        (pa_cons (pe_op op_mulW (pe_ix ix_tup (pv 0) pe_int (fun _ _ => rfl)) (pe_ix ix_tup (pv 1) pe_int (fun _ _ => rfl))) pa_nil)))), ?_⟩
    refine ⟨_, rfl, p, _, 0, _, rfl, rfl, ha, atI_nat (j := 0) rfl, _, rfl, q, _, 1, _, rfl, rfl, hb, atI_nat (j := 1) rfl, _, _, rfl, rfl, mulOk sa.1 (denB sb), ?_⟩
    refine ⟨_, rfl, q, _, 0, _, rfl, rfl, hb, atI_nat (j := 0) rfl, _, rfl, p, _, 1, _, rfl, rfl, ha, atI_nat (j := 1) rfl, _, _, rfl, rfl, mulOk sb.1 (denB sa), _, _, rfl, rfl, ?_⟩
    refine ⟨_, rfl, p, _, 1, _, rfl, rfl, ha, atI_nat (j := 1) rfl, _, rfl, q, _, 1, _, rfl, rfl, hb, atI_nat (j := 1) rfl, _, _, rfl, rfl, mulOk (denB sa) (denB sb), ?_⟩
    refine ⟨_, _, rfl, den_mul_pos a b, up (two_lt (natAbs_mul_lt sa.1 (denB sb)) (natAbs_mul_lt sb.1 (denB sa))) (by decide), up (natAbs_mul_lt (denB sa) (denB sb)) (by decide), ?_⟩
    rw [add_div]
    exact k
theorem scLBy : FnScope ["_law_one", "_law_other"] ["_law_one", "_law_other"] (defScope sLBy) := ⟨rfl, rfl, rfl, by decide +kernel, rfl, by decide +kernel, by decide +kernel⟩
theorem ok_lby {f fR : Addr} {fd fdR : FuncData} (F : Fun K "_law_by" "_law_by" sLBy f fd) (FR : Fun K "_law_ratio" "_law_ratio" sLRatio fR fdR) (GR : FnOk P w K mg base CX0 1 fR fdR ["_law_top", "_law_bottom"] spRatio) (bR : Binds K fdR ["_law_top", "_law_bottom"] []) (gR : mg "_law_ratio" = some (.ref fR)) :
    FnOk P w K mg base CX0 2 f fd ["_law_one", "_law_other"] (spBin K (fun _ => True) (· * ·)) := by
  refine F.ok scLBy (fun vs H Q E h => ?_) (fun cdv A outer s H vs Q E hr h => ?_)
  · obtain ⟨p, q, a, b, rfl, _⟩ := h
    rfl
  · obtain ⟨p, q, a, b, rfl, ha, hb, sa, sb, _, k⟩ := h
    refine ⟨_, pss_one (ps_ret (pe_call GR hr (by rfl) gR FR.kp bR .nil pass0
      (pa_cons (pe_op op_mulW (pe_ix ix_tup (pv 0) pe_int (fun _ _ => rfl)) (pe_ix ix_tup (pv 1) pe_int (fun _ _ => rfl)))
        (pa_cons (pe_op op_mulW (pe_ix ix_tup (pv 0) pe_int (fun _ _ => rfl)) (pe_ix ix_tup (pv 1) pe_int (fun _ _ => rfl))) pa_nil)))), ?_⟩
    refine ⟨_, rfl, p, _, 0, _, rfl, rfl, ha, atI_nat (j := 0) rfl, _, rfl, q, _, 0, _, rfl, rfl, hb, atI_nat (j := 0) rfl, _, _, rfl, rfl, mulOk sa.1 sb.1, ?_⟩
    refine ⟨_, rfl, p, _, 1, _, rfl, rfl, ha, atI_nat (j := 1) rfl, _, rfl, q, _, 1, _, rfl, rfl, hb, atI_nat (j := 1) rfl, _, _, rfl, rfl, mulOk (denB sa) (denB sb), ?_⟩
    refine ⟨_, _, rfl, den_mul_pos a b, up (natAbs_mul_lt sa.1 sb.1) (by decide), up (natAbs_mul_lt (denB sa) (denB sb)) (by decide), ?_⟩
    rw [mul_div]
    exact k
theorem scLBelow : FnScope ["_law_one", "_law_other"] ["_law_one", "_law_other"] (defScope sLBelow) := ⟨rfl, rfl, rfl, by decide +kernel, rfl, by decide +kernel, by decide +kernel⟩
theorem ok_lbelow {f : Addr} {fd : FuncData} (F : Fun K "_law_below" "_law_below" sLBelow f fd) : FnOk P w K mg base CX0 1 f fd ["_law_one", "_law_other"] (spLess K) := by
  refine F.ok scLBelow (fun vs H Q E h => ?_) (fun cdv A outer s H vs Q E hr h => ?_)
  · obtain ⟨p, q, a, b, rfl, _⟩ := h
    rfl
  · obtain ⟨p, q, a, b, rfl, ha, hb, sa, sb, k⟩ := h
    refine ⟨_, pss_one (ps_ret (pe_cmpR op_lt (pe_op op_mulW (pe_ix ix_tup (pv 0) pe_int (fun _ _ => rfl)) (pe_ix ix_tup (pv 1) pe_int (fun _ _ => rfl)))
      (pe_op op_mulW (pe_ix ix_tup (pv 1) pe_int (fun _ _ => rfl)) (pe_ix ix_tup (pv 0) pe_int (fun _ _ => rfl))) (nomark _))), ?_⟩
    refine ⟨_, rfl, p, _, 0, _, rfl, rfl, ha, atI_nat (j := 0) rfl, _, rfl, q, _, 1, _, rfl, rfl, hb, atI_nat (j := 1) rfl, _, _, rfl, rfl, mulOk sa.1 (denB sb), ?_⟩
    refine ⟨_, rfl, q, _, 0, _, rfl, rfl, hb, atI_nat (j := 0) rfl, _, rfl, p, _, 1, _, rfl, rfl, ha, atI_nat (j := 1) rfl, _, _, rfl, rfl, mulOk sb.1 (denB sa), _, _, rfl, rfl, ?_⟩
    show Q (.bl (decide (a.num * (b.den : Int) < b.num * (a.den : Int)))) H
    rw [lt_nums]
    exact k
theorem scLSum : FnScope ["_law_some", "_law_found", "_law_one"] ["_law_some"] (defScope sLSum) := ⟨rfl, rfl, rfl, by decide +kernel, rfl, by decide +kernel, by decide +kernel⟩
theorem ok_lsum {f fP : Addr} {fd fdP : FuncData} (F : Fun K "_law_sum" "_law_sum" sLSum f fd) (FP : Fun K "_law_plus" "_law_plus" sLPlus fP fdP) (GP : FnOk P w K mg base CX0 2 fP fdP ["_law_one", "_law_other"] (spBin K (fun _ => True) (· + ·))) (bP : Binds K fdP ["_law_one", "_law_other"] []) (gP : mg "_law_plus" = some (.ref fP)) :
    FnOk P w K mg base CX0 3 f fd ["_law_some"] (spSum K) := by
  refine F.ok scLSum (fun vs H Q E h => ?_) (fun cdv A outer s H vs Q E hr h => ?_)
  · obtain ⟨l, as, qs, rfl, _⟩ := h
    rfl
  · obtain ⟨l, as, qs, rfl, hL, hA, hlen, hsz, k⟩ := h
    refine ⟨_, pss_cons (ps_set (i := 1) scLSum.nd rfl (.inl rfl) (pe_tup (pa_cons pe_int (pa_cons pe_int pa_nil))))
      (pss_cons (ps_for PassesOwn.never rfl (pi_list (pv 0)) (pg_name (i := 2) scLSum.nd rfl (.inl rfl))
        (pss_one (ps_set (i := 1) scLSum.nd rfl (.inl rfl) (pe_call GP hr (by rfl) gP FP.kp bP .nil pass0 (pa_cons (pv 1) (pa_cons (pv 2) pa_nil)))))) (pss_one (ps_ret (pv 1)))), ?_⟩
    refine ⟨(by show 2 ≤ sizeLine; decide), fun p0 n0 => ?_⟩
    have s0 : Same H (upd H p0 (.tup [.int 0, .int 1])) := same_upd n0
    refine ⟨_, rfl, l, rfl, ⟨_, s0.seq hL⟩, for_list (K := K) (a := l) (xs := as.map V.ref) (fun i σ H' => ∃ (p : Addr) (v : Option V), σ = [some (.ref l), some (.ref p), v] ∧ Same H H' ∧ H' p = some (rt (tot (qs.take i))))
      ⟨p0, none, rfl, s0, upd_same⟩ (fun i σ H' _ ⟨_, _, _, s1, _⟩ => s1.seq hL) ?_ ?_⟩
    · rintro i x σ H' hi ⟨p, v, rfl, s1, ep⟩
      obtain ⟨a, q, rfl, ha, hq, _⟩ := hA.get hi
      have hra : RA K H' a q := (hA.at_ i a q ha hq).same s1
      have hi6 : i < 6 := by
        have := (List.getElem?_eq_some_iff.mp hq).1
        omega
      refine ⟨_, rfl, _, rfl, p, a, _, q, rfl, RA.of ep, hra, (sz_tot (m := 300) (by decide) hsz i).mono (by omega), (hsz q (List.mem_of_getElem? hq)).mono (by decide), True.intro, fun p' np => ?_⟩
      refine ⟨p', some (.ref a), rfl, s1.trans (same_upd np), ?_⟩
      rw [List.take_add_one, hq]
      show _ = some (rt (tot (qs.take i ++ [q])))
      rw [tot_snoc]
      exact upd_same
    · rintro σ H' ⟨p, v, rfl, s1, ep⟩
      rw [List.take_of_length_le (by rw [List.length_map, hA.len]; exact Nat.le_refl _)] at ep
      exact ⟨_, rfl, k H' p s1 ep⟩
end
end Sh
set_option Elab.async false
set_option linter.all false
set_option maxRecDepth 100000
set_option maxHeartbeats 3900000
namespace Sh
open PySem.Spec PySem L2 PyProof.Rows
/-- the row of draws stands at r -/
def Row (K : PySem.W.Frag) (H : Hp) (r a : Addr) (ns : List Int) : Prop := ∃ (i j k : Int), H r = some (.lst [.ref a, .int i, .int j, .int k]) ∧ SqL K H a (ns.map V.int) ∧ 0 ≤ i ∧ 0 ≤ j ∧ j < 2147483647 ∧ 0 ≤ k
/-- all but r stands as it stood -/
def Fr1 (r : Addr) (H H' : Hp) : Prop := ∀ b o, b ≠ r → H b = some o → H' b = some o
theorem Fr1.refl (r : Addr) (H : Hp) : Fr1 r H H := fun _ _ _ h => h
theorem Fr1.trans {r : Addr} {H H1 H2 : Hp} (a : Fr1 r H H1) (b : Fr1 r H1 H2) : Fr1 r H H2 := fun c o hc h => b c o hc (a c o hc h)
theorem Fr1.of {r : Addr} {H H' : Hp} (h : Same H H') : Fr1 r H H' := fun b o _ e => h b o e
theorem Fr1.upd {r : Addr} {H : Hp} {o : HO} : Fr1 r H (upd H r o) := fun b x hb e => by
  rw [upd_ne hb]
  exact e
theorem script_fr {K : PySem.W.Frag} {H H' : Hp} {a r : Addr} {ns : List Int} {b : Addr} {xs : List V} (h : SqL K H a (ns.map V.int)) (hr : H r = some (.lst (.ref b :: xs))) (f : Fr1 r H H') : SqL K H' a (ns.map V.int) := by
  rcases h with (h | ⟨ob, h⟩) | h
  · refine .inl (.inl (f a _ (fun e => ?_) h))
    rw [e, hr] at h
    cases ns with
    | nil => cases h
    | cons n ns => cases h
  · refine .inl (.inr ⟨ob, f a _ (fun e => ?_) h⟩)
    rw [e, hr] at h
    cases h
  · exact .inr h
theorem Row.same {K : PySem.W.Frag} {H H' : Hp} {r a : Addr} {ns : List Int} (h : Row K H r a ns) (e : Same H H') : Row K H' r a ns := by
  obtain ⟨i, j, k, h1, h2, h3⟩ := h
  exact ⟨i, j, k, e _ _ h1, e.seq h2, h3⟩
theorem Row.some {K : PySem.W.Frag} {H : Hp} {r a : Addr} {ns : List Int} (h : Row K H r a ns) : ∃ xs, H r = some (.lst xs) := by
  obtain ⟨i, j, k, h1, _⟩ := h
  exact ⟨_, h1⟩
/-- the row stands on where r is kept and all that stood at an elder heap stands -/
theorem Row.on {K : PySem.W.Frag} {H0 H H' : Hp} {r a : Addr} {ns : List Int} (h0 : Row K H0 r a ns) (h : Row K H r a ns) (e : H' r = H r) (f : Fr1 r H0 H') : Row K H' r a ns := by
  obtain ⟨i0, j0, k0, g1, g2, g3⟩ := h0
  obtain ⟨i, j, k, h1, h2, h3⟩ := h
  exact ⟨i, j, k, e.trans h1, script_fr g2 g1 f, h3⟩
def spTaken (K : PySem.W.Frag) : Sp := fun vs H Q _ => ∃ (r a : Addr) (ns : List Int) (m : Int), vs = [.ref r, .int m] ∧ 0 < m ∧ m < 1073741824 ∧ Row K H r a ns ∧ ∀ H' v, 0 ≤ v → v < m → Row K H' r a ns → Fr1 r H H' → Q (.int v) H'
def spPick (K : PySem.W.Frag) : Sp := fun vs H Q _ => ∃ (r t a : Addr) (ns : List Int) (xs : List V), vs = [.ref r, .ref t] ∧ Row K H r a ns ∧ H t = some (.lst xs) ∧ t ≠ r ∧ xs ≠ [] ∧ xs.length < 1000 ∧ ∀ H' x, x ∈ xs → Row K H' r a ns → Fr1 r H H' → Q x H'
/-- claims as the law draws them -/
structure Cl (ks : List Int) : Prop where
  len : ks.length ≤ 6
  val : ∀ k ∈ ks, 0 ≤ k ∧ k ≤ 29
  last : ∃ (init : List Int) (z : Int), ks = init ++ [z] ∧ 1 ≤ z
def spLClaims (K : PySem.W.Frag) : Sp := fun vs H Q _ => ∃ (r a : Addr) (ns : List Int), vs = [.ref r, .int 6] ∧ Row K H r a ns ∧ ∀ H' p ks, Cl ks → H' p = some (.tup (ks.map V.int)) → Row K H' r a ns → Fr1 r H H' → Q (.ref p) H'
section
variable {base : Heap} {mg : Str → Option Value} {K : PySem.W.Frag} {w : World} {P : Program}
theorem scTaken : FnScope ["_law_row", "_law_many", "_law_found", "_law_cell"] ["_law_row", "_law_many"] (defScope sTaken) := ⟨rfl, rfl, rfl, by decide +kernel, rfl, by decide +kernel, by decide +kernel⟩
theorem ok_taken {f : Addr} {fd : FuncData} (F : Fun K "_law_taken" "_law_taken" sTaken f fd) (mI : mg "int" = none) (mL : mg "len" = none) : FnOk P w K mg base CX0 1 f fd ["_law_row", "_law_many"] (spTaken K) := by
  refine F.ok scTaken (fun vs H Q E h => ?_) (fun cdv A outer s H vs Q E hr h => ?_)
  · obtain ⟨r, a, ns, m, rfl, _⟩ := h
    rfl
  · obtain ⟨r, a, ns, m, rfl, hm, hm2, ⟨i, j, k, hR, hS, hi, hj, hj2, hk⟩, q⟩ := h
    refine ⟨_, pss_cons (ps_if (pt_cmpR op_gt (pe_ix ix_list (pv 0) pe_int (fun _ _ => rfl)) pe_int (nomark _))
        (pss_cons (ps_set (i := 2) scTaken.nd rfl (.inl rfl) (pe_op op_mod (pe_callTy call_int1 (by rfl) mI (by decide +kernel) (pa_cons (pe_ix ix_list (pv 0) pe_int (fun _ _ => rfl)) pa_nil)) (pv 1)))
        (pss_cons (ps_asg (pe_op op_fdiv (pe_ix ix_list (pv 0) pe_int (fun _ _ => rfl)) (pv 1)) (pg_sub (pv 0) pe_int set_list))
        (pss_one (ps_ret (pv 2))))) pss_nil)
      (pss_cons (ps_asg (pe_op op_add (pe_ix ix_list (pv 0) pe_int (fun _ _ => rfl)) pe_int) (pg_sub (pv 0) pe_int set_list))
      (pss_cons (ps_if (pt_cmpR op_gt (pe_ix ix_list (pv 0) pe_int (fun _ _ => rfl)) (pe_callB call_len_seq (by rfl) mL PySem.boot_len (pa_cons (pe_ix ix_list (pv 0) pe_int (fun _ _ => rfl)) pa_nil)) (nomark _))
        (pss_cons (ps_asg (pe_op op_mod (pe_callTy call_int1 (by rfl) mI (by decide +kernel) (pa_cons (pe_op op_add (pe_op op_mul (pe_ix ix_list (pv 0) pe_int (fun _ _ => rfl)) pe_int) pe_int) pa_nil)) pe_int) (pg_sub (pv 0) pe_int set_list))
        (pss_one (ps_ret (pe_op op_mod (pe_callTy call_int1 (by rfl) mI (by decide +kernel) (pa_cons (pe_op op_fdiv (pe_ix ix_list (pv 0) pe_int (fun _ _ => rfl)) pe_int) pa_nil)) (pv 1))))) pss_nil)
      (pss_cons (ps_set (i := 3) scTaken.nd rfl (.inl rfl) (pe_ix ix_list (pe_ix ix_list (pv 0) pe_int (fun _ _ => rfl)) (pe_op op_sub (pe_ix ix_list (pv 0) pe_int (fun _ _ => rfl)) pe_int) (fun _ _ => rfl)))
      (pss_cons (ps_asg (pe_op op_mod (pe_callTy call_int1 (by rfl) mI (by decide +kernel) (pa_cons (pe_op op_add (pe_op op_add (pe_op op_mul (pe_ix ix_list (pv 0) pe_int (fun _ _ => rfl)) pe_int) (pv 3)) pe_int) pa_nil)) pe_int) (pg_sub (pv 0) pe_int set_list))
      (pss_cons (ps_if (pt_cmpR op_ge (pv 3) (pe_op op_pow pe_int pe_int) (nomark _))
        (pss_one (ps_asg (pe_op op_fdiv (pv 3) (pv 1)) (pg_sub (pv 0) pe_int set_list))) pss_nil)
      (pss_one (ps_ret (pe_op op_mod (pe_callTy call_int1 (by rfl) mI (by decide +kernel) (pa_cons (pv 3) pa_nil)) (pv 1))))))))), ?_⟩
    refine ⟨_, rfl, r, _, 3, _, rfl, rfl, SqL.of hR, atI_nat (j := 3) rfl, k, 0, rfl, rfl, _, rfl, ite2 (fun e => ?_) (fun e => ?_)⟩
    · -- a cell's rest
      refine ⟨_, rfl, r, _, 3, _, rfl, rfl, SqL.of hR, atI_nat (j := 3) rfl, .inl ⟨k, rfl, _, rfl, k, m, rfl, rfl, hm, ?_⟩⟩
      refine ⟨_, rfl, r, _, 3, _, rfl, rfl, SqL.of hR, atI_nat (j := 3) rfl, _, rfl, k, m, rfl, rfl, ⟨hm, hm2⟩, _, rfl, r, _, 3, 3, rfl, rfl, hR, rfl, ?_⟩
      have fr : Fr1 r H (upd H r (.lst [.ref a, .int i, .int j, .int (k / m)])) := Fr1.upd
      exact ⟨_, rfl, q _ _ (Int.emod_nonneg _ (by omega)) (Int.emod_lt_of_pos _ hm) ⟨i, j, k / m, upd_same, script_fr hS hR fr, hi, hj, hj2, Int.ediv_nonneg hk (by omega)⟩ fr⟩
    · -- _law_row[1] = _law_row[1] + 1
      refine ⟨_, rfl, r, _, 1, _, rfl, rfl, SqL.of hR, atI_nat (j := 1) rfl, i, 1, rfl, rfl, _, rfl, r, _, 1, 1, rfl, rfl, hR, rfl, ?_⟩
      have f1 : Fr1 r H (upd H r (.lst [.ref a, .int (i + 1), .int j, .int k])) := Fr1.upd
      have hR1 : (upd H r (.lst [.ref a, .int (i + 1), .int j, .int k])) r = some (.lst [.ref a, .int (i + 1), .int j, .int k]) := upd_same
      have hS1 := script_fr hS hR f1
      refine ⟨_, rfl, r, _, 1, _, rfl, rfl, SqL.of hR1, atI_nat (j := 1) rfl, _, rfl, r, _, 0, _, rfl, rfl, SqL.of hR1, atI_nat (j := 0) rfl, a, _, rfl, .inl hS1, i + 1, _, rfl, rfl, _, rfl, ite2 (fun e2 => ?_) (fun e2 => ?_)⟩
      · -- beyond the script
        refine ⟨_, rfl, r, _, 2, _, rfl, rfl, SqL.of hR1, atI_nat (j := 2) rfl, j, 48271, rfl, rfl, .inr ⟨by decide, by decide⟩, _, 11, rfl, rfl, .inl ⟨_, rfl, _, 2147483647, rfl, rfl, (by show (0 : Int) < 2147483647; decide), _, rfl, r, _, 2, 2, rfl, rfl, hR1, rfl, ?_⟩⟩
        have f2 : Fr1 r (upd H r (.lst [.ref a, .int (i + 1), .int j, .int k])) (upd (upd H r (.lst [.ref a, .int (i + 1), .int j, .int k])) r (.lst [.ref a, .int (i + 1), .int ((j * 48271 + 11) % 2147483647), .int k])) := Fr1.upd
        have hR2 : (upd (upd H r (.lst [.ref a, .int (i + 1), .int j, .int k])) r (.lst [.ref a, .int (i + 1), .int ((j * 48271 + 11) % 2147483647), .int k])) r = some (.lst [.ref a, .int (i + 1), .int ((j * 48271 + 11) % 2147483647), .int k]) := upd_same
        refine ⟨_, rfl, r, _, 2, _, rfl, rfl, SqL.of hR2, atI_nat (j := 2) rfl, _, 7, rfl, rfl, ⟨by decide, by decide⟩, .inl ⟨_, rfl, _, rfl, _, m, rfl, rfl, hm, ?_⟩⟩
        exact q _ _ (Int.emod_nonneg _ (by omega)) (Int.emod_lt_of_pos _ hm) ⟨i + 1, _, k, hR2, script_fr hS1 hR1 f2, by omega, Int.emod_nonneg _ (by decide), Int.emod_lt_of_pos _ (by decide), hk⟩ (f1.trans f2)
      · -- a cell of the script
        have e3 : ¬ ((ns.map V.int).length : Int) < i + 1 := fun z => e2 (decide_eq_true z)
        have hlt : i.toNat < ns.length := by
          rw [List.length_map] at e3
          omega
        have hat : atI (ns.map V.int) (i + 1 - 1) = some (.int ns[i.toNat]) := by
          refine at_of (j := i.toNat) (by omega) ?_
          rw [List.getElem?_map, List.getElem?_eq_getElem hlt]
          rfl
        generalize ns[i.toNat] = c at hat
        refine ⟨_, rfl, r, _, 0, _, rfl, rfl, SqL.of hR1, atI_nat (j := 0) rfl, _, rfl, r, _, 1, _, rfl, rfl, SqL.of hR1, atI_nat (j := 1) rfl, i + 1, 1, rfl, rfl, a, _, _, _, rfl, rfl, hS1, hat, ?_⟩
        refine ⟨_, rfl, r, _, 2, _, rfl, rfl, SqL.of hR1, atI_nat (j := 2) rfl, j, 48271, rfl, rfl, .inr ⟨by decide, by decide⟩, _, rfl, _, c, rfl, rfl, _, 11, rfl, rfl, .inl ⟨_, rfl, _, 2147483647, rfl, rfl, (by show (0 : Int) < 2147483647; decide), _, rfl, r, _, 2, 2, rfl, rfl, hR1, rfl, ?_⟩⟩
        have f2 : Fr1 r (upd H r (.lst [.ref a, .int (i + 1), .int j, .int k])) (upd (upd H r (.lst [.ref a, .int (i + 1), .int j, .int k])) r (.lst [.ref a, .int (i + 1), .int ((j * 48271 + c + 11) % 2147483647), .int k])) := Fr1.upd
        have hR2 : (upd (upd H r (.lst [.ref a, .int (i + 1), .int j, .int k])) r (.lst [.ref a, .int (i + 1), .int ((j * 48271 + c + 11) % 2147483647), .int k])) r = some (.lst [.ref a, .int (i + 1), .int ((j * 48271 + c + 11) % 2147483647), .int k]) := upd_same
        have hS2 := script_fr hS1 hR1 f2
        have g2 := f1.trans f2
        have j0 : 0 ≤ (j * 48271 + c + 11) % 2147483647 := Int.emod_nonneg _ (by decide)
        have j1 : (j * 48271 + c + 11) % 2147483647 < 2147483647 := Int.emod_lt_of_pos _ (by decide)
        have v0 : 0 ≤ c % m := Int.emod_nonneg _ (by omega)
        have v1 : c % m < m := Int.emod_lt_of_pos _ hm
        refine ⟨_, rfl, 10, 18, rfl, rfl, ⟨by decide, by decide, by decide⟩, c, _, rfl, rfl, _, rfl, ite2 (fun e4 => ?_) (fun e4 => ?_)⟩
        · refine ⟨_, rfl, _, rfl, c, m, rfl, rfl, ⟨hm, hm2⟩, _, rfl, r, _, 3, 3, rfl, rfl, hR2, rfl, ?_⟩
          have f3 : Fr1 r (upd (upd H r (.lst [.ref a, .int (i + 1), .int j, .int k])) r (.lst [.ref a, .int (i + 1), .int ((j * 48271 + c + 11) % 2147483647), .int k])) (upd (upd (upd H r (.lst [.ref a, .int (i + 1), .int j, .int k])) r (.lst [.ref a, .int (i + 1), .int ((j * 48271 + c + 11) % 2147483647), .int k])) r (.lst [.ref a, .int (i + 1), .int ((j * 48271 + c + 11) % 2147483647), .int (c / m)])) := Fr1.upd
          have c0 : 0 ≤ c := by
            have := of_decide_eq_true e4
            have h10 : (0 : Int) ≤ 10 ^ (18 : Int).toNat := by decide
            omega
          refine ⟨_, rfl, .inl ⟨c, rfl, _, rfl, c, m, rfl, rfl, hm, ?_⟩⟩
          exact q _ _ v0 v1 ⟨i + 1, _, c / m, upd_same, script_fr hS2 hR2 f3, by omega, j0, j1, Int.ediv_nonneg c0 (by omega)⟩ (g2.trans f3)
        · refine ⟨_, rfl, .inl ⟨c, rfl, _, rfl, c, m, rfl, rfl, hm, ?_⟩⟩
          exact q _ _ v0 v1 ⟨i + 1, _, k, hR2, hS2, by omega, j0, j1, hk⟩ g2
end
end Sh
set_option Elab.async false
set_option linter.all false
set_option maxRecDepth 100000
set_option maxHeartbeats 3900000
namespace Sh
open PySem.Spec PySem L2 PyProof.Rows
/-- a comprehension without a test -/
theorem yes_then {σ : L2.St} {H : Hp} {f g : Hp → Prop} (h : f H) : tYes σ H (fun b H3 => if b = true then f H3 else g H3) := by
  show if true = true then f H else g H
  rw [if_pos rfl]
  exact h
section
variable {base : Heap} {mg : Str → Option Value} {K : PySem.W.Frag} {w : World} {P : Program}
theorem scPick : FnScope ["_law_row", "_law_things"] ["_law_row", "_law_things"] (defScope sPick) := ⟨rfl, rfl, rfl, by decide +kernel, rfl, by decide +kernel, by decide +kernel⟩
theorem ok_pick {f fT : Addr} {fd fdT : FuncData} (F : Fun K "_law_pick" "_law_pick" sPick f fd) (FT : Fun K "_law_taken" "_law_taken" sTaken fT fdT) (GT : FnOk P w K mg base CX0 1 fT fdT ["_law_row", "_law_many"] (spTaken K)) (bT : Binds K fdT ["_law_row", "_law_many"] []) (gT : mg "_law_taken" = some (.ref fT)) (mL : mg "len" = none) :
    FnOk P w K mg base CX0 2 f fd ["_law_row", "_law_things"] (spPick K) := by
  refine F.ok scPick (fun vs H Q E h => ?_) (fun cdv A outer s H vs Q E hr h => ?_)
  · obtain ⟨r, t, a, ns, xs, rfl, _⟩ := h
    rfl
  · obtain ⟨r, t, a, ns, xs, rfl, hR, hT, ntr, hne, hlen, q⟩ := h
    refine ⟨_, pss_one (ps_ret (pe_ix ix_list (pv 1) (pe_call GT hr (by rfl) gT FT.kp bT .nil pass0 (pa_cons (pv 0) (pa_cons (pe_callB call_len_seq (by rfl) mL PySem.boot_len (pa_cons (pv 1) pa_nil)) pa_nil))) (fun _ _ => rfl))), ?_⟩
    have h0 : 0 < xs.length := List.length_pos_iff.mpr hne
    refine ⟨_, rfl, _, rfl, _, rfl, t, xs, rfl, .inl (SqL.of hT), r, a, ns, (xs.length : Int), rfl, by omega, by omega, hR, fun H' v v0 v1 hR' fr => ?_⟩
    have hv : v.toNat < xs.length := by omega
    refine ⟨t, xs, v, xs[v.toNat], rfl, rfl, SqL.of (fr t _ ntr hT), at_of (j := v.toNat) (by omega) (List.getElem?_eq_getElem hv), ?_⟩
    exact q H' _ (List.getElem_mem hv) hR' fr
theorem scLClaims : FnScope ["_law_row", "_law_most", "_law_found", "_law_k"] ["_law_row", "_law_most"] (defScope sLClaims) := ⟨rfl, rfl, rfl, by decide +kernel, rfl, by decide +kernel, by decide +kernel⟩
theorem ok_lclaims {f fT fP : Addr} {fd fdT fdP : FuncData} (F : Fun K "_law_claims" "_law_claims" sLClaims f fd) (FT : Fun K "_law_taken" "_law_taken" sTaken fT fdT) (GT : FnOk P w K mg base CX0 1 fT fdT ["_law_row", "_law_many"] (spTaken K)) (bT : Binds K fdT ["_law_row", "_law_many"] []) (gT : mg "_law_taken" = some (.ref fT))
    (FP : Fun K "_law_pick" "_law_pick" sPick fP fdP) (GP : FnOk P w K mg base CX0 2 fP fdP ["_law_row", "_law_things"] (spPick K)) (bP : Binds K fdP ["_law_row", "_law_things"] []) (gP : mg "_law_pick" = some (.ref fP)) (mR : mg "range" = none) (mT : mg "tuple" = none) :
    FnOk P w K mg base CX0 3 f fd ["_law_row", "_law_most"] (spLClaims K) := by
  refine F.ok scLClaims (fun vs H Q E h => ?_) (fun cdv A outer s H vs Q E hr h => ?_)
  · obtain ⟨r, a, ns, rfl, _⟩ := h
    rfl
  · obtain ⟨r, a, ns, rfl, hR, q⟩ := h
    have hr1 : Room 1 _ := hr.mono (j := 1) (by decide)
    refine ⟨_, pss_cons (ps_setLc (i := 2) (own := [("_law_k", 3)]) (g := gName 3) rfl scLClaims.nd rfl rfl (sw_true rfl rfl rfl (by decide +kernel))
        (pi_range1 (by rfl) mR (pa_cons (pe_call GT hr1 (by rfl) gT FT.kp bT .nil pass0 (pa_cons (pv 0) (pa_cons (pv 1) pa_nil))) pa_nil))
        (blkOk_by (N := ["_law_row", "_law_most", "_law_found", "_law_k"]) (sc := defScope sLClaims) (by decide +kernel))
        (fun _ _ _ _ _ => pg_name (i := 3) scLClaims.nd rfl (.inl rfl)) (fun _ _ _ _ _ => pts_nil)
        (fun _ _ _ _ _ => pe_call GP hr (by rfl) gP FP.kp bP .nil pass0 (pa_cons (pv 0) (pa_cons (pe_lst (pa_cons pe_int (pa_cons pe_int (pa_cons pe_int (pa_cons pe_int (pa_cons pe_int (pa_cons (pe_call GT hr1 (by rfl) gT FT.kp bT .nil pass0 (pa_cons (pv 0) (pa_cons pe_int pa_nil))) pa_nil))))))) pa_nil))))
      (pss_one (ps_ret (pe_op op_catA (pe_callTy call_tuple_of (by rfl) mT (by decide +kernel) (pa_cons (pv 2) pa_nil))
        (pe_tup (pa_cons (pe_call GP hr (by rfl) gP FP.kp bP .nil pass0 (pa_cons (pv 0) (pa_cons (pe_lst (pa_cons pe_int (pa_cons pe_int (pa_cons pe_int pa_nil)))) pa_nil))) pa_nil))))), ?_⟩
    refine ⟨_, rfl, _, rfl, r, a, ns, 6, rfl, by decide, by decide, hR, fun H1 n n0 n1 hR1 f1 => ?_⟩
    refine ⟨n, rfl, by omega, by omega, fun D hD => ?_⟩
    have nDr : D ≠ r := by
      obtain ⟨xs, e⟩ := hR1.some
      exact (ne_of_none e hD).symm
    have s1 : Same H1 (upd H1 D (.lst [])) := same_upd hD
    refine lc_range (lo := 0) (n := n.toNat) (fun i H' => Row K H' r a ns ∧ Fr1 r H1 H' ∧ ∃ ks : List Int, H' D = some (.lst (ks.map V.int)) ∧ ks.length = i ∧ ∀ k ∈ ks, 0 ≤ k ∧ k ≤ 29)
      ⟨hR1.same s1, Fr1.of s1, [], upd_same, rfl, fun k hk => absurd hk (by simp)⟩ ?_ ?_
    · rintro i H' hi ⟨hR', f', ks, eD, hl, hv⟩
      refine ⟨rfl, ?_⟩
      refine yes_then ?_
      refine ⟨_, rfl, _, rfl, r, a, ns, 30, rfl, by decide, by decide, hR', fun H2 v v0 v1 hR2 f2 => ⟨(by show 6 ≤ sizeLine; decide), fun t ht => ?_⟩⟩
      have s3 : Same H2 (upd H2 t (.lst [.int 0, .int 1, .int 1, .int 3, .int 10, .int v])) := same_upd ht
      have ntr : t ≠ r := by
        obtain ⟨xs, e⟩ := hR2.some
        exact (ne_of_none e ht).symm
      refine ⟨r, t, a, ns, _, rfl, hR2.same s3, upd_same, ntr, by simp, (by show 6 < 1000; decide), fun H4 x hx hR4 f4 => ?_⟩
      have fr4 : Fr1 r H' H4 := (f2.trans (Fr1.of s3)).trans f4
      have eD4 : H4 D = some (.lst (ks.map V.int)) := fr4 D _ nDr eD
      obtain ⟨z, rfl, z0, z1⟩ : ∃ z : Int, x = V.int z ∧ 0 ≤ z ∧ z ≤ 29 := by
        simp only [List.not_mem_nil, List.mem_cons, or_false] at hx
        rcases hx with h | h | h | h | h | h
        · exact ⟨0, h, by decide, by decide⟩
        · exact ⟨1, h, by decide, by decide⟩
        · exact ⟨1, h, by decide, by decide⟩
        · exact ⟨3, h, by decide, by decide⟩
        · exact ⟨10, h, by decide, by decide⟩
        · exact ⟨v, h, by omega, by omega⟩
      have e5 : upd H4 D (.lst (ks.map V.int ++ [V.int z])) r = H4 r := upd_ne nDr.symm
      have f5 : Fr1 r H1 (upd H4 D (.lst (ks.map V.int ++ [V.int z]))) := fun b o hb e => by
        rw [upd_ne (ne_of_none e hD)]
        exact fr4 b o hb (f' b o hb e)
      refine ⟨ks.map V.int, eD4, ?_, hR1.on hR4 e5 f5, f5, ks ++ [z], ?_, by simp [hl], fun k hk => ?_⟩
      · rw [List.length_map]
        exact small1000 (by omega)
      · rw [upd_same, List.map_append]
        rfl
      · rcases List.mem_append.mp hk with h | h
        · exact hv k h
        · simp at h
          rw [h]
          exact ⟨z0, z1⟩
    · rintro H' ⟨hR', f', ks, eD, hl, hv⟩
      -- the answer: what was found, and one picked weight more
      have f7 : Fr1 r H H' := f1.trans f'
      refine ⟨_, rfl, D, _, rfl, .inl ⟨SqL.of eD, fun T hT => ?_⟩⟩
      have s8 : Same H' (upd H' T (.tup (ks.map V.int))) := same_upd hT
      refine ⟨_, rfl, (by show 3 ≤ sizeLine; decide), fun t ht => ?_⟩
      have s9 : Same (upd H' T (.tup (ks.map V.int))) (upd (upd H' T (.tup (ks.map V.int))) t (.lst [.int 1, .int 2, .int 5])) := same_upd ht
      have hR9 := (hR'.same s8).same s9
      have ntr : t ≠ r := by
        obtain ⟨xs, e⟩ := (hR'.same s8).some
        exact (ne_of_none e ht).symm
      refine ⟨r, t, a, ns, _, rfl, hR9, upd_same, ntr, by simp, by decide, fun H5 x hx hR5 f5 => ?_⟩
      obtain ⟨z, rfl, z0, z1⟩ : ∃ z : Int, x = V.int z ∧ 1 ≤ z ∧ z ≤ 29 := by
        simp only [List.not_mem_nil, List.mem_cons, or_false] at hx
        rcases hx with h | h | h
        · exact ⟨1, h, by decide, by decide⟩
        · exact ⟨2, h, by decide, by decide⟩
        · exact ⟨5, h, by decide, by decide⟩
      refine ⟨(by show 1 ≤ sizeLine; decide), fun u hu => ?_⟩
      have s10 : Same H5 (upd H5 u (.tup [.int z])) := same_upd hu
      have f10 : Fr1 r H (upd H5 u (.tup [.int z])) := ((f7.trans (Fr1.of (s8.trans s9))).trans f5).trans (Fr1.of s10)
      have nTr : T ≠ r := by
        obtain ⟨xs, e⟩ := hR'.some
        exact (ne_of_none e hT).symm
      have eT : upd H5 u (.tup [.int z]) T = some (.tup (ks.map V.int)) := s10 _ _ (f5 T _ nTr (s9 _ _ upd_same))
      have hc : Cl (ks ++ [z]) := ⟨by simp; omega, fun k hk => by
        rcases List.mem_append.mp hk with h | h
        · exact hv k h
        · simp at h
          omega, ks, z, rfl, z0⟩
      refine ⟨T, u, _, _, rfl, rfl, SqT.of eT, SqT.of upd_same, ?_, fun e => ?_, fun _ e => (by cases e), fun _ _ p hp => ?_⟩
      · rw [List.length_map]
        exact Nat.le_of_lt (small1000 (by simp; omega))
      · refine q _ u _ hc ?_ (hR5.same s10) f10
        rw [upd_same]
        have : ks = [] := by simpa using e
        rw [this]
        rfl
      · have s11 : Same (upd H5 u (.tup [.int z])) (upd (upd H5 u (.tup [.int z])) p (.tup (ks.map V.int ++ [.int z]))) := same_upd hp
        refine q _ p _ hc ?_ ((hR5.same s10).same s11) (f10.trans (Fr1.of s11))
        rw [upd_same, List.map_append]
        rfl
end
end Sh
set_option Elab.async false
set_option linter.all false
set_option maxRecDepth 100000
set_option maxHeartbeats 3900000
namespace Sh
open PySem.Spec PySem L2 PyProof.Rows
/-! ### sum of a tuple of ints -/
/-- the house has the list's; here the walk is a tuple's -/
theorem sum_tup {prog : Program} {w : World} {A : Around} {E Q : Value → Shared → Prop} {s : Shared} {a : Addr} {its : List Value} {ns : List Int} (no : A.handled = none) (tup : s.heap.IsTuple a its.toArray) (iv : IntsAre its ns)
    (post : ∀ h' tk t', (∀ b o, s.heap.get? b = some o → h'.get? b = some o) → Q (.int ns.sum t') { s with heap := h', toks := tk }) : wpAny (model prog w) A (call (.builtin "sum") [.ref a]) Q E s := by
  have lt : a < s.heap.objs.size := tup.elim fun _ q => Heap.lt_size q.1
  obtain ⟨xs, ex⟩ := iv.allInts.items
  have all : xs.toList.map (·.1) = ns := by
    rw [← nums_intItems, ← ex]
    exact iv.numsOf
  have len : (intItems xs).size = xs.size := by simp [intItems]
  have val : preSum (numAt xs) (intItems xs).size = ns.sum := by
    rw [len, preSum_eq, all]
    exact congrArg List.sum (List.take_of_length_le (by rw [← all]; simp))
  rw [ex] at tup
  have walk := Walks.tuple (prog := prog) (w := w) (A := A.in1) no s.heap.objs.size a (Nat.ne_of_lt lt) (intItems xs)
  refine call_sum_walkG (wpAny_pyIter_tuple tup ⟨_, _, _, _, _, _, numAt xs, rfl, walk, ⟨⟨_, Heap.get?_push_size _ rfl, rfl, rfl⟩, tup.push _⟩, fun b hb => ?_, fun _ _ => intItems_at, fun h' tk t' old => ?_⟩)
  · show b < (Heap.push s.heap _).objs.size
    rw [Heap.size_push]
    have z : b = s.heap.objs.size ∨ b = a := by simpa using hb
    rcases z with z | z <;> rw [z]
    · exact Nat.lt_succ_self _
    · exact Nat.lt_succ_of_lt lt
  · rw [val]
    refine post h' tk t' fun b o e => old b o (fun z => ?_) (Heap.get?_push_of_some _ e)
    have z : b = s.heap.objs.size := by simpa using z
    exact Nat.ne_of_lt (Heap.lt_size e) z
section
variable {X : Cx}
def rSumT (K : PySem.W.Frag) : List V → Hp → VK → Prop := fun vs H Q => ∃ (a : Addr) (ns : List Int), vs = [V.ref a] ∧ SqT K H a (ns.map V.int) ∧ Q (.int ns.sum) H
theorem cr_sumT (hc : X.calm = true) : CallR X (.builtin "sum") (rSumT X.K) := by
  rintro pins s σ H vs us Q I r ⟨a, ns, rfl, sq, q⟩
  obtain ⟨its, vals, tup, _⟩ := I.tuple sq
  have tup : s.heap.IsTuple a its.toArray := tup
  rw [Vals.ref1 r]
  exact sum_tup (I.ok.hd hc) tup vals.ints fun h' tk t' old => ⟨.int ns.sum, H, I.kept old, ⟨t', rfl⟩, q⟩
end
end Sh
set_option Elab.async false
set_option linter.all false
set_option maxRecDepth 100000
set_option maxHeartbeats 3900000
/-! all(test for x in a tuple of ints) where the test may call a def: the house has it over a text's signs (GxR); here over a tuple, with a bound on the depth and the units that the test has left. -/
namespace Sh
open PySem PySem.Spec PyProof.Rows L2 GxR
theorem all_at (pb : Int → Bool) : ∀ l : List Int, ((List.range l.length).all fun j => (l[j]?).any pb) = l.all pb
  | [] => rfl
  | x :: l => by
    rw [List.length_cons, List.range_succ_eq_map, List.all_cons, List.all_map, List.all_cons, ← all_at pb l]
    rfl
/-- the def's code table, from ps in h to ps' in h': a code object may have come, all else stands -/
structure Grown (P : Addr) (ps ps' : Array Value) (h h' : Heap) : Prop where
  but : Heap.ExtBut P h h'
  le : h.objs.size ≤ h'.objs.size
  here : h'.get? P = some (PySem.W.tabObj ps')
  more : ∃ qs, ps' = ps ++ qs
  trip : TriplesOk ps'.toList
/-- the code of a generator expression, met for the first time or again -/
theorem gen_code {prog : Program} {w : World} {A : Around} {env : Env} {c P : Addr} {ps : Array Value} {at_ : Pos} {q : Str} {sc : Scope} {Q E : Value → Shared → Prop} {s : Shared} (ec : env.code = .ref c) (hd : PySem.W.CodeHd s.heap c P)
    (hP : s.heap.get? P = some (PySem.W.tabObj ps)) (tr : TriplesOk ps.toList) (next : ∀ code h' tk ps', Grown P ps ps' s.heap h' → Q code { s with heap := h', toks := tk }) : wpAny (model prog w) A (genexprCode env at_ q sc) Q E s := by
  have old := hd.code hP tr
  cases z : codeAmong at_ ps.toList with
  | some v => exact wpAny_genexprCode_hit ec old z (next v s.heap s.toks ps ⟨.refl P _, Nat.le_refl _, hP, ⟨#[], Array.append_empty.symm⟩, tr⟩)
  | none =>
    exact wpAny_genexprCodeX ec old (hd.tab hP) z fun c' h' tk hx le lt new _ tab _ =>
      let ⟨_, _, _, _, _, _, _, _, _, _, _, _, _, _, _, _, _, _, _, t, _⟩ := new
      next _ h' tk _ ⟨hx, Nat.le_trans le (Nat.le_of_lt lt), tab.2, ⟨_, rfl⟩, t⟩
section
variable {σ : L2.St} {H : Hp} {s : Shared} {X : Cx} {pins : List (Addr × Obj)}
/-- the element: a test of the int n, with room for one call more than the def has -/
def EltI (X : Cx) (scope : Scope) (x : Str) (elt : Expr) (pb : Int → Bool) : Prop :=
  ∀ (cenv : Env) (A' : Around) (E' : Value → Shared → Prop) (n : Int) (t : Tok) (s₂ : Shared) (m₂ : Str → Option Value), cenv.scope = scope → cenv.globals = mainGlobals → cenv.builtins = builtinsNs → A'.handled = none → A'.depth ≤ X.A.depth + 1 → A'.units ≤ X.A.units + 8 →
    Mod X.K X.mg X.base → (∀ b o, X.base.get? b = some o → s₂.heap.get? b = some o) → s₂.heap.Ns cenv.locals m₂ → m₂ x = some (.int n t) →
    wpAny (model X.prog X.w) A' (eval elt cenv) (fun y s₃ => y = .bool (pb n) ∧ Keeps s₂ s₃) E' s₂
theorem vals_at {ns : List Int} {its : List Value} (r : Vals (ns.map V.int) its) {i : Nat} {v : Value} (h : its.toArray[i]? = some v) : ∃ n t, ns[i]? = some n ∧ v = .int n t := by
  have h2 : its[i]? = some v := by simpa using h
  have hl := r.length
  have hi : i < its.length := (List.getElem?_eq_some_iff.mp h2).1
  have hi2 : i < ns.length := by rw [List.length_map] at hl; omega
  have e : (ns.map V.int)[i]? = some (V.int ns[i]) := by rw [List.getElem?_map, List.getElem?_eq_getElem hi2]; rfl
  obtain ⟨u, hu, t, hr⟩ := r.get e
  rw [h2] at hu
  cases hu
  exact ⟨ns[i], t, List.getElem?_eq_getElem hi2, hr⟩
theorem two {b x y : Addr} (h : b ∈ [x, y]) : b = x ∨ b = y := by simpa using h
theorem one {b x : Addr} (h : b ∈ [x]) : b = x := by simpa using h
/-- what holds of the generator g in the state s5, made where H1 held: it yields the tests of ns in turn, and any walk of it leaves H1 but for the table -/
def ReadyI (X : Cx) (pins : List (Addr × Obj)) (σ : L2.St) (H1 : Hp) (P : Addr) (ns : List Int) (pb : Int → Bool) (g : Addr) (s5 : Shared) : Prop :=
  ∃ fp wr Gp F St, WalksS X.prog X.w X.A.in1 g fp wr Gp ns.length F St ∧ St 0 s5 ∧ TruthOf X.prog X.w X.A.in1 F (fun j => (ns[j]?).any pb) ∧ ∀ s', Moved wr Gp s5 s' → ∃ H2, Tabbed P H1 H2 ∧ Inv X pins σ H2 s'
theorem gen_tup {c P : Addr} {elt iter : Expr} {x : Str} {px gpos : Pos} {scope : Scope} {pb : Int → Bool} {te : TE} {k : Nat} {Q' : Value → Shared → Prop} {R : List Int → Hp → Prop}
    (room : Room k X.A) (TB : TabB X.base X.mg c P) (ec : X.env.code = .ref c) (sc : GenS X.env scope x) (it : PE X iter te) (el : EltI X scope x elt pb) (nf : ∀ v, genFold iter X.env v = pure v)
    (I : Inv X pins σ H s) (h : te σ H fun v H1 => ∃ (a : Addr) (ns : List Int), v = .ref a ∧ SqT X.K H1 a (ns.map V.int) ∧ TabG H1 P ∧ R ns H1) (post : ∀ ns H1 g s5, R ns H1 → ReadyI X pins σ H1 P ns pb g s5 → Q' (.ref g) s5) : wpAny (model X.prog X.w) X.A (eval (.GeneratorExp elt [⟨.Name x px, iter, [], 0⟩] scope gpos) X.env) Q' X.xe s := by
  have dp : X.A.depth < recursionLimit := by
    have := room.dp
    omega
  refine wpAny_GeneratorExp_walksQD room.hd sc.co (closure_ok sc.free) sc.cell sc.dot sc.loc sc.kind dp (thn (it.run pins s σ H _ I h) fun xv s1 r => ?_) nf
  obtain ⟨_, H1, J, rep, a, ns, rfl, sq, ⟨ps, tb, tr⟩, hR⟩ := r
  cases rep
  obtain ⟨its, vs, tup, _⟩ := J.tuple sq
  have tup : s1.heap.IsTuple a its.toArray := tup
  -- the old heap
  have tP : s1.heap.get? P = some (PySem.W.tabObj ps) := J.hok P _ tb
  have ltP := Heap.lt_size tP
  have ltA : a < s1.heap.objs.size := tup.elim fun _ e => Heap.lt_size e.1
  have ltS : cStatics < s1.heap.objs.size := J.nolimit.elim fun _ e => e.1.lt
  have nAP : a ≠ P := fun z => by
    obtain ⟨u, e1, e2, _⟩ := tup
    rw [z, tP] at e1
    cases e1
    cases e2
  have nSP : cStatics ≠ P := fun z => by
    obtain ⟨_, ⟨u, _, _, e1, e2, _⟩, _⟩ := J.nolimit
    rw [z, tP] at e1
    cases e1
    cases e2
  have nBP : ∀ b u, X.base.get? b = some u → b ≠ P := fun b u e z => by
    have q := (J.bs b u e).2
    rw [z, tb] at q
    cases q
  -- the iterator
  refine wpAny_pyIter_tuple tup ?_
  generalize ho : ({ cls := .type "tuple_iterator", data := .fields #[.ref a, .int 0 0] } : Obj) = o
  have up : ∀ {b u}, s1.heap.get? b = some u → (s1.heap.push o).get? b = some u := fun e => Heap.get?_push_of_some _ e
  have sz : (s1.heap.push o).objs.size = s1.heap.objs.size + 1 := Heap.size_push ..
  have fresh : (s1.heap.push o).IsTupleIter s1.heap.objs.size a 0 := ⟨_, Heap.get?_push_size _ (by rw [← ho]; rfl), by rw [← ho], by rw [← ho]; rfl⟩
  have walk := fun (A' : Around) (no : A'.handled = none) => Walks.tuple (prog := X.prog) (w := X.w) (A := A') no s1.heap.objs.size a (Nat.ne_of_lt ltA) its.toArray
  refine ⟨J.nolimit.push o, gen_code ec (TB.code.keeps fun b u e => up (J.bk b u e)) (up tP) tr fun code h3 tk ps' gw => ?_⟩
  have keep : ∀ b u, b ≠ P → s1.heap.get? b = some u → h3.get? b = some u := fun b u n e => gw.but b u n (up e)
  have le3 : s1.heap.objs.size < h3.objs.size := Nat.lt_of_lt_of_le (show s1.heap.objs.size < (s1.heap.push o).objs.size by omega) gw.le
  obtain ⟨bm, ob, m1, m2, _, m4, m5, m6, m7, m8⟩ := TB.bm
  have glob : h3.Ns X.env.globals X.mg := by
    rw [J.ok.glob]
    exact ((J.mod.glob.keeps J.bk).push o).extBut gw.but TB.gP
  refine wpAny_builtinsFor glob m1 m2 (keep bm ob m4 (J.bk bm ob m5)) m6 m7 m8 ⟨_, _, _, _, _, _, fun _ => true, fun i y => ∃ n, ns[i]? = some n ∧ y = .bool (pb n), rfl, walk, ?_, fun b hb => ?_, (J.nolimit.push o).extBut gw.but nSP, fun z => Nat.ne_of_lt ltS (one z), fun href kh => ⟨?_, ?_⟩, ?_⟩
  · refine (walk X.A room.hd).frame _ _ _ ⟨fresh, tup.push _⟩ fun b hb u e => gw.but b u (fun z => ?_) e
    rcases two hb with q | q
    · exact Nat.ne_of_lt ltP (z.symm.trans q)
    · exact nAP (q.symm.trans z)
  · rcases two hb with q | q
    · rw [q]
      exact le3
    · rw [q]
      exact Nat.lt_trans ltA le3
  · intro A' E' i v s₂ m₂ _ _ _ _ _ _ _
    rw [List.forIn_nil]
    exact wpAny_pure ⟨rfl, keeps_refl s₂⟩
  · intro A' E' i v s₂ m₂ no dA uA at_ _ loc nam k2
    obtain ⟨n, u, en, rfl⟩ := vals_at vs at_
    have kb : ∀ b o, X.base.get? b = some o → s₂.heap.get? b = some o := fun b u e => by
      have e1 := J.bk b u e
      have lb := Heap.lt_size e1
      exact k2 b (List.mem_range.mpr (Nat.lt_trans lb le3)) (fun z => Nat.ne_of_lt lb (one z)) u (kh b u (keep b u (nBP b u e) e1))
    exact wpAny_mono (el _ A' E' n u s₂ m₂ rfl J.ok.glob rfl no dA uA J.mod kb loc nam) (fun _ _ r => ⟨⟨n, en, r.1⟩, r.2⟩) fun _ _ => id
  · intro g h5 tk5 gs bare lt5 sz5 k5 W5 start
    have len : its.toArray.size = ns.length := by
      rw [List.size_toArray, ← vs.length, List.length_map]
    rw [len] at start
    simp only [GxR.passing_true, List.length_range, len] at W5
    refine post ns H1 g _ hR ⟨_, _, _, _, _, W5.in4_1, start, ?_, fun s' mv => ?_⟩
    · rintro j _ sj Qj Ej ⟨i, ei, n, en, rfl⟩ q
      obtain ⟨lt, e⟩ := List.getElem?_eq_some_iff.mp ei
      rw [List.getElem_range] at e
      subst e
      replace q : Qj ((ns[j]?).any pb) sj := q
      rw [en] at q
      exact wpAny_truthy_bool q
    · obtain ⟨qs, eq⟩ := gw.more
      have far : ∀ {b u}, s1.heap.get? b = some u → b ∉ h3.objs.size :: [s1.heap.objs.size] := fun {b u} e z => by
        have lb := Heap.lt_size e
        rcases two z with q | q
        · exact Nat.ne_of_lt (Nat.lt_trans lb le3) q
        · exact Nat.ne_of_lt lb q
      have tail : s'.heap.get? P = some (PySem.W.tabObj (ps ++ qs)) := by
        rw [← eq]
        exact mv.heap P _ (far tP) (k5 P _ gw.here)
      have J2 := inv_tab (d' := s'.drawn) (t' := s'.toks) J tb (fun b u n e => mv.heap b u (far e) (k5 b u (keep b u n e))) tail (AllBare.movedS (J.bare.push bare) mv)
      rw [sh_eta s1 s' mv.os] at J2
      refine ⟨_, ⟨⟨ps ++ qs, upd_same, ?_⟩, fun b n => upd_ne n⟩, J2⟩
      rw [← eq]
      exact gw.trip
/-- all(test for x in e), e a tuple of ints: behind it the def's table may have grown -/
def tAllI (K : PySem.W.Frag) (P : Addr) (pb : Int → Bool) (te : TE) : TE := fun σ H Q => te σ H fun v H1 => ∃ (a : Addr) (ns : List Int), v = .ref a ∧ SqT K H1 a (ns.map V.int) ∧ TabG H1 P ∧ ∀ H2, Tabbed P H1 H2 → Q (.bl (ns.all pb)) H2
theorem pe_allI {c P : Addr} {elt iter : Expr} {x : Str} {px p pos gpos : Pos} {scope : Scope} {pb : Int → Bool} {te : TE} {k : Nat} (room : Room k X.A) (gl : Gl X "all") (no : X.mg "all" = none) (boot : bootBuiltins "all" = some (.builtin "all")) (TB : TabB X.base X.mg c P)
    (ec : X.env.code = .ref c) (sc : GenS X.env scope x) (it : PE X iter te) (el : EltI X scope x elt pb) (nf : ∀ v, genFold iter X.env v = pure v)
    (args : starEach [.GeneratorExp elt [⟨.Name x px, iter, [], 0⟩] scope gpos] X.env = (false, eval (.GeneratorExp elt [⟨.Name x px, iter, [], 0⟩] scope gpos) X.env) :: starEach [] X.env := by rfl) : PE X (.Call (.Name "all" p) [.GeneratorExp elt [⟨.Name x px, iter, [], 0⟩] scope gpos] [] pos) (tAllI X.K P pb te) := by
  constructor
  intro pins s σ H Q I h
  refine wpAny_Call_Name_kw (ld_blt I gl no boot (PyProof.Rows.callWith_builtin1 ?_ args (by rfl)))
  rw [args]
  refine Calls.spliced_cons (gen_tup (R := fun ns H1 => ∀ H2, Tabbed P H1 H2 → Q (.bl (ns.all pb)) H2) room TB ec sc it el nf I h fun ns H1 g s5 r ⟨fp, wr, Gp, F, Sg, W, z, tr, after⟩ => Calls.spliced_nil (call_all_walkS (W.self 0 _ _ _ z ⟨g, fp, wr, Gp, _, F, Sg, _, rfl, W, z, tr, fun s' mv => ?_⟩)))
  obtain ⟨H2, tb, J⟩ := after s' mv
  rw [all_at pb ns]
  exact ⟨.bl (ns.all pb), H2, J, rfl, r H2 tb⟩
end
end Sh
set_option Elab.async false
set_option linter.all false
set_option maxRecDepth 100000
set_option maxHeartbeats 3900000
/-! The two tests that stand in generator expressions, by the library's raw steps. -/
namespace Sh
open PySem PySem.Spec PyProof.Rows L2 GxR
theorem bt_isinstance : bootBuiltins "isinstance" = some (.builtin "isinstance") := by decide +kernel
theorem bt_int : bootBuiltins "int" = some (.type "int") := by decide +kernel
theorem bt_bool : bootBuiltins "bool" = some (.type "bool") := by decide +kernel
theorem bt_str : bootBuiltins "str" = some (.type "str") := by decide +kernel
theorem bt_tuple : bootBuiltins "tuple" = some (.type "tuple") := by decide +kernel
theorem bt_list : bootBuiltins "list" = some (.type "list") := by decide +kernel
theorem bt_all : bootBuiltins "all" = some (.builtin "all") := by decide +kernel
theorem bt_sum : bootBuiltins "sum" = some (.builtin "sum") := by decide +kernel
theorem k_int_int {K : PySem.W.Frag} : PySem.W.kitOne K (.type "int") (.type "int") = some true := kit_ty (by decide +kernel)
theorem k_int_bool {K : PySem.W.Frag} : PySem.W.kitOne K (.type "int") (.type "bool") = some false := kit_ty (by decide +kernel)
theorem k_int_str {K : PySem.W.Frag} : PySem.W.kitOne K (.type "int") (.type "str") = some false := kit_ty (by decide +kernel)
theorem k_int_tuple {K : PySem.W.Frag} : PySem.W.kitOne K (.type "int") (.type "tuple") = some false := kit_ty (by decide +kernel)
theorem k_int_list {K : PySem.W.Frag} : PySem.W.kitOne K (.type "int") (.type "list") = some false := kit_ty (by decide +kernel)
theorem k_tuple_tuple {K : PySem.W.Frag} : PySem.W.kitOne K (.type "tuple") (.type "tuple") = some true := kit_ty (by decide +kernel)
theorem k_tuple_list {K : PySem.W.Frag} : PySem.W.kitOne K (.type "tuple") (.type "list") = some false := kit_ty (by decide +kernel)
/-- a frame's facts for raw steps -/
structure Raw (K : PySem.W.Frag) (mg : Str → Option Value) (base : Heap) (env : Env) (m : Str → Option Value) (h : Heap) : Prop where
  kind : env.scope.kind = .function
  glob : env.globals = mainGlobals
  blt : env.builtins = builtinsNs
  mod : Mod K mg base
  kb : ∀ b o, base.get? b = some o → h.get? b = some o
  ns : h.Ns env.locals m
section
variable {prog : Program} {w : World} {A : Around} {E : Value → Shared → Prop} {K : PySem.W.Frag} {mg : Str → Option Value} {base : Heap} {env : Env} {m : Str → Option Value} {s : Shared} {Q : Value → Shared → Prop}
theorem Raw.local_ (R : Raw K mg base env m s.heap) {x : Str} {px : Pos} {v : Value} (hx : env.kindOf x = some .local) (hm : m x = some v) (h : Q v s) (hd : (x == ("__debug__" : Str)) = false := by decide) : wpAny (model prog w) A (eval (.Name x px) env) Q E s :=
  wpAny_Name (wpAny_loadName_local R.kind hx R.ns hm h) hd
theorem Raw.glob_ (R : Raw K mg base env m s.heap) {x : Str} {px : Pos} {v : Value} (hx : env.kindOf x = some .globalImplicit) (hm : mg x = some v) (h : Q v s) (hd : (x == ("__debug__" : Str)) = false := by decide) : wpAny (model prog w) A (eval (.Name x px) env) Q E s :=
  Calls.Name_function_global R.kind hx (Calls.loadGlobal_global (by rw [R.glob]; exact R.mod.glob.keeps R.kb) hm h) hd
theorem Raw.blt_ (R : Raw K mg base env m s.heap) {x : Str} {px : Pos} {v : Value} (hx : env.kindOf x = some .globalImplicit) (hm : mg x = none) (hv : bootBuiltins x = some v) (h : Q v s) (hn : x ≠ "__name__" := by decide) (hd : (x == ("__debug__" : Str)) = false := by decide) : wpAny (model prog w) A (eval (.Name x px) env) Q E s := by
  obtain ⟨mb, h1, h2⟩ := R.mod.blt
  exact Calls.Name_function_global R.kind hx (Calls.loadGlobal_builtin (by rw [R.glob]; exact R.mod.glob.keeps R.kb) hm (by rw [R.blt]; exact h1.keeps R.kb) ((h2 x hn).trans hv) h) hd
/-- a look at the class of the frame's name, an int -/
theorem Raw.isi (R : Raw K mg base env m s.heap) {x T : Str} {Tn : String} {px pT p pos : Pos} {n : Int} {t : Tok} {b : Bool} (hx : env.kindOf x = some .local) (hm : m x = some (.int n t)) (hi : env.kindOf "isinstance" = some .globalImplicit) (hT : env.kindOf T = some .globalImplicit)
    (mI : mg "isinstance" = none) (mT : mg T = none) (bT : bootBuiltins T = some (.type Tn)) (e : PySem.W.kitOne K (.type "int") (.type Tn) = some b) (hQ : ∀ tk, Q (.bool b) { s with toks := tk }) (d1 : (x == ("__debug__" : Str)) = false := by decide) (d2 : (T == ("__debug__" : Str)) = false := by decide) (d3 : T ≠ "__name__" := by decide)
    (hs1 : starEach [.Name x px, .Name T pT] env = (false, eval (.Name x px) env) :: starEach [.Name T pT] env := by rfl) (hs2 : starEach [.Name T pT] env = (false, eval (.Name T pT) env) :: starEach [] env := by rfl) :
    wpAny (model prog w) A (eval (.Call (.Name "isinstance" p) [.Name x px, .Name T pT] [] pos) env) Q E s := by
  refine wpAny_Call_Name_kw (R.blt_ hi mI bt_isinstance ?_)
  refine PyProof.Rows.callWith_builtin1 ?_ hs1 (by rfl)
  rw [hs1]
  show wpAny _ _ (spliced ((false, eval (.Name x px) env) :: backTo pos (starEach [.Name T pT] env))) _ _ s
  refine Calls.spliced_cons (R.local_ hx hm ?_ d1)
  rw [hs2]
  show wpAny _ _ (spliced ((false, eval (.Name T pT) env) :: backTo pos (starEach [] env))) _ _ s
  refine Calls.spliced_cons (R.blt_ hT mT bT (Calls.spliced_nil ?_) d3 d2)
  exact PySem.W.kia_one PySem.W.kitx_int (R.mod.kin.keeps R.kb) True.intro e (fun z => nomatch z) hQ
theorem Raw.tok (R : Raw K mg base env m s.heap) (k : Nat) : Raw K mg base env m ({ s with toks := k } : Shared).heap := R
end
section
variable {X : Cx}
/-- the test for whole numbers: of an int it is True -/
theorem elt_isint {scope : Scope} {x : Str} {p1 p2 p3 p4 p5 p6 p7 p8 p9 p10 : Pos} (hk : scope.kind = .function) (hx : scope.names.lookup x = some .local) (hi : scope.names.lookup ("isinstance" : Str) = some .globalImplicit) (hI : scope.names.lookup ("int" : Str) = some .globalImplicit) (hB : scope.names.lookup ("bool" : Str) = some .globalImplicit)
    (mi : X.mg "isinstance" = none) (mI : X.mg "int" = none) (mB : X.mg "bool" = none) (d1 : (x == ("__debug__" : Str)) = false := by decide) :
    EltI X scope x (.BoolOp .And [.Call (.Name "isinstance" p1) [.Name x p2, .Name "int" p3] [] p4, .UnaryOp .Not (.Call (.Name "isinstance" p5) [.Name x p6, .Name "bool" p7] [] p8) p9] p10) (fun _ => true) := by
  intro cenv A' E' n t s₂ m₂ hs hg hb hA hd hu hM hkb hn hm
  have R : Raw X.K X.mg X.base cenv m₂ s₂.heap := ⟨by rw [hs]; exact hk, hg, hb, hM, hkb, hn⟩
  have kx : cenv.kindOf x = some .local := by show cenv.scope.names.lookup x = _; rw [hs]; exact hx
  have ki : cenv.kindOf "isinstance" = some .globalImplicit := by show cenv.scope.names.lookup _ = _; rw [hs]; exact hi
  have kI : cenv.kindOf "int" = some .globalImplicit := by show cenv.scope.names.lookup _ = _; rw [hs]; exact hI
  have kB : cenv.kindOf "bool" = some .globalImplicit := by show cenv.scope.names.lookup _ = _; rw [hs]; exact hB
  refine BoolOp_and (R.isi kx hm ki kI mi mI bt_int k_int_int (fun tk => ?_) d1)
  refine wpAny_truthy_bool ?_
  refine ite_tt (BoolOp_one (UnaryOp_ ?_))
  refine Raw.isi (s := { s₂ with toks := tk }) R kx hm ki kB mi mB bt_bool k_int_bool (fun tk2 => ?_) d1
  refine PyProof.Rows.not_of (wpAny_truthy_bool ?_)
  exact ⟨rfl, keeps_tok s₂ tk2⟩
end
end Sh
set_option Elab.async false
set_option linter.all false
set_option maxRecDepth 100000
set_option maxHeartbeats 3900000
namespace Sh
open PySem PySem.Spec PyProof.Rows L2 GxR
theorem scIsIn : FnScope ["value", "least", "most"] ["value", "least", "most"] (defScope sIsIn) := ⟨rfl, rfl, rfl, by decide +kernel, rfl, by decide +kernel, by decide +kernel⟩
section
variable {P : Program} {w : World} {A : Around} {E : Value → Shared → Prop} {K : PySem.W.Frag} {mg : Str → Option Value} {base : Heap}
/-- is_in called anywhere there is room, upon three ints -/
theorem call_is_in {f : Addr} {fd : FuncData} (F : Fun K "is_in" "is_in" sIsIn f fd) (mi : mg "isinstance" = none) (mI : mg "int" = none) (mB : mg "bool" = none) {s : Shared} {n lo hi : Int} {t t1 t2 : Tok} (hroom : A.depth < recursionLimit) (M : Mod K mg base) (kb : ∀ b o, base.get? b = some o → s.heap.get? b = some o) :
    wpAny (model P w) A (call (.ref f) [.int n t, .int lo t1, .int hi t2]) (fun y s₃ => y = .bool (decide (lo ≤ n) && decide (n ≤ hi)) ∧ Keeps s s₃) E s := by
  have b := F.binds (ps := ["value", "least", "most"]) fun _ _ _ _ _ _ us hl => match us, hl with | [_, _, _], _ => rfl
  obtain ⟨oc, od, kV, doc, pm, an, cv, ct, slots, rfl, lk, hcd⟩ := F.ex
  have KX : K.In s.heap := M.kin.keeps kb
  have lim : s.heap.NoLimit := M.nolimit.keeps kb
  refine wpAny_call (codeAny_call_function hroom (KX _ _ lk) rfl rfl rfl rfl (PySem.W.codeRec_of KX hcd) ?_)
  refine b s [.int n t, .int lo t1, .int hi t2] KX rfl _ _ _ _ ?_
  have hkind : ∀ y ∈ (["value", "least", "most"] : List Str).zip (([Value.int n t, Value.int lo t1, Value.int hi t2] : List Value) ++ []), (defScope sIsIn).names.lookup y.1 = some .local ∨ ((defScope sIsIn).names.lookup y.1 = some .cell ∧ ((cellsFrom (s.heap.objs.size + 1) (defScope sIsIn).names []).lookup y.1).isSome = true) := fun ⟨x, v⟩ hy => by
    rcases scIsIn.par x (List.of_mem_zip hy).1 with q | q
    · exact .inl q
    · exact Or.inr ⟨q, PySem.W.cellsFrom_some _ _ _ (.inl q)⟩
  refine wpAny_newFunctionEnv_cells scIsIn.kind hkind fun env he s1 x => ?_
  have inc := x.toInCall
  refine ⟨lim.keeps inc.keep, codeAny_func ?_⟩
  obtain ⟨h1, tk, es, hk⟩ := x.done
  subst es
  have sc : env.scope = defScope sIsIn := by rw [he]; rfl
  have kl : ∀ y : Str, env.kindOf y = (defScope sIsIn).names.lookup y := fun y => by show env.scope.names.lookup y = _; rw [sc]
  have Rw : Raw K mg base env (bindL env.kindOf ((["value", "least", "most"] : List Str).zip (([Value.int n t, Value.int lo t1, Value.int hi t2] : List Value) ++ [])) fun _ => none) h1 := ⟨by rw [sc]; rfl, by rw [he]; rfl, by rw [he]; rfl, M, fun b o e => hk b o (kb b o e), x.toInCall.ns⟩
  have nd : (["value", "least", "most"] : List Str).Nodup := by decide +kernel
  have g0 : bindL env.kindOf ((["value", "least", "most"] : List Str).zip (([Value.int n t, Value.int lo t1, Value.int hi t2] : List Value) ++ [])) (fun _ => none) "value" = some (.int n t) := bindL_get (i := 0) nd rfl rfl (by rw [kl]; decide +kernel)
  have g1 : bindL env.kindOf ((["value", "least", "most"] : List Str).zip (([Value.int n t, Value.int lo t1, Value.int hi t2] : List Value) ++ [])) (fun _ => none) "least" = some (.int lo t1) := bindL_get (i := 1) nd rfl rfl (by rw [kl]; decide +kernel)
  have g2 : bindL env.kindOf ((["value", "least", "most"] : List Str).zip (([Value.int n t, Value.int lo t1, Value.int hi t2] : List Value) ++ [])) (fun _ => none) "most" = some (.int hi t2) := bindL_get (i := 2) nd rfl rfl (by rw [kl]; decide +kernel)
  have k0 : env.kindOf "value" = some .local := by rw [kl]; decide +kernel
  have k1 : env.kindOf "least" = some .local := by rw [kl]; decide +kernel
  have k2 : env.kindOf "most" = some .local := by rw [kl]; decide +kernel
  have ki : env.kindOf "isinstance" = some .globalImplicit := by rw [kl]; decide +kernel
  have kI : env.kindOf "int" = some .globalImplicit := by rw [kl]; decide +kernel
  have kB : env.kindOf "bool" = some .globalImplicit := by rw [kl]; decide +kernel
  have K1 : ∀ k : Nat, Keeps s { s with heap := h1, toks := k } := fun k => ⟨h1, k, rfl, hk⟩
  refine wpAny_execs_cons (wpAny_Return_some ?_); refine BoolOp_and (Raw.isi (s := { s with heap := h1, toks := tk }) Rw k0 g0 ki kI mi mI bt_int k_int_int (fun tk1 => wpAny_truthy_bool (ite_tt ?_)))
  refine BoolOp_and (UnaryOp_ (Raw.isi (s := { s with heap := h1, toks := tk1 }) Rw k0 g0 ki kB mi mB bt_bool k_int_bool (fun tk2 => PyProof.Rows.not_of (wpAny_truthy_bool (wpAny_truthy_bool (ite_tt ?_))))))
  refine BoolOp_one ?_
  refine Compare_chain (Raw.local_ (s := { s with heap := h1, toks := tk2 }) Rw k1 g1 (chain_link (Raw.local_ (s := { s with heap := h1, toks := tk2 }) Rw k0 g0 (le_int ?_))))
  refine wpAny_truthy_bool ?_
  by_cases hlo : lo ≤ n
  · rw [decide_eq_true hlo]
    refine ite_tt (chain_last (Raw.local_ (s := { s with heap := h1, toks := tk2 }) Rw k2 g2 (le_int ?_)))
    exact ⟨rfl, K1 tk2⟩
  · rw [decide_eq_false hlo]
    refine ite_ff ?_
    exact ⟨rfl, K1 tk2⟩
end
end Sh
set_option Elab.async false
set_option linter.all false
set_option maxRecDepth 100000
set_option maxHeartbeats 3900000
namespace Sh
open PySem PySem.Spec PyProof.Rows L2 GxR
section
variable {X : Cx}
/-- the element of the second generator: a call of the def is_in -/
theorem elt_isin {scope : Scope} {x : Str} {p1 p2 p3 p4 p5 : Pos} {j k : Nat} {f : Addr} {fd : FuncData} {tw : Tok} (hr : Room k X.A) (F : Fun X.K "is_in" "is_in" sIsIn f fd) (gF : X.mg "is_in" = some (.ref f)) (gW : X.mg "MOST_WEIGHT" = some (.int 1000 tw))
    (hk : scope.kind = .function) (hx : scope.names.lookup x = some .local) (hi : scope.names.lookup ("is_in" : Str) = some .globalImplicit) (hW : scope.names.lookup ("MOST_WEIGHT" : Str) = some .globalImplicit)
    (mi : X.mg "isinstance" = none) (mI : X.mg "int" = none) (mB : X.mg "bool" = none) (d1 : (x == ("__debug__" : Str)) = false := by decide) :
    EltI X scope x (.Call (.Name "is_in" p1) [.Name x p2, .Constant (.int 0) j p3, .Name "MOST_WEIGHT" p4] [] p5) (fun n => decide (0 ≤ n) && decide (n ≤ 1000)) := by
  intro cenv A' E' n t s₂ m₂ hs hg hb hA hd hu hM hkb hn hm
  have R : Raw X.K X.mg X.base cenv m₂ s₂.heap := ⟨by rw [hs]; exact hk, hg, hb, hM, hkb, hn⟩
  have kx : cenv.kindOf x = some .local := by show cenv.scope.names.lookup x = _; rw [hs]; exact hx
  have ki : cenv.kindOf "is_in" = some .globalImplicit := by show cenv.scope.names.lookup _ = _; rw [hs]; exact hi
  have kW : cenv.kindOf "MOST_WEIGHT" = some .globalImplicit := by show cenv.scope.names.lookup _ = _; rw [hs]; exact hW
  refine wpAny_Call_Name_kw (R.glob_ ki gF ?_)
  have hs1 : starEach [.Name x p2, .Constant (.int 0) j p3, .Name "MOST_WEIGHT" p4] cenv = (false, eval (.Name x p2) cenv) :: starEach [.Constant (.int 0) j p3, .Name "MOST_WEIGHT" p4] cenv := rfl
  refine PySem.W.callWith_K (h₀ := X.base) hM.kin F.kp ?_ hs1 (by rfl)
  rw [hs1]
  show wpAny _ _ (spliced ((false, eval (.Name x p2) cenv) :: (false, eval (.Constant (.int 0) j p3) cenv) :: (false, eval (.Name "MOST_WEIGHT" p4) cenv) :: backTo p5 (starEach [] cenv))) _ _ s₂
  refine Calls.spliced_cons (R.local_ kx hm ?_ d1)
  refine Calls.spliced_cons (wpAny_Constant_int ?_)
  refine Calls.spliced_cons (Raw.glob_ (s := { s₂ with toks := s₂.toks + 1 }) R kW gW (Calls.spliced_nil ?_))
  refine ⟨hM.kin.keeps hkb, ?_⟩
  have rm : A'.depth < recursionLimit := by have := hr.dp; omega
  refine wpAny_mono (call_is_in (s := { s₂ with toks := s₂.toks + 1 }) F mi mI mB rm hM hkb) (fun y s3 r => ⟨r.1, ?_⟩) fun _ _ e => e
  obtain ⟨h', k', e, kk⟩ := r.2
  exact ⟨h', k', e, kk⟩
end
theorem tyT {K : PySem.W.Frag} {H : Hp} {a : Addr} {xs : List V} (h : SqT K H a xs) : TyX K H (.ref a) (.type "tuple") := by
  rcases h with (h | ⟨o, h⟩) | ⟨o, its, n, h1, h2, _⟩
  · exact .base (.tup h)
  · exact .fTuple h
  · exact .kTuple h1 h2
theorem genS_mk {env : Env} {scope : Scope} {x : Str} (kind : scope.kind = .function) (co : scope.isCoroutine = false) (h : (scope.names.all fun y => decide (y.2 ≠ .cell) && decide (y.2 ≠ .free)) = true) (dot : scope.names.lookup (".0" : Str) = some NameKind.local) (loc : scope.names.lookup x = some .local) : GenS env scope x := by
  refine ⟨kind, co, fun y hy => ?_, dot, loc, fun y hy e => ?_⟩
  · have q := List.all_eq_true.mp h y hy
    rw [Bool.and_eq_true] at q
    exact of_decide_eq_true q.1
  · have q := List.all_eq_true.mp h y hy
    rw [Bool.and_eq_true] at q
    exact absurd e (of_decide_eq_true q.2)
/-- a def whose code object is known -/
structure FunC (K : PySem.W.Frag) (x qual : Str) (st : Stmt) (f : Addr) (fd : FuncData) (c : Addr) : Prop where
  ex : ∃ (oc : Value) (od : Option Addr) (kV doc pm : Value) (an : Option Addr) (ct : Value) (osl : Array (Option Value)),
    fd = PySem.W.fnOf x qual (defArgs st) (defBody st) (defScope st) .none kV doc pm an (.ref c) ct ∧ K.lookup f = some ⟨oc, od, .func fd, osl⟩ ∧ PySem.W.codeIn K (.ref c) qual = true
  kp : (PySem.W.keepIn K (.ref f)) = true
theorem FunC.toFun {K : PySem.W.Frag} {x qual : Str} {st : Stmt} {f : Addr} {fd : FuncData} {c : Addr} (F : FunC K x qual st f fd c) : Fun K x qual st f fd := by
  obtain ⟨oc, od, kV, doc, pm, an, ct, osl, e1, e2, e3⟩ := F.ex
  exact ⟨⟨oc, od, kV, doc, pm, an, .ref c, ct, osl, e1, e2, e3⟩, F.kp⟩
section
variable {base : Heap} {mg : Str → Option Value} {K : PySem.W.Frag} {w : World} {P : Program}
theorem FunC.ok {x qual : Str} {st : Stmt} {f : Addr} {fd : FuncData} {c : Addr} {N ps : List Str} {k : Nat} {sp : Sp} (F : FunC K x qual st f fd c) (S : FnScope N ps (defScope st)) (len : ∀ vs H Q E, sp vs H Q E → vs.length = ps.length)
    (hbody : ∀ (A : Around) (outer : List Env) (s : Shared) (H : Hp) (vs : List V) (Q : VK) (E : XK), Room k (A.deeper (envOfC qual (defScope st) s.heap.objs.size f (.ref c))) → sp vs H Q E →
      ∃ t, PSs (cxOf CX0 P w K mg base N qual (defScope st) f (.ref c) A outer s H E).nox (defBody st) t ∧ t { nx := fun _ H' => Q .non H', rt := Q } (start N vs) H) : FnOk P w K mg base CX0 (k + 1) f fd ps sp := by
  obtain ⟨oc, od, kV, doc, pm, an, ct, osl, rfl, lk, hcd⟩ := F.ex
  refine fn_of lk hcd S len fun A out s H vs Q E hr hsp => ?_
  obtain ⟨t, h, q⟩ := hbody A out s H vs Q E hr hsp
  exact ⟨t, h.nox, q⟩
theorem scIsRatio : FnScope ["value"] ["value"] (defScope sIsRatio) := ⟨rfl, rfl, rfl, by decide +kernel, rfl, by decide +kernel, by decide +kernel⟩
def spIsRatio (K : PySem.W.Frag) (T : Addr) : Sp := fun vs H Q _ => ∃ (p : Addr) (q : Rat), vs = [.ref p] ∧ RA K H p q ∧ TabG H T ∧ ∀ H2, Tabbed T H H2 → Q (.bl true) H2
/-- what is not the table stands -/
theorem Tabbed.seqT {T : Addr} {H H2 : Hp} {a : Addr} {xs : List V} (h : Tabbed T H H2) (hT : TabG H T) (s : SqT K H a xs) : SqT K H2 a xs := by
  obtain ⟨ps, hP, _⟩ := hT
  rcases s with (s | ⟨o, s⟩) | s
  · exact .inl (.inl ((h.2 a (ne_of s hP (by intro z; cases z))).trans s))
  · exact .inl (.inr ⟨o, (h.2 a (ne_of s hP (by intro z; cases z))).trans s⟩)
  · exact .inr s
theorem ok_isratio {f c T : Addr} {fd : FuncData} (F : FunC K "is_ratio" "is_ratio" sIsRatio f fd c) (TB : TabB base mg c T) (mi : mg "isinstance" = none) (mI : mg "int" = none) (mB : mg "bool" = none) (mT : mg "tuple" = none) (mL : mg "len" = none) (mA : mg "all" = none) (mG : mg "gcd" = some (.builtin "math.gcd")) :
    FnOk P w K mg base CX0 1 f fd ["value"] (spIsRatio K T) := by
  refine F.ok scIsRatio (fun vs H Q E h => ?_) (fun A outer s H vs Q E hr h => ?_)
  · obtain ⟨p, q, rfl, _⟩ := h
    rfl
  · obtain ⟨p, q, rfl, hp, hT, k⟩ := h
    refine ⟨_, pss_cons (ps_if (PW.pt (pw_or (pt_not (pt_val (pe_callB call_isi (by rfl) mi bt_isinstance (pa_cons (pv 0) (pa_cons (pe_bltn (v := .ty "tuple") (by rfl) mT bt_tuple rfl) pa_nil)))))
        (pw_or1 (pt_cmpR op_ne (pe_callB call_len_seq (by rfl) mL PySem.boot_len (pa_cons (pv 0) pa_nil)) pe_int (nomark _))))) (pss_one (ps_ret pe_bl)) pss_nil)
      (pss_cons (ps_if (pt_not (pt_val (pe_allI (P := T) hr (by rfl) mA bt_all TB rfl (genS_mk rfl rfl (by decide +kernel) (by decide +kernel) (by decide +kernel)) (pv 0)
          (elt_isint rfl (by decide +kernel) (by decide +kernel) (by decide +kernel) (by decide +kernel) mi mI mB) (fun _ => rfl)))) (pss_one (ps_ret pe_bl)) pss_nil)
      (pss_one (ps_ret (pe_and (pe_cmpR op_gt (pe_ix ix_tup (pv 0) pe_int (fun _ _ => rfl)) pe_int (nomark _))
        (pe_one (pe_cmpR op_eq (pe_callBfun cr_gcd (by rfl) mG (pa_cons (pe_ix ix_tup (pv 0) pe_int (fun _ _ => rfl)) (pa_cons (pe_ix ix_tup (pv 0) pe_int (fun _ _ => rfl)) pa_nil))) pe_int (nomark _))))))), ?_⟩
    refine ⟨_, rfl, _, .ty "tuple", .type "tuple", .type "tuple", true, rfl, .ty "tuple", tyT hp, k_tuple_tuple, true, rfl, ?_⟩
    refine iteF ⟨_, rfl, p, _, rfl, .inr hp, rfl, _, rfl, ?_⟩
    refine iteF ?_
    refine ⟨_, rfl, p, [q.num, (q.den : Int)], rfl, hp, hT, fun H2 h2 => ⟨true, rfl, iteF ?_⟩⟩
    have hp2 := Tabbed.seqT h2 hT hp
    refine ⟨_, rfl, p, _, 1, _, rfl, rfl, hp2, atI_nat (j := 1) rfl, _, 0, rfl, rfl, decide (0 < (q.den : Int)), rfl, ?_⟩
    rw [decide_eq_true (den_posI q)]
    refine iteT ⟨_, rfl, p, _, 0, _, rfl, rfl, hp2, atI_nat (j := 0) rfl, _, rfl, p, _, 1, _, rfl, rfl, hp2, atI_nat (j := 1) rfl, _, _, rfl, rfl, ?_⟩
    have e : Nat.gcd q.num.natAbs ((q.den : Int)).natAbs = 1 := q.reduced
    show Q (.bl (decide (V.int ((Nat.gcd q.num.natAbs ((q.den : Int)).natAbs : Nat) : Int) = V.int 1))) H2
    rw [e]
    exact k H2 h2
end
end Sh
set_option Elab.async false
set_option linter.all false
set_option maxRecDepth 100000
set_option maxHeartbeats 3900000
namespace Sh
open PySem PySem.Spec PyProof.Rows L2 GxR
section
variable {base : Heap} {mg : Str → Option Value} {K : PySem.W.Frag} {w : World} {P : Program}
theorem scNeedClaims : FnScope ["claims", "most"] ["claims", "most"] (defScope sNeedClaims) := ⟨rfl, rfl, rfl, by decide +kernel, rfl, by decide +kernel, by decide +kernel⟩
/-- claims that the program takes (of at most six entries) -/
structure Ok6 (ks : List Int) : Prop where
  len : ks.length ≤ 6
  val : ∀ k ∈ ks, 0 ≤ k ∧ k ≤ 1000
  last : ∃ (init : List Int) (z : Int), ks = init ++ [z] ∧ 1 ≤ z
theorem Ok6.pos {ks : List Int} (h : Ok6 ks) : 1 ≤ ks.length := by
  obtain ⟨i, z, e, _⟩ := h.last
  rw [e]
  simp
def spNeedClaims (K : PySem.W.Frag) (T : Addr) : Sp := fun vs H Q _ => ∃ (p : Addr) (ks : List Int), vs = [.ref p, .int 13] ∧ SqT K H p (ks.map V.int) ∧ Ok6 ks ∧ TabG H T ∧ ∀ H2, Tabbed T H H2 → Q .non H2
theorem ok_needclaims {f c T fI : Addr} {fd fdI : FuncData} {tw : Tok} (F : FunC K "need_claims" "need_claims" sNeedClaims f fd c) (TB : TabB base mg c T) (FI : Fun K "is_in" "is_in" sIsIn fI fdI) (gI : mg "is_in" = some (.ref fI)) (gW : mg "MOST_WEIGHT" = some (.int 1000 tw))
    (mi : mg "isinstance" = none) (mI : mg "int" = none) (mB : mg "bool" = none) (mT : mg "tuple" = none) (mL : mg "len" = none) (mA : mg "all" = none) :
    FnOk P w K mg base CX0 1 f fd ["claims", "most"] (spNeedClaims K T) := by
  refine F.ok scNeedClaims (fun vs H Q E h => ?_) (fun A outer s H vs Q E hr h => ?_)
  · obtain ⟨p, ks, rfl, _⟩ := h
    rfl
  · obtain ⟨p, ks, rfl, hp, hk, hT, k⟩ := h
    refine ⟨_, pss_cons (ps_if (PW.pt (pw_or (pt_not (pt_val (pe_callB call_isi (by rfl) mi bt_isinstance (pa_cons (pv 0) (pa_cons (pe_bltn (v := .ty "tuple") (by rfl) mT bt_tuple rfl) pa_nil)))))
        (pw_or1 (pt_not (pt_chain op_le op_le pe_int (pe_callB call_len_seq (by rfl) mL PySem.boot_len (pa_cons (pv 0) pa_nil)) (pv 1)))))) pss_never pss_nil)
      (pss_one (ps_if (PW.pt (pw_or (pt_not (pt_val (pe_allI (P := T) hr (by rfl) mA bt_all TB rfl (genS_mk rfl rfl (by decide +kernel) (by decide +kernel) (by decide +kernel)) (pv 0)
          (elt_isin hr FI gI gW rfl (by decide +kernel) (by decide +kernel) (by decide +kernel) mi mI mB) (fun _ => rfl))))
        (pw_or1 (pt_cmpR op_eq (pe_ix ix_tup (pv 0) (pe_un un_neg pe_int) (fun _ _ => rfl)) pe_int (nomark _))))) pss_never pss_nil)), ?_⟩
    refine ⟨_, rfl, _, .ty "tuple", .type "tuple", .type "tuple", true, rfl, .ty "tuple", tyT hp, k_tuple_tuple, true, rfl, ?_⟩
    have h1 : (1 : Int) ≤ ((ks.map V.int).length : Int) := by
      rw [List.length_map]
      have := hk.pos
      omega
    have h2 : ((ks.map V.int).length : Int) ≤ 13 := by
      rw [List.length_map]
      have := hk.len
      omega
    refine iteF ⟨_, rfl, p, _, rfl, .inr hp, 1, _, rfl, rfl, decide ((1 : Int) ≤ ((ks.map V.int).length : Int)), rfl, ?_⟩
    rw [decide_eq_true h1]
    refine iteT ⟨_, rfl, _, _, rfl, rfl, decide (((ks.map V.int).length : Int) ≤ 13), rfl, ?_⟩
    rw [decide_eq_true h2]
    refine iteF ?_
    have hall : (ks.all fun n => decide (0 ≤ n) && decide (n ≤ 1000)) = true := List.all_eq_true.mpr fun n hn => by
      rw [decide_eq_true (hk.val n hn).1, decide_eq_true (hk.val n hn).2]
      rfl
    refine ⟨_, rfl, p, ks, rfl, hp, hT, fun H2 h2 => ⟨_, rfl, ?_⟩⟩
    rw [hall]
    refine iteF ?_
    have hp2 := Tabbed.seqT h2 hT hp
    obtain ⟨init, z, e, hz⟩ := hk.last
    have hat : atI (ks.map V.int) (-1) = some (.int z) := by
      rw [e, List.map_append]
      exact atI_last _ _
    refine ⟨_, rfl, 1, rfl, p, _, -1, _, rfl, rfl, hp2, hat, rfl, decide (V.int z = V.int 0), rfl, ?_⟩
    have e0 : decide (V.int z = V.int 0) = false := by
      have : z ≠ 0 := by omega
      simp [this]
    rw [e0]
    exact iteF (k H2 h2)
/-- two tables may have grown -/
structure Tb2 (T1 T2 : Addr) (H H' : Hp) : Prop where
  t1 : TabG H' T1
  t2 : TabG H' T2
  keep : ∀ b, b ≠ T1 → b ≠ T2 → H' b = H b
theorem tab_on {T T' : Addr} {H H2 : Hp} (h : Tabbed T H H2) (h' : TabG H T') : TabG H2 T' := by
  by_cases e : T' = T
  · rw [e]
    exact h.1
  · obtain ⟨ps, a, b⟩ := h'
    exact ⟨ps, (h.2 T' e).trans a, b⟩
theorem Tb2.of {T1 T2 : Addr} {H H1 H2 : Hp} (a : Tabbed T2 H H1) (b : Tabbed T1 H1 H2) : Tb2 T1 T2 H H2 :=
  ⟨b.1, tab_on b a.1, fun c h1 h2 => (b.2 c h1).trans (a.2 c h2)⟩
theorem scNeedLevel : FnScope ["claims", "level"] ["claims", "level"] (defScope sNeedLevel) := ⟨rfl, rfl, rfl, by decide +kernel, rfl, by decide +kernel, by decide +kernel⟩
/-- a level -/
structure Lv (q : Rat) : Prop where
  low : 0 ≤ q
  high : q < 1
  den : q.den ≤ 1000
theorem Lv.num {q : Rat} (h : Lv q) : 0 ≤ q.num ∧ q.num < q.den := by
  refine ⟨Rat.num_nonneg.mpr h.low, ?_⟩
  have k := (Rat.lt_iff q 1).mp h.high
  have e1 : (1 : Rat).den = 1 := rfl
  have e2 : (1 : Rat).num = 1 := rfl
  rw [e1, e2] at k
  omega
def spNeedLevel (K : PySem.W.Frag) (T1 T2 : Addr) : Sp := fun vs H Q _ => ∃ (p r : Addr) (ks : List Int) (q : Rat), vs = [.ref p, .ref r] ∧ SqT K H p (ks.map V.int) ∧ Ok6 ks ∧ RA K H r q ∧ Lv q ∧ TabG H T1 ∧ TabG H T2 ∧ ∀ H2, Tb2 T1 T2 H H2 → Q .non H2
theorem ok_needlevel {f fC fR T1 T2 : Addr} {fd fdC fdR : FuncData} {ta tb : Tok} (F : Fun K "need_level" "need_level" sNeedLevel f fd) (FC : Fun K "need_claims" "need_claims" sNeedClaims fC fdC) (GC : FnOk P w K mg base CX0 1 fC fdC ["claims", "most"] (spNeedClaims K T2)) (bC : Binds K fdC ["claims", "most"] []) (gC : mg "need_claims" = some (.ref fC))
    (FR : Fun K "is_ratio" "is_ratio" sIsRatio fR fdR) (GR : FnOk P w K mg base CX0 1 fR fdR ["value"] (spIsRatio K T1)) (bR : Binds K fdR ["value"] []) (gR : mg "is_ratio" = some (.ref fR)) (gA : mg "MOST_AMOUNTS" = some (.int 13 ta)) (gB : mg "MOST_BOTTOM" = some (.int 1000 tb)) :
    FnOk P w K mg base CX0 2 f fd ["claims", "level"] (spNeedLevel K T1 T2) := by
  refine F.ok scNeedLevel (fun vs H Q E h => ?_) (fun cdv A outer s H vs Q E hr h => ?_)
  · obtain ⟨p, r, ks, q, rfl, _⟩ := h
    rfl
  · obtain ⟨p, r, ks, q, rfl, hp, hk, hq, lv, hT1, hT2, k⟩ := h
    refine ⟨_, pss_cons (ps_expr (pe_call GC hr (by rfl) gC FC.kp bC .nil pass0 (pa_cons (pv 0) (pa_cons (pe_glob (v := .int 13) (by rfl) gA ⟨ta, rfl⟩) pa_nil))))
      (pss_one (ps_if (PW.pt (pw_or (pt_not (pt_val (pe_call GR hr (by rfl) gR FR.kp bR .nil pass0 (pa_cons (pv 1) pa_nil))))
        (pw_or (pt_cmpR op_gt (pe_ix ix_tup (pv 1) pe_int (fun _ _ => rfl)) (pe_glob (v := .int 1000) (by rfl) gB ⟨tb, rfl⟩) (nomark _))
        (pw_or1 (pt_not (pt_chain op_le op_lt pe_int (pe_ix ix_tup (pv 1) pe_int (fun _ _ => rfl)) (pe_ix ix_tup (pv 1) pe_int (fun _ _ => rfl)))))))) pss_never pss_nil)), ?_⟩
    refine ⟨_, rfl, p, ks, rfl, hp, hk, hT2, fun H1 h1 => ?_⟩
    have hq1 := Tabbed.seqT h1 hT2 hq
    have hT11 := tab_on h1 hT1
    refine ⟨_, rfl, r, q, rfl, hq1, hT11, fun H2 h2 => ⟨true, rfl, iteF ?_⟩⟩
    have hq2 : RA K H2 r q := Tabbed.seqT h2 hT11 hq1
    obtain ⟨n1, n2⟩ := lv.num
    refine ⟨_, rfl, r, _, 1, _, rfl, rfl, hq2, atI_nat (j := 1) rfl, _, 1000, rfl, rfl, decide ((1000 : Int) < (q.den : Int)), rfl, ?_⟩
    rw [decide_eq_false (by have := lv.den; omega)]
    refine iteF ⟨_, rfl, r, _, 0, _, rfl, rfl, hq2, atI_nat (j := 0) rfl, 0, _, rfl, rfl, decide ((0 : Int) ≤ q.num), rfl, ?_⟩
    rw [decide_eq_true n1]
    refine iteT ⟨_, rfl, r, _, 1, _, rfl, rfl, hq2, atI_nat (j := 1) rfl, _, _, rfl, rfl, decide (q.num < (q.den : Int)), rfl, ?_⟩
    rw [decide_eq_true n2]
    exact iteF (k H2 (Tb2.of h1 h2))
end
end Sh
set_option Elab.async false
set_option linter.all false
set_option maxRecDepth 100000
set_option maxHeartbeats 3900000
namespace Sh
open PySem.Spec PySem L2 PyProof.Rows
theorem Cl.ok {ks : List Int} (h : Sh.Cl ks) : Ok6 ks := ⟨h.len, fun k hk => ⟨(h.val k hk).1, by have := (h.val k hk).2; omega⟩, h.last⟩
theorem sum_nn : ∀ {ks : List Int}, (∀ k ∈ ks, 0 ≤ k ∧ k ≤ 1000) → 0 ≤ ks.sum ∧ ks.sum ≤ 1000 * ks.length
  | [], _ => by simp
  | k :: ks, h => by
    obtain ⟨a, b⟩ := h k List.mem_cons_self
    obtain ⟨c, d⟩ := sum_nn fun x hx => h x (List.mem_cons_of_mem _ hx)
    rw [List.length_cons, List.sum_cons]
    omega
theorem Ok6.sum_pos {ks : List Int} (h : Ok6 ks) : 0 < ks.sum := by
  obtain ⟨i, z, e, hz⟩ := h.last
  subst e
  have := (sum_nn (ks := i) fun k hk => h.val k (List.mem_append_left _ hk)).1
  rw [List.sum_append, List.sum_singleton]
  omega
theorem Ok6.sum_le {ks : List Int} (h : Ok6 ks) : ks.sum ≤ 6000 := by
  have := (sum_nn h.val).2
  have := h.len
  omega
theorem small13 {i : Int} (h0 : 0 ≤ i) (h : i ≤ 6000) : i.natAbs < 2 ^ 13 := by
  have : (2 : Nat) ^ 13 = 8192 := by decide
  omega
theorem Ok6.sz {ks : List Int} (h : Ok6 ks) : ∀ p ∈ ks.map (chR ks.sum), Sz 15 p := fun p hp => by
  obtain ⟨k, hk, rfl⟩ := List.mem_map.mp hp
  have := h.val k hk
  exact (sz_divInt (n := 13) h.sum_pos (small13 this.1 (by omega)) (small13 (by have := h.sum_pos; omega) h.sum_le)).mono (by decide)
theorem Ok6.nn {ks : List Int} (h : Ok6 ks) : Nn (ks.map (chR ks.sum)) := Nn_ch h.sum_pos fun k hk => (h.val k hk).1
/-- a store to a list leaves the ratios -/
theorem RA.updl {K : PySem.W.Frag} {H : Hp} {a D : Addr} {q : Rat} {xs : List V} {o : HO} (h : RA K H a q) (hD : H D = some (.lst xs)) : RA K (upd H D o) a q := by
  rcases h with (h | ⟨ob, h⟩) | h
  · exact .inl (.inl (by rw [upd_ne (ne_of h hD (by intro z; cases z))]; exact h))
  · exact .inl (.inr ⟨ob, by rw [upd_ne (ne_of h hD (by intro z; cases z))]; exact h⟩)
  · exact .inr h
theorem RAs.updl {K : PySem.W.Frag} {H : Hp} {as : List Addr} {qs : List Rat} {D : Addr} {xs : List V} {o : HO} (h : RAs K H as qs) (hD : H D = some (.lst xs)) : RAs K (upd H D o) as qs :=
  ⟨h.len, fun i a q h1 h2 => (h.at_ i a q h1 h2).updl hD⟩
theorem same_store {H H' : Hp} {D : Addr} {o : HO} (h : Same H H') (hD : H D = none) : Same H (upd H' D o) := fun b x e => by
  rw [upd_ne (ne_of_none e hD)]
  exact h b x e
theorem take_map_succ {ks : List Int} {f : Int → Rat} {i : Nat} {k : Int} (h : ks[i]? = some k) : (ks.take (i + 1)).map f = (ks.take i).map f ++ [f k] := by
  rw [List.take_add_one, h, List.map_append]
  rfl
theorem ints_at {ks : List Int} {i : Nat} {x : V} (h : (ks.map V.int)[i]? = some x) : ∃ k, ks[i]? = some k ∧ x = V.int k := by
  rw [List.getElem?_map] at h
  cases e : ks[i]? with
  | none =>
    rw [e] at h
    cases h
  | some k =>
    rw [e] at h
    exact ⟨k, rfl, (Option.some.inj h).symm⟩
/-- the chances of claims -/
def spChances (K : PySem.W.Frag) : Sp := fun vs H Q _ => ∃ (p : Addr) (ks : List Int), vs = [.ref p] ∧ SqT K H p (ks.map V.int) ∧ Ok6 ks ∧
  ∀ H' l as, Same H H' → H l = none → H' l = some (.lst (as.map V.ref)) → RAs K H' as (ks.map (chR ks.sum)) → Q (.ref l) H'
section
variable {base : Heap} {mg : Str → Option Value} {K : PySem.W.Frag} {w : World} {P : Program}
theorem scChancesOf : FnScope ["claims", "one"] ["claims"] (defScope sChancesOf) := ⟨rfl, rfl, rfl, by decide +kernel, rfl, by decide +kernel, by decide +kernel⟩
theorem ok_chances {f fR : Addr} {fd fdR : FuncData} (F : Fun K "chances_of" "chances_of" sChancesOf f fd) (FR : Fun K "ratio" "ratio" sRatio fR fdR) (GR : FnOk P w K mg base CX0 1 fR fdR ["top", "bottom"] spRatio) (bR : Binds K fdR ["top", "bottom"] []) (gR : mg "ratio" = some (.ref fR)) (mS : mg "sum" = none) :
    FnOk P w K mg base CX0 2 f fd ["claims"] (spChances K) := by
  refine F.ok scChancesOf (fun vs H Q E h => ?_) (fun cdv A outer s H vs Q E hr h => ?_)
  · obtain ⟨p, ks, rfl, _⟩ := h
    rfl
  · obtain ⟨p, ks, rfl, hp, hk, q⟩ := h
    refine ⟨_, pss_one (ps_ret (pe_lc (own := [("one", 1)]) (g := gName 1) rfl scChancesOf.nd (pi_tup (pv 0)) (blkOk_by (N := ["claims", "one"]) (sc := defScope sChancesOf) (by decide +kernel))
      (fun _ _ _ _ _ => pg_name (i := 1) scChancesOf.nd rfl (.inl rfl)) (fun _ _ _ _ _ => pts_nil)
      (fun _ _ _ _ _ => pe_call GR hr (by rfl) gR FR.kp bR .nil pass0 (pa_cons (pv 1) (pa_cons (pe_callB (show CallR _ (.builtin "sum") (rSumT K) from cr_sumT rfl) (by rfl) mS bt_sum (pa_cons (pv 0) pa_nil)) pa_nil))))), ?_⟩
    refine ⟨_, rfl, p, rfl, ⟨_, hp⟩, fun D hD => lc_tup (K := K) (a := p) (xs := ks.map V.int) (fun i H' => Same H H' ∧ ∃ as : List Addr, H' D = some (.lst (as.map V.ref)) ∧ RAs K H' as ((ks.take i).map (chR ks.sum)))
      ⟨same_upd hD, [], upd_same, RAs.nil⟩ (fun i H' _ h => seqT h.1 hp) ?_ ?_⟩
    · rintro i x H' hi ⟨s1, as, eD, hA⟩
      obtain ⟨k, hki, rfl⟩ := ints_at hi
      refine ⟨rfl, yes_then ?_⟩
      have hkk := hk.val k (List.mem_of_getElem? hki)
      have hs := hk.sum_pos
      refine ⟨_, rfl, _, rfl, p, ks, rfl, seqT s1 hp, k, ks.sum, rfl, hs, up (m := 13) (small13 hkk.1 (by omega)) (by decide), up (m := 13) (small13 (by omega) hk.sum_le) (by decide), fun t ht => ?_⟩
      have s2 : Same H' (upd H' t (rt (Rat.divInt k ks.sum))) := same_upd ht
      have eD2 := s2 _ _ eD
      have hA2 : RAs K (upd H' t (rt (Rat.divInt k ks.sum))) (as ++ [t]) ((ks.take (i + 1)).map (chR ks.sum)) := by
        rw [take_map_succ hki]
        exact (hA.same s2).snoc (RA.of upd_same)
      refine ⟨as.map V.ref, eD2, ?_, same_store (s1.trans s2) hD, as ++ [t], ?_, hA2.updl eD2⟩
      · rw [List.length_map, hA.len, List.length_map, List.length_take]
        exact small1000 (by have := hk.len; omega)
      · rw [upd_same, List.map_append]
        rfl
    · rintro H' ⟨s1, as, eD, hA⟩
      rw [List.take_of_length_le (by rw [List.length_map]; exact Nat.le_refl _)] at hA
      exact q H' D as s1 hD eD hA
end
end Sh
set_option Elab.async false
set_option linter.all false
set_option maxRecDepth 100000
set_option maxHeartbeats 3900000
namespace Sh
open PySem.Spec PySem L2 PyProof.Rows
/-- over enumerate(a list that the body leaves as it is): Pv i holds ahead of the turn i -/
theorem for_enum {K : PySem.W.Frag} {a : Addr} {xs : List V} {g : TG} {tb : TS} {D : Ends} {σ : L2.St} {H : Hp} (Pv : Nat → L2.St → Hp → Prop) (h0 : Pv 0 σ H) (hl : ∀ i σ H, i ≤ xs.length → Pv i σ H → SqL K H a xs)
    (hs : ∀ i x T σ H, xs[i]? = some x → Pv i σ H → H T = none → g (.ref T) σ (upd H T (.tup [.int ((i : Nat) : Int), x])) fun σ2 H2 => tb { D with nx := Pv (i + 1), ct := Pv (i + 1), bk := D.nx } σ2 H2) (hd : ∀ σ H, Pv xs.length σ H → D.nx σ H) :
    ∃ W : Nat → Nat → L2.St → Hp → Prop, (∃ m, W 0 m σ H) ∧
      ∀ i m σ H, W i m σ H → ((Ite K a).stop i H ∧ D.nx σ H) ∨ ((Ite K a).go i H ∧ ∃ N : L2.St → Hp → Prop, (∀ σ' H', N σ' H' → ∃ m', m' < m ∧ W (i + 1) m' σ' H') ∧ ∀ x H', (Ite K a).yld i H x H' → g x σ H' fun σ2 H2 => tb { D with nx := N, ct := N, bk := D.nx } σ2 H2) := by
  refine ⟨fun i m σ H => m + i = xs.length ∧ Pv i σ H, ⟨xs.length, rfl, h0⟩, fun i m σ H ⟨e, p⟩ => ?_⟩
  have le : i ≤ xs.length := by omega
  have sq := hl i σ H le p
  cases m with
  | zero =>
    have e : i = xs.length := by omega
    rw [e] at p
    exact .inl ⟨⟨xs, sq, by omega⟩, hd σ H p⟩
  | succ m =>
    have lt : i < xs.length := by omega
    have here : xs[i]? = some xs[i] := List.getElem?_eq_getElem lt
    refine .inr ⟨⟨xs, xs[i], sq, here⟩, Pv (i + 1), fun σ' H' p' => ⟨m, Nat.lt_succ_self m, by omega, p'⟩, ?_⟩
    rintro _ _ ⟨T, x, rfl, new, rfl, at_⟩
    exact hs i x T σ H (at_ xs sq) p new
theorem range_map_succ {f : Nat → Rat} (i : Nat) : (List.range (i + 1)).map f = (List.range i).map f ++ [f i] := by
  rw [List.range_succ, List.map_append]
  rfl
theorem getD_of {qs : List Rat} {i : Nat} {q : Rat} (h : qs[i]? = some q) : qs.getD i 0 = q := by
  rw [List.getD_eq_getElem?_getD, h]
  rfl
theorem RAs.at {K : PySem.W.Frag} {H : Hp} {as : List Addr} {qs : List Rat} (h : RAs K H as qs) {i : Nat} (hi : i < qs.length) : ∃ a q, (as.map V.ref)[i]? = some (V.ref a) ∧ qs[i]? = some q ∧ RA K H a q := by
  have h1 : i < as.length := by rw [h.len]; exact hi
  refine ⟨as[i], qs[i], ?_, List.getElem?_eq_getElem hi, h.at_ i _ _ (List.getElem?_eq_getElem h1) (List.getElem?_eq_getElem hi)⟩
  simp only [List.getElem?_map, List.getElem?_eq_getElem h1]
  rfl
def spLAbove (K : PySem.W.Frag) : Sp := fun vs H Q _ => ∃ (l : Addr) (e : Nat) (as : List Addr) (ps : List Rat), vs = [.ref l, .int (e : Int)] ∧ SqL K H l (as.map V.ref) ∧ RAs K H as ps ∧ ps.length ≤ 6 ∧ e ≤ 6 ∧ (∀ p ∈ ps, Sz 15 p) ∧
  ∀ H' p, Same H H' → H' p = some (rt (aboveR e ps)) → Q (.ref p) H'
def spExpected (K : PySem.W.Frag) : Sp := fun vs H Q _ => ∃ (p l : Addr) (ks : List Int) (as : List Addr) (us : List Rat), vs = [.ref p, .ref l] ∧ SqT K H p (ks.map V.int) ∧ Ok6 ks ∧ SqL K H l (as.map V.ref) ∧ RAs K H as us ∧ us.length = ks.length ∧ (∀ u ∈ us, Sz 240 u) ∧
  ∀ H' p, Same H H' → H' p = some (rt (tot ((List.range ks.length).map (termR (ks.map (chR ks.sum)) us)))) → Q (.ref p) H'
section
variable {base : Heap} {mg : Str → Option Value} {K : PySem.W.Frag} {w : World} {P : Program}
theorem scLAbove : FnScope ["_law_chances_here", "_law_edge", "_law_k"] ["_law_chances_here", "_law_edge"] (defScope sLAbove) := ⟨rfl, rfl, rfl, by decide +kernel, rfl, by decide +kernel, by decide +kernel⟩
theorem ok_labove {f fB fS : Addr} {fd fdB fdS : FuncData} (F : Fun K "_law_above" "_law_above" sLAbove f fd) (FB : Fun K "_law_by" "_law_by" sLBy fB fdB) (GB : FnOk P w K mg base CX0 2 fB fdB ["_law_one", "_law_other"] (spBin K (fun _ => True) (· * ·))) (bB : Binds K fdB ["_law_one", "_law_other"] []) (gB : mg "_law_by" = some (.ref fB))
    (FS : Fun K "_law_sum" "_law_sum" sLSum fS fdS) (GS : FnOk P w K mg base CX0 3 fS fdS ["_law_some"] (spSum K)) (bS : Binds K fdS ["_law_some"] []) (gS : mg "_law_sum" = some (.ref fS)) (mR : mg "range" = none) (mL : mg "len" = none) :
    FnOk P w K mg base CX0 4 f fd ["_law_chances_here", "_law_edge"] (spLAbove K) := by
  refine F.ok scLAbove (fun vs H Q E h => ?_) (fun cdv A outer s H vs Q E hr h => ?_)
  · obtain ⟨l, e, as, ps, rfl, _⟩ := h
    rfl
  · obtain ⟨l, e, as, ps, rfl, hL, hA, hlen, he, hsz, q⟩ := h
    have hr2 : Room 2 _ := hr.mono (j := 2) (by decide)
    refine ⟨_, pss_one (ps_ret (pe_call GS hr (by rfl) gS FS.kp bS .nil pass0 (pa_cons (pe_lc (own := [("_law_k", 2)]) (g := gName 2) rfl scLAbove.nd
        (pi_range2 (by rfl) mR (pa_cons (pe_op op_add (pv 1) pe_int) (pa_cons (pe_callB call_len_seq (by rfl) mL PySem.boot_len (pa_cons (pv 0) pa_nil)) pa_nil)))
        (blkOk_by (N := ["_law_chances_here", "_law_edge", "_law_k"]) (sc := defScope sLAbove) (by decide +kernel))
        (fun _ _ _ _ _ => pg_name (i := 2) scLAbove.nd rfl (.inl rfl)) (fun _ _ _ _ _ => pts_nil)
        (fun _ _ _ _ _ => pe_call GB hr2 (by rfl) gB FB.kp bB .nil pass0 (pa_cons (pe_tup (pa_cons (pe_op op_sub (pv 2) (pv 1)) (pa_cons pe_int pa_nil)))
          (pa_cons (pe_ix (show IxR _ (rIxL K) from ix_list) (pv 0) (pv 2) (fun _ _ => rfl)) pa_nil)))) pa_nil))), ?_⟩
    have hl2 : (as.map V.ref).length = ps.length := by rw [List.length_map, hA.len]
    refine ⟨_, rfl, _, _, rfl, rfl, _, rfl, l, _, rfl, .inl hL, _, _, rfl, ⟨by omega, by omega, by omega, by omega⟩, fun D hD => ?_⟩
    have en : (((as.map V.ref).length : Int) - ((e : Int) + 1)).toNat = ps.length - (e + 1) := by omega
    show ∃ W, _
    rw [en]
    refine lc_range (lo := (e : Int) + 1) (n := ps.length - (e + 1)) (fun i H' => Same H H' ∧ ∃ bs : List Addr, H' D = some (.lst (bs.map V.ref)) ∧ RAs K H' bs ((List.range i).map (abR e ps)))
      ⟨same_upd hD, [], upd_same, RAs.nil⟩ ?_ ?_
    · rintro i H' hi ⟨s1, bs, eD, hB⟩
      refine ⟨rfl, yes_then ?_⟩
      obtain ⟨a, p, ha, hp, hra⟩ := hA.at (i := e + 1 + i) (by omega)
      have ek : (e : Int) + 1 + (i : Int) - (e : Int) = ((i + 1 : Nat) : Int) := by omega
      refine ⟨_, rfl, _, rfl, _, _, rfl, rfl, (by show 2 ≤ sizeLine; decide), fun t ht => ?_⟩
      have s2 : Same H' (upd H' t (.tup [.int ((e : Int) + 1 + (i : Int) - (e : Int)), .int 1])) := same_upd ht
      have hT : RA K (upd H' t (.tup [.int ((e : Int) + 1 + (i : Int) - (e : Int)), .int 1])) t ((i + 1 : Nat) : Rat) := RA.of (by rw [upd_same, rt_nat, ek])
      refine ⟨_, rfl, _, rfl, l, _, _, _, rfl, rfl, (s1.trans s2).seq hL, at_of (j := e + 1 + i) (by omega) ha, ?_⟩
      have hsp := hsz p (List.mem_of_getElem? hp)
      refine ⟨t, a, _, p, rfl, hT, hra.same (s1.trans s2), (sz_nat (n := 4) (by omega) (by decide)).mono (by decide), hsp.mono (by decide), True.intro, fun u hu => ?_⟩
      have s3 := s2.trans (same_upd (o := rt (((i + 1 : Nat) : Rat) * p)) hu)
      have eD3 := s3 _ _ eD
      have ef : abR e ps i = ((i + 1 : Nat) : Rat) * p := by
        unfold abR
        rw [getD_of hp]
      refine ⟨bs.map V.ref, eD3, ?_, same_store (s1.trans s3) hD, bs ++ [u], ?_, ?_⟩
      · rw [List.length_map, hB.len, List.length_map, List.length_range]
        exact small1000 (by omega)
      · rw [upd_same, List.map_append]
        rfl
      · refine RAs.updl ?_ eD3
        rw [range_map_succ, ef]
        exact (hB.same s3).snoc (RA.of upd_same)
    · rintro H' ⟨s1, bs, eD, hB⟩
      refine ⟨D, bs, _, rfl, SqL.of eD, hB, ?_, fun x hx => ?_, fun H2 p s2 ep => q H2 p (s1.trans s2) ep⟩
      · simp only [List.length_map, List.length_range]
        omega
      · obtain ⟨i, hi, rfl⟩ := List.mem_map.mp hx
        have := List.mem_range.mp hi
        exact (sz_ab hsz (by omega)).mono (by decide)
end
end Sh
set_option Elab.async false
set_option linter.all false
set_option maxRecDepth 100000
set_option maxHeartbeats 3900000
namespace Sh
open PySem.Spec PySem L2 PyProof.Rows
/-- a ratio goes ahead of the list -/
theorem ins0 {α : Type} (xs : List α) (y : α) : xs.take (0 : Int).toNat ++ [y] ++ xs.drop (0 : Int).toNat = y :: xs := by simp
def spViewOf (K : PySem.W.Frag) : Sp := fun vs H Q _ => ∃ (p r : Addr) (ks : List Int) (lv : Rat), vs = [.ref p, .ref r] ∧ SqT K H p (ks.map V.int) ∧ Ok6 ks ∧ RA K H r lv ∧ Lv lv ∧
  ∀ H' l as, Same H H' → H l = none → H' l = some (.lst (as.map V.ref)) → RAs K H' as (viewR (1 / (1 - lv)) (ks.map (chR ks.sum))) → Q (.ref l) H'
theorem Lv.sz {q : Rat} (h : Lv q) : Sz 10 q := by
  obtain ⟨a, b⟩ := h.num
  have c := h.den
  have : (2 : Nat) ^ 10 = 1024 := by decide
  exact ⟨by omega, by omega⟩
theorem Lv.pos {q : Rat} (h : Lv q) : 0 < 1 - q := by
  have := h.high
  grind
theorem Lv.szT {q : Rat} (h : Lv q) : Sz 15 (1 / (1 - q)) :=
  (sz_div (sz_one (n := 1) (by decide)) (sz_sub (sz_one (n := 1) (by decide)) h.sz) h.pos).mono (by decide)
section
variable {base : Heap} {mg : Str → Option Value} {K : PySem.W.Frag} {w : World} {P : Program}
theorem scExpected : FnScope ["claims", "view", "some", "k", "chance"] ["claims", "view"] (defScope sExpected) := ⟨rfl, rfl, rfl, by decide +kernel, rfl, by decide +kernel, by decide +kernel⟩
theorem ok_expected {f fB fT fC : Addr} {fd fdB fdT fdC : FuncData} (F : Fun K "expected" "expected" sExpected f fd) (FB : Fun K "by" "by" sBy fB fdB) (GB : FnOk P w K mg base CX0 2 fB fdB ["one", "other"] (spBin K (fun _ => True) (· * ·))) (bB : Binds K fdB ["one", "other"] []) (gB : mg "by" = some (.ref fB))
    (FT : Fun K "total" "total" sTotal fT fdT) (GT : FnOk P w K mg base CX0 3 fT fdT ["some"] (spSum K)) (bT : Binds K fdT ["some"] []) (gT : mg "total" = some (.ref fT))
    (FC : Fun K "chances_of" "chances_of" sChancesOf fC fdC) (GC : FnOk P w K mg base CX0 2 fC fdC ["claims"] (spChances K)) (bC : Binds K fdC ["claims"] []) (gC : mg "chances_of" = some (.ref fC)) (mE : mg "enumerate" = none) :
    FnOk P w K mg base CX0 4 f fd ["claims", "view"] (spExpected K) := by
  refine F.ok scExpected (fun vs H Q E h => ?_) (fun cdv A outer s H vs Q E hr h => ?_)
  · obtain ⟨p, l, ks, as, us, rfl, _⟩ := h
    rfl
  · obtain ⟨p, l, ks, as, us, rfl, hp, hk, hL, hU, hul, hsz, q⟩ := h
    have hr2 : Room 2 _ := hr.mono (j := 2) (by decide)
    refine ⟨_, pss_cons (ps_set (i := 2) scExpected.nd rfl (.inl rfl) (pe_lst pa_nil))
      (pss_cons (ps_for PassesOwn.never rfl (pi_enum (by rfl) mE (pa_cons (pe_call GC hr2 (by rfl) gC FC.kp bC .nil pass0 (pa_cons (pv 0) pa_nil)) pa_nil))
          (pg_tup rfl (pgs_cons (pg_name (i := 3) scExpected.nd rfl (.inl rfl)) (pgs_cons (pg_name (i := 4) scExpected.nd rfl (.inl rfl)) pgs_nil)))
        (pss_one (ps_expr (pe_bm PySem.F.plainAttrs_list PySem.F.slot_list_append PySem.F.type_list_append mt_append (pv 2)
          (pa_cons (pe_call GB hr2 (by rfl) gB FB.kp bB .nil pass0 (pa_cons (pe_tup (pa_cons (pv 3) (pa_cons pe_int pa_nil)))
            (pa_cons (pe_call GB hr2 (by rfl) gB FB.kp bB .nil pass0 (pa_cons (pv 4) (pa_cons (pe_ix ix_list (pv 1) (pv 3) (fun _ _ => rfl)) pa_nil))) pa_nil))) pa_nil)))))
      (pss_one (ps_ret (pe_call GT hr (by rfl) gT FT.kp bT .nil pass0 (pa_cons (pv 2) pa_nil))))), ?_⟩
    refine ⟨Nat.zero_le _, fun D hD => ?_⟩
    have s0 : Same H (upd H D (.lst [])) := same_upd hD
    refine ⟨_, rfl, p, ks, rfl, seqT s0 hp, hk, fun H1 c cs s1 nc ec hC => ?_⟩
    have ncD : c ≠ D := fun e => by
      rw [e, upd_same] at nc
      cases nc
    have cl : cs.length = ks.length := by rw [hC.len, List.length_map]
    have hlen : (cs.map V.ref).length = ks.length := by rw [List.length_map, cl]
    have sH : Same H H1 := s0.trans s1
    refine ⟨c, _, rfl, SqL.of ec, for_enum (K := K) (a := c) (xs := cs.map V.ref) (fun i σ H' => ∃ (v3 v4 : Option V) (bs : List Addr), σ = [some (.ref p), some (.ref l), some (.ref D), v3, v4] ∧ Same H H' ∧ H' c = some (.lst (cs.map V.ref)) ∧ RAs K H' cs (ks.map (chR ks.sum)) ∧ H' D = some (.lst (bs.map V.ref)) ∧ RAs K H' bs ((List.range i).map (termR (ks.map (chR ks.sum)) us)))
      ⟨none, none, [], rfl, sH, ec, hC, s1 _ _ upd_same, RAs.nil⟩ (fun i σ H' _ ⟨_, _, _, _, _, e, _⟩ => SqL.of e) ?_ ?_⟩
    · rintro i x T σ H' hi ⟨v3, v4, bs, rfl, sH', ec', hC', eD, hB⟩ hT
      obtain ⟨a, pr, rfl, hca, hpr, hra⟩ := hC'.get hi
      have hi2 : i < ks.length := by
        have lt := (List.getElem?_eq_some_iff.mp hi).1
        omega
      obtain ⟨b, u, hb, hu, _⟩ := hU.at (i := i) (by omega)
      have sT : Same H' (upd H' T (.tup [.int ((i : Nat) : Int), .ref a])) := same_upd hT
      have sHT := sH'.trans sT
      -- the pair is taken apart
      refine ⟨T, _, rfl, SqT.of upd_same, rfl, .int ((i : Nat) : Int), [.ref a], rfl, .ref a, [], rfl, rfl, ?_⟩
      -- the product is put at the end
      refine ⟨_, rfl, .inl ⟨rfl, _, SqL.of (sT _ _ eD)⟩, _, rfl, (by show 2 ≤ sizeLine; decide), fun t ht => ?_⟩
      have s2 : Same (upd H' T (.tup [.int ((i : Nat) : Int), .ref a])) (upd (upd H' T (.tup [.int ((i : Nat) : Int), .ref a])) t (.tup [.int ((i : Nat) : Int), .int 1])) := same_upd ht
      have sT2 := sT.trans s2
      have hTk : RA K (upd (upd H' T (.tup [.int ((i : Nat) : Int), .ref a])) t (.tup [.int ((i : Nat) : Int), .int 1])) t ((i : Nat) : Rat) := RA.of (by rw [upd_same, rt_nat])
      have hbr := (hU.same (sHT.trans s2)).get hb
      obtain ⟨b', u', e1, e2, e3, hub⟩ := hbr
      cases e1
      have eu : u' = u := Option.some.inj (e3.symm.trans hu)
      subst eu
      have pz := hk.sz pr (List.mem_of_getElem? hpr)
      have uz := hsz u' (List.mem_of_getElem? hu)
      refine ⟨_, rfl, _, rfl, _, rfl, l, _, _, _, rfl, rfl, (sHT.trans s2).seq hL, at_of (j := i) rfl hb, ?_⟩
      refine ⟨a, b, pr, u', rfl, hra.same sT2, hub, pz.mono (by decide), uz.mono (by decide), True.intro, fun v hv => ?_⟩
      have s3 := sT2.trans (same_upd (o := rt (pr * u')) hv)
      refine ⟨t, v, _, pr * u', rfl, hTk.same (same_upd hv), RA.of upd_same, (sz_nat (n := 4) (by have := hk.len; omega) (by decide)).mono (by decide), (sz_mul pz uz).mono (by decide), True.intro, fun z hz => ?_⟩
      have s4 := s3.trans (same_upd (o := rt (((i : Nat) : Rat) * (pr * u'))) hz)
      have eD4 := s4 _ _ eD
      have ef : termR (ks.map (chR ks.sum)) us i = ((i : Nat) : Rat) * (pr * u') := by
        unfold termR
        rw [getD_of hpr, getD_of hu]
      refine ⟨D, bs.map V.ref, _, rfl, rfl, eD4, ?_, ?_⟩
      · rw [List.length_map, hB.len, List.length_map, List.length_range]
        exact small1000 (by have := hk.len; omega)
      · refine ⟨some (.int ((i : Nat) : Int)), some (.ref a), bs ++ [z], rfl, same_store (sH'.trans s4) hD, ?_, (hC'.same s4).updl eD4, ?_, ?_⟩
        · rw [upd_ne ncD]
          exact s4 _ _ ec'
        · rw [upd_same, List.map_append]
          rfl
        · refine RAs.updl ?_ eD4
          rw [range_map_succ, ef]
          exact (hB.same s4).snoc (RA.of upd_same)
    · rintro σ H' ⟨v3, v4, bs, rfl, sH', ec', hC', eD, hB⟩
      rw [hlen] at hB
      have hl6 := hk.len
      refine ⟨_, rfl, D, bs, _, rfl, SqL.of eD, hB, ?_, fun x hx => ?_, fun H2 z s2 ez => q H2 z (sH'.trans s2) ez⟩
      · simp only [List.length_map, List.length_range]
        exact hl6
      · obtain ⟨i, hi, rfl⟩ := List.mem_map.mp hx
        have := List.mem_range.mp hi
        exact (sz_term hk.sz hsz (by omega)).mono (by decide)
end
end Sh
set_option Elab.async false
set_option linter.all false
set_option maxRecDepth 100000
set_option maxHeartbeats 3900000
namespace Sh
open PySem.Spec PySem L2 PyProof.Rows
/-- the arithmetic's promise with an abstract heap behind it -/
def spBinS (K : PySem.W.Frag) (ok : Rat → Prop) (f : Rat → Rat → Rat) : Sp := fun vs H Q _ => ∃ (p q : Addr) (a b c : Rat), vs = [.ref p, .ref q] ∧ RA K H p a ∧ RA K H q b ∧ Sz 4000 a ∧ Sz 4000 b ∧ ok b ∧ c = f a b ∧ ∀ H' u, Same H H' → H' u = some (rt c) → Q (.ref u) H'
theorem bin_s {P : Program} {w : World} {K : PySem.W.Frag} {mg : Str → Option Value} {base : Heap} {k : Nat} {f : Addr} {fd : FuncData} {ps : List Str} {ok : Rat → Prop} {g : Rat → Rat → Rat} (G : FnOk P w K mg base CX0 k f fd ps (spBin K ok g)) : FnOk P w K mg base CX0 k f fd ps (spBinS K ok g) :=
  G.imp fun vs H Q E ⟨p, q, a, b, c, e, ha, hb, sa, sb, o, ec, k⟩ => ⟨p, q, a, b, e, ha, hb, sa, sb, o, fun u hu => k _ u (same_upd hu) (by rw [upd_same, ec])⟩
section
variable {base : Heap} {mg : Str → Option Value} {K : PySem.W.Frag} {w : World} {P : Program}
theorem scViewOf : FnScope ["claims", "level", "rest", "top", "found", "chance", "most", "part"] ["claims", "level"] (defScope sViewOf) := ⟨rfl, rfl, rfl, by decide +kernel, rfl, by decide +kernel, by decide +kernel⟩
theorem ok_viewof {f fB fO fM fL fC : Addr} {fd fdB fdO fdM fdL fdC : FuncData} (F : Fun K "view_of" "view_of" sViewOf f fd) (FB : Fun K "by" "by" sBy fB fdB) (GB : FnOk P w K mg base CX0 2 fB fdB ["one", "other"] (spBinS K (fun _ => True) (· * ·))) (bB : Binds K fdB ["one", "other"] []) (gB : mg "by" = some (.ref fB))
    (FO : Fun K "over" "over" sOver fO fdO) (GO : FnOk P w K mg base CX0 2 fO fdO ["one", "other"] (spBinS K (fun b => 0 < b) (· / ·))) (bO : Binds K fdO ["one", "other"] []) (gO : mg "over" = some (.ref fO))
    (FM : Fun K "minus" "minus" sMinus fM fdM) (GM : FnOk P w K mg base CX0 2 fM fdM ["one", "other"] (spBinS K (fun _ => True) (· - ·))) (bM : Binds K fdM ["one", "other"] []) (gM : mg "minus" = some (.ref fM))
    (FL : Fun K "less" "less" sLess fL fdL) (GL : FnOk P w K mg base CX0 1 fL fdL ["one", "other"] (spLess K)) (bL : Binds K fdL ["one", "other"] []) (gL : mg "less" = some (.ref fL))
    (FC : Fun K "chances_of" "chances_of" sChancesOf fC fdC) (GC : FnOk P w K mg base CX0 2 fC fdC ["claims"] (spChances K)) (bC : Binds K fdC ["claims"] []) (gC : mg "chances_of" = some (.ref fC)) :
    FnOk P w K mg base CX0 3 f fd ["claims", "level"] (spViewOf K) := by
  refine F.ok scViewOf (fun vs H Q E h => ?_) (fun cdv A outer s H vs Q E hr h => ?_)
  · obtain ⟨p, r, ks, lv, rfl, _⟩ := h
    rfl
  · obtain ⟨p, r, ks, lv, rfl, hp, hk, hlv, lok, q⟩ := h
    have hr1 : Room 1 _ := hr.mono (j := 1) (by decide)
    refine ⟨_, pss_cons (ps_par3 (i := 2) (j := 3) (l := 4) rfl scViewOf.nd rfl rfl rfl (by decide) (by decide) (by decide) rfl rfl rfl
        (pa_cons (pe_tup (pa_cons pe_int (pa_cons pe_int pa_nil))) (pa_cons (pe_call GO hr (by rfl) gO FO.kp bO .nil pass0 (pa_cons (pe_tup (pa_cons pe_int (pa_cons pe_int pa_nil)))
          (pa_cons (pe_call GM hr (by rfl) gM FM.kp bM .nil pass0 (pa_cons (pe_tup (pa_cons pe_int (pa_cons pe_int pa_nil))) (pa_cons (pv 1) pa_nil))) pa_nil))) (pa_cons (pe_lst pa_nil) pa_nil))) (by rfl))
      (pss_cons (ps_for PassesOwn.never rfl (pi_list (pe_revL (pe_call GC hr (by rfl) gC FC.kp bC .nil pass0 (pa_cons (pv 0) pa_nil)))) (pg_name (i := 5) scViewOf.nd rfl (.inl rfl))
        (pss_cons (ps_set (i := 6) scViewOf.nd rfl (.inl rfl) (pe_call GB hr (by rfl) gB FB.kp bB .nil pass0 (pa_cons (pv 3) (pa_cons (pv 5) pa_nil))))
        (C8.pss_cut (ps_set (i := 7) scViewOf.nd rfl (.inl rfl) (pe_ifExp (pt_val (pe_call GL hr1 (by rfl) gL FL.kp bL .nil pass0 (pa_cons (pv 2) (pa_cons (pv 6) pa_nil)))) (pv 2) (pv 6)))
        (C8.pss_cut (ps_expr (pe_bm PySem.F.plainAttrs_list PySem.F.slot_list_insert PySem.F.type_list_insert mt_insert (pv 4) (pa_cons pe_int
          (pa_cons (pe_ifExp (pt_cmpR op_gt (pe_ix ix_tup (pv 5) pe_int (fun _ _ => rfl)) pe_int (nomark _)) (pe_call GO hr (by rfl) gO FO.kp bO .nil pass0 (pa_cons (pv 7) (pa_cons (pv 5) pa_nil))) (pe_tup (pa_cons pe_int (pa_cons pe_int pa_nil)))) pa_nil))))
        (pss_one (ps_set (i := 2) scViewOf.nd rfl (.inl rfl) (pe_call GM hr (by rfl) gM FM.kp bM .nil pass0 (pa_cons (pv 2) (pa_cons (pv 7) pa_nil)))))))))
      (pss_one (ps_ret (pv 4)))), ?_⟩
    -- the three names ahead of the loop
    refine ⟨(by show 2 ≤ sizeLine; decide), fun a1 n1 => ⟨(by show 2 ≤ sizeLine; decide), fun a2 n2 => ⟨(by show 2 ≤ sizeLine; decide), fun a3 n3 => ?_⟩⟩⟩
    have s1 : Same H (upd H a1 (.tup [.int 1, .int 1])) := same_upd n1
    have e1 : (upd H a1 (.tup [.int 1, .int 1])) a1 = some (rt 1) := upd_same
    generalize upd H a1 (.tup [.int 1, .int 1]) = H1 at s1 e1 n2 n3
    have s2 : Same H1 (upd H1 a2 (.tup [.int 1, .int 1])) := same_upd n2
    have e2 : (upd H1 a2 (.tup [.int 1, .int 1])) a2 = some (rt 1) := upd_same
    generalize upd H1 a2 (.tup [.int 1, .int 1]) = H2 at s2 e2 n3
    have s3 : Same H2 (upd H2 a3 (.tup [.int 1, .int 1])) := same_upd n3
    have e3 : (upd H2 a3 (.tup [.int 1, .int 1])) a3 = some (rt 1) := upd_same
    show tVar 1 _ (upd H2 a3 (.tup [.int 1, .int 1])) _
    generalize upd H2 a3 (.tup [.int 1, .int 1]) = H3 at s3 e3
    have hsT := lok.szT
    have z1 : Sz 4000 (1 : Rat) := sz_one (by decide)
    refine ⟨_, rfl, a3, r, 1, lv, 1 - lv, rfl, RA.of e3, hlv.same ((s1.trans s2).trans s3), z1, lok.sz.mono (by decide), True.intro, rfl, fun H4 a4 s4 e4 => ?_⟩
    refine ⟨a2, a4, 1, 1 - lv, 1 / (1 - lv), rfl, RA.of (s4 _ _ (s3 _ _ e2)), RA.of e4, z1, (sz_sub (sz_one (n := 1) (by decide)) lok.sz).mono (by decide), lok.pos, rfl, fun H5 tt s5 e5 => ?_⟩
    have sA : Same H1 H5 := ((s2.trans s3).trans s4).trans s5
    generalize hT : 1 / (1 - lv) = T at *
    refine ⟨Nat.zero_le _, fun D hD => ⟨_, _, _, rfl, ?_⟩⟩
    have s6 : Same H5 (upd H5 D (.lst [])) := same_upd hD
    have e6 : (upd H5 D (.lst [])) D = some (.lst []) := upd_same
    generalize upd H5 D (.lst []) = H6 at s6 e6
    have sH6 : Same H H6 := (s1.trans sA).trans s6
    have hDH : H D = none := (s1.trans sA).free hD
    refine ⟨_, rfl, p, ks, rfl, seqT sH6 hp, hk, fun H7 c cs s7 nc ec hC => ⟨c, _, rfl, SqL.of ec, fun rv nrv => ?_⟩⟩
    have s8 : Same H7 (upd H7 rv (.lst (cs.map V.ref).reverse)) := same_upd nrv
    have e8 : (upd H7 rv (.lst (cs.map V.ref).reverse)) rv = some (.lst (cs.reverse.map V.ref)) := by rw [upd_same, List.map_reverse]
    have nrD : rv ≠ D := fun e => by
      rw [e] at nrv
      rw [s7 _ _ e6] at nrv
      cases nrv
    generalize upd H7 rv (.lst (cs.map V.ref).reverse) = H8 at s8 e8
    have hCr := (hC.same s8).rev
    have s68 := s7.trans s8
    have sH8 : Same H H8 := sH6.trans s68
    have hl6 := hk.len
    have hps := hk.sz
    have hlenps : (ks.map (chR ks.sum)).length = ks.length := List.length_map _
    refine ⟨rv, rfl, ⟨_, SqL.of e8⟩, for_list (K := K) (a := rv) (xs := cs.reverse.map V.ref) (fun i σ H' => ∃ (rr : Addr) (v5 v6 v7 : Option V) (bs : List Addr), σ = [some (.ref p), some (.ref r), some (.ref rr), some (.ref tt), some (.ref D), v5, v6, v7] ∧ Same H H' ∧ RA K H' rr (gst T (ks.map (chR ks.sum)) i).1 ∧ RA K H' tt T ∧
        H' D = some (.lst (bs.map V.ref)) ∧ RAs K H' bs (gst T (ks.map (chR ks.sum)) i).2 ∧ (gst T (ks.map (chR ks.sum)) i).2.length = i ∧ H' rv = some (.lst (cs.reverse.map V.ref)) ∧ RAs K H' cs.reverse (ks.map (chR ks.sum)).reverse)
      ⟨a1, none, none, none, [], rfl, sH8, RA.of (s68 _ _ (s6 _ _ (sA _ _ e1))), RA.of (s68 _ _ (s6 _ _ e5)), s68 _ _ e6, RAs.nil, rfl, e8, hCr⟩ (fun i σ H' _ ⟨_, _, _, _, _, _, _, _, _, _, _, _, e, _⟩ => SqL.of e) ?_ ?_⟩
    · rintro i x σ H' hi ⟨rr, v5, v6, v7, bs, rfl, sH', hrr, htt, eD, hB, hgl, er, hCr'⟩
      obtain ⟨a, pr, rfl, hca, hpr, hra⟩ := hCr'.get hi
      have hi2 : i < ks.length := by
        have := (List.getElem?_eq_some_iff.mp hpr).1
        rw [List.length_reverse, hlenps] at this
        exact this
      have pz := hps pr (List.mem_reverse.mp (List.mem_of_getElem? hpr))
      obtain ⟨gz, gv⟩ := sz_gst hsT hps i
      have egs := gst_succ (T := T) hpr
      generalize hg : gst T (ks.map (chR ks.sum)) i = st at *
      obtain ⟨R, vv⟩ := st
      -- the most that this amount may take
      refine ⟨_, rfl, _, rfl, tt, a, T, pr, T * pr, rfl, htt, hra, hsT.mono (by decide), pz.mono (by decide), True.intro, rfl, fun G1 mo q1 emo => ?_⟩
      have mz := sz_mul hsT pz
      have gz' : Sz (31 * (i + 1)) R := gz
      have pz2 : Sz (31 * (i + 1)) (part T R pr) := sz_part hsT pz gz' (by omega)
      have hrrR : RA K G1 rr R := hrr.same q1
      -- what it takes
      refine ⟨fun σ' H2 => ∃ pp : Addr, σ' = [some (.ref p), some (.ref r), some (.ref rr), some (.ref tt), some (.ref D), some (.ref a), some (.ref mo), some (.ref pp)] ∧ G1 = H2 ∧ RA K G1 pp (part T R pr), ?_, ?_⟩
      · refine ⟨_, rfl, _, rfl, rr, mo, R, T * pr, rfl, hrrR, RA.of emo, gz'.mono (by omega), mz.mono (by decide), _, rfl, ite2 (fun hd => ?_) (fun hd => ?_)⟩
        · have hlt : R < T * pr := of_decide_eq_true hd
          refine ⟨_, rfl, rr, rfl, rfl, ?_⟩
          unfold part
          rw [if_pos hlt]
          exact hrrR
        · have hlt : ¬ R < T * pr := fun z => hd (decide_eq_true z)
          refine ⟨_, rfl, mo, rfl, rfl, ?_⟩
          unfold part
          rw [if_neg hlt]
          exact RA.of emo
      · rintro σ' H2 ⟨pp, rfl, rfl, hpp⟩
        -- its share goes ahead of the others
        refine ⟨fun σ' H3 => ∃ va : Addr, σ' = [some (.ref p), some (.ref r), some (.ref rr), some (.ref tt), some (.ref D), some (.ref a), some (.ref mo), some (.ref pp)] ∧ Same H H3 ∧ H3 D = some (.lst ((va :: bs).map V.ref)) ∧ RAs K H3 (va :: bs) (vent T R pr :: vv) ∧
          RA K H3 rr R ∧ RA K H3 tt T ∧ RA K H3 pp (part T R pr) ∧ H3 rv = some (.lst (cs.reverse.map V.ref)) ∧ RAs K H3 cs.reverse (ks.map (chR ks.sum)).reverse, ?_, ?_⟩
        · have fin : ∀ (G2 : Hp) (u : Addr), Same G1 G2 → RA K G2 u (vent T R pr) → Same H (upd G2 D (.lst ((bs.map V.ref).take (0 : Int).toNat ++ [V.ref u] ++ (bs.map V.ref).drop (0 : Int).toNat))) ∧
              (upd G2 D (.lst ((bs.map V.ref).take (0 : Int).toNat ++ [V.ref u] ++ (bs.map V.ref).drop (0 : Int).toNat))) D = some (.lst ((u :: bs).map V.ref)) ∧ RAs K (upd G2 D (.lst ((bs.map V.ref).take (0 : Int).toNat ++ [V.ref u] ++ (bs.map V.ref).drop (0 : Int).toNat))) (u :: bs) (vent T R pr :: vv) ∧
              RA K (upd G2 D (.lst ((bs.map V.ref).take (0 : Int).toNat ++ [V.ref u] ++ (bs.map V.ref).drop (0 : Int).toNat))) rr R ∧ RA K (upd G2 D (.lst ((bs.map V.ref).take (0 : Int).toNat ++ [V.ref u] ++ (bs.map V.ref).drop (0 : Int).toNat))) tt T ∧
              RA K (upd G2 D (.lst ((bs.map V.ref).take (0 : Int).toNat ++ [V.ref u] ++ (bs.map V.ref).drop (0 : Int).toNat))) pp (part T R pr) ∧ (upd G2 D (.lst ((bs.map V.ref).take (0 : Int).toNat ++ [V.ref u] ++ (bs.map V.ref).drop (0 : Int).toNat))) rv = some (.lst (cs.reverse.map V.ref)) ∧
              RAs K (upd G2 D (.lst ((bs.map V.ref).take (0 : Int).toNat ++ [V.ref u] ++ (bs.map V.ref).drop (0 : Int).toNat))) cs.reverse (ks.map (chR ks.sum)).reverse := fun G2 u sg hu => by
            have sq := q1.trans sg
            have eD2 : G2 D = some (.lst (bs.map V.ref)) := sq _ _ eD
            refine ⟨same_store (sH'.trans sq) hDH, ?_, ?_, (hrr.same sq).updl eD2, (htt.same sq).updl eD2, (hpp.same sg).updl eD2, ?_, (hCr'.same sq).updl eD2⟩
            · rw [upd_same, ins0]
              rfl
            · exact ((hB.same sq).cons hu).updl eD2
            · rw [upd_ne nrD]
              exact sq _ _ er
          have eDG : G1 D = some (.lst (bs.map V.ref)) := q1 _ _ eD
          have hlb : (bs.map V.ref).length < sizeLine := by
            rw [List.length_map, hB.len, show (R, vv).2.length = i from hgl]
            exact small1000 (by omega)
          have hraG := hra.same q1
          refine ⟨_, rfl, .inl ⟨rfl, _, SqL.of eDG⟩, _, rfl, a, _, 0, _, rfl, rfl, hraG, atI_nat (j := 0) rfl, _, 0, rfl, rfl, _, rfl, ite2 (fun hd => ?_) (fun hd => ?_)⟩
          · have hpos : 0 < pr := num_pos.mp (of_decide_eq_true hd)
            refine ⟨_, rfl, _, rfl, pp, a, part T R pr, pr, part T R pr / pr, rfl, hpp, hraG, pz2.mono (by omega), pz.mono (by decide), hpos, rfl, fun G2 u sg eu => ?_⟩
            have ev : vent T R pr = part T R pr / pr := by
              unfold vent
              rw [if_pos hpos]
            refine ⟨D, _, 0, _, rfl, rfl, sg _ _ eDG, hlb, by decide, by decide, u, rfl, ?_⟩
            exact fin G2 u sg (by rw [ev]; exact RA.of eu)
          · have hpos : ¬ 0 < pr := fun z => hd (decide_eq_true (num_pos.mpr z))
            have ev : vent T R pr = 0 := by
              unfold vent
              rw [if_neg hpos]
            refine ⟨(by show 2 ≤ sizeLine; decide), fun u hu => ?_⟩
            have sg : Same G1 (upd G1 u (.tup [.int 0, .int 1])) := same_upd hu
            refine ⟨D, _, 0, _, rfl, rfl, sg _ _ eDG, hlb, by decide, by decide, u, rfl, ?_⟩
            exact fin _ u sg (by rw [ev]; exact RA.of upd_same)
        · rintro σ' H3 ⟨va, rfl, sH3, eD3, hB3, hrr3, htt3, hpp3, er3, hC3⟩
          -- the rest
          refine ⟨_, rfl, _, rfl, rr, pp, R, part T R pr, R - part T R pr, rfl, hrr3, hpp3, gz'.mono (by omega), pz2.mono (by omega), True.intro, rfl, fun G4 u4 q4 e4 => ?_⟩
          refine ⟨u4, _, _, _, va :: bs, rfl, sH3.trans q4, ?_, htt3.same q4, q4 _ _ eD3, ?_, ?_, q4 _ _ er3, hC3.same q4⟩
          · rw [egs]
            exact RA.of e4
          · rw [egs]
            exact hB3.same q4
          · rw [egs]
            show vv.length + 1 = i + 1
            rw [show vv.length = i from hgl]
    · rintro σ H' ⟨rr, v5, v6, v7, bs, rfl, sH', hrr, htt, eD, hB, hgl, er, hCr'⟩
      have el : (cs.reverse.map V.ref).length = (ks.map (chR ks.sum)).length := by
        rw [List.length_map, List.length_reverse, hC.len]
      rw [el, gst_end] at hB
      exact ⟨_, rfl, q H' D bs sH' hDH eD hB⟩
end
end Sh
set_option Elab.async false
set_option linter.all false
set_option maxRecDepth 100000
set_option maxHeartbeats 3900000
namespace Sh
open PySem PySem.Spec PyProof.Rows L2 GxR
theorem tab_same {H H' : Hp} {T : Addr} (h : TabG H T) (s : Same H H') : TabG H' T := by
  obtain ⟨ps, a, b⟩ := h
  exact ⟨ps, s _ _ a, b⟩
/-- all but the two tables stands as it stood -/
structure Sm (T1 T2 : Addr) (H H' : Hp) : Prop where
  keep : ∀ b o, b ≠ T1 → b ≠ T2 → H b = some o → H' b = some o
  t1 : TabG H' T1
  t2 : TabG H' T2
theorem Sm.of {T1 T2 : Addr} {H H1 H2 : Hp} (a : Tb2 T1 T2 H H1) (s : Same H1 H2) : Sm T1 T2 H H2 :=
  ⟨fun b o h1 h2 e => s b o ((a.keep b h1 h2).trans e), tab_same a.t1 s, tab_same a.t2 s⟩
theorem Tb2.seqT {K : PySem.W.Frag} {T1 T2 : Addr} {H H2 : Hp} {a : Addr} {xs : List V} (h : Tb2 T1 T2 H H2) (h1 : TabG H T1) (h2 : TabG H T2) (s : SqT K H a xs) : SqT K H2 a xs := by
  obtain ⟨ps, hP, _⟩ := h1
  obtain ⟨ps2, hP2, _⟩ := h2
  rcases s with (s | ⟨o, s⟩) | s
  · exact .inl (.inl ((h.keep a (ne_of s hP (by intro z; cases z)) (ne_of s hP2 (by intro z; cases z))).trans s))
  · exact .inl (.inr ⟨o, (h.keep a (ne_of s hP (by intro z; cases z)) (ne_of s hP2 (by intro z; cases z))).trans s⟩)
  · exact .inr s
def spShortfall (K : PySem.W.Frag) (T1 T2 : Addr) : Sp := fun vs H Q _ => ∃ (p r : Addr) (ks : List Int) (lv : Rat), vs = [.ref p, .ref r] ∧ SqT K H p (ks.map V.int) ∧ Ok6 ks ∧ RA K H r lv ∧ Lv lv ∧ TabG H T1 ∧ TabG H T2 ∧
  ∀ H' z, Sm T1 T2 H H' → H' z = some (rt (esR (1 / (1 - lv)) (ks.map (chR ks.sum)))) → Q (.ref z) H'
section
variable {base : Heap} {mg : Str → Option Value} {K : PySem.W.Frag} {w : World} {P : Program}
theorem scShortfall : FnScope ["claims", "level"] ["claims", "level"] (defScope sShortfall) := ⟨rfl, rfl, rfl, by decide +kernel, rfl, by decide +kernel, by decide +kernel⟩
theorem ok_shortfall {f fN fV fE T1 T2 : Addr} {fd fdN fdV fdE : FuncData} (F : Fun K "shortfall" "shortfall" sShortfall f fd) (FN : Fun K "need_level" "need_level" sNeedLevel fN fdN) (GN : FnOk P w K mg base CX0 2 fN fdN ["claims", "level"] (spNeedLevel K T1 T2)) (bN : Binds K fdN ["claims", "level"] []) (gN : mg "need_level" = some (.ref fN))
    (FV : Fun K "view_of" "view_of" sViewOf fV fdV) (GV : FnOk P w K mg base CX0 3 fV fdV ["claims", "level"] (spViewOf K)) (bV : Binds K fdV ["claims", "level"] []) (gV : mg "view_of" = some (.ref fV))
    (FE : Fun K "expected" "expected" sExpected fE fdE) (GE : FnOk P w K mg base CX0 4 fE fdE ["claims", "view"] (spExpected K)) (bE : Binds K fdE ["claims", "view"] []) (gE : mg "expected" = some (.ref fE)) :
    FnOk P w K mg base CX0 5 f fd ["claims", "level"] (spShortfall K T1 T2) := by
  refine F.ok scShortfall (fun vs H Q E h => ?_) (fun cdv A outer s H vs Q E hr h => ?_)
  · obtain ⟨p, r, ks, lv, rfl, _⟩ := h
    rfl
  · obtain ⟨p, r, ks, lv, rfl, hp, hk, hq, lok, t1, t2, q⟩ := h
    refine ⟨_, pss_cons (ps_expr (pe_call GN (hr.mono (by decide)) (by rfl) gN FN.kp bN .nil pass0 (pa_cons (pv 0) (pa_cons (pv 1) pa_nil))))
      (pss_one (ps_ret (pe_call GE hr (by rfl) gE FE.kp bE .nil pass0 (pa_cons (pv 0) (pa_cons (pe_call GV (hr.mono (by decide)) (by rfl) gV FV.kp bV .nil pass0 (pa_cons (pv 0) (pa_cons (pv 1) pa_nil))) pa_nil))))), ?_⟩
    refine ⟨_, rfl, _, rfl, p, r, ks, lv, rfl, hp, hk, hq, lok, t1, t2, fun H1 h1 => ?_⟩
    have hp1 := h1.seqT t1 t2 hp
    have hq1 : RA K H1 r lv := h1.seqT t1 t2 hq
    refine ⟨_, rfl, _, rfl, _, rfl, p, r, ks, lv, rfl, hp1, hk, hq1, lok, fun H2 l as s2 nl el hU => ?_⟩
    refine ⟨p, l, ks, as, _, rfl, seqT s2 hp1, hk, SqL.of el, hU, ?_, ?_, fun H3 z s3 ez => q H3 z (Sm.of h1 (s2.trans s3)) ?_⟩
    · rw [viewR_length, List.length_map]
    · exact sz_view lok.szT hk.sz (by rw [List.length_map]; exact hk.len)
    · rw [ez]
      unfold esR
      rw [List.length_map]
/-! ### alike -/
theorem scAlike : FnScope ["_law_found", "_law_due", "_law_k"] ["_law_found", "_law_due"] (defScope sAlike) := ⟨rfl, rfl, rfl, by decide +kernel, rfl, by decide +kernel, by decide +kernel⟩
def spAlikeI : Sp := fun vs H Q _ => ∃ n : Int, vs = [.int n, .int n] ∧ ∀ H', Same H H' → Q (.bl true) H'
def spAlike (K : PySem.W.Frag) : Sp := fun vs H Q _ => ∃ (p q : Addr) (r : Rat), vs = [.ref p, .ref q] ∧ RA K H p r ∧ RA K H q r ∧ ∀ H', Same H H' → Q (.bl true) H'
theorem cls2 : Paired ClsV [V.ty "tuple", V.ty "list"] [Value.type "tuple", Value.type "list"] := .cons (.ty "tuple") (.cons (.ty "list") .nil)
theorem any_int {K : PySem.W.Frag} : PySem.W.kitAny K (.type "int") [Value.type "tuple", Value.type "list"] = some false := kitAny_cons k_int_tuple (fun _ => kitAny_cons k_int_list (fun _ => kitAny_nil) (fun z => by cases z)) (fun z => by cases z)
theorem any_tuple {K : PySem.W.Frag} : PySem.W.kitAny K (.type "tuple") [Value.type "tuple", Value.type "list"] = some true := kitAny_cons k_tuple_tuple (fun z => by cases z) (fun _ => rfl)
theorem ok_alikeI {f : Addr} {fd : FuncData} (F : Fun K "_law_alike" "_law_alike" sAlike f fd) (mi : mg "isinstance" = none) (mT : mg "tuple" = none) (mLi : mg "list" = none) (mS : mg "str" = none) (mI : mg "int" = none) (mB : mg "bool" = none) :
    FnOk P w K mg base CX0 1 f fd ["_law_found", "_law_due"] spAlikeI := by
  refine F.ok scAlike (fun vs H Q E h => ?_) (fun cdv A outer s H vs Q E hr h => ?_)
  · obtain ⟨n, rfl, _⟩ := h
    rfl
  · obtain ⟨n, rfl, q⟩ := h
    refine ⟨_, pss_cons (ps_if (pt_val (pe_callB call_isiT (by rfl) mi bt_isinstance (pa_cons (pv 1) (pa_cons (pe_tup (pa_cons (pe_bltn (v := .ty "tuple") (by rfl) mT bt_tuple rfl) (pa_cons (pe_bltn (v := .ty "list") (by rfl) mLi bt_list rfl) pa_nil))) pa_nil)))) pss_never pss_nil)
      (pss_cons (ps_if (PW.pt (pw_or (pt_cmpR op_isN (pv 1) pe_non (nomark _)) (pw_or1 (pt_val (pe_callB call_isi (by rfl) mi bt_isinstance (pa_cons (pv 1) (pa_cons (pe_bltn (v := .ty "str") (by rfl) mS bt_str rfl) pa_nil))))))) pss_never pss_nil)
      (pss_one (ps_ret (pe_and (pe_callB call_isi (by rfl) mi bt_isinstance (pa_cons (pv 0) (pa_cons (pe_bltn (v := .ty "int") (by rfl) mI bt_int rfl) pa_nil)))
        (pe_and (pe_cmpR op_eq (pe_callB call_isi (by rfl) mi bt_isinstance (pa_cons (pv 0) (pa_cons (pe_bltn (v := .ty "bool") (by rfl) mB bt_bool rfl) pa_nil))) (pe_callB call_isi (by rfl) mi bt_isinstance (pa_cons (pv 1) (pa_cons (pe_bltn (v := .ty "bool") (by rfl) mB bt_bool rfl) pa_nil))) (nomark _))
          (pe_one (pe_cmpR op_eq (pv 0) (pv 1) (nomark _)))))))), ?_⟩
    refine ⟨_, rfl, (by show 2 ≤ sizeLine; decide), fun t ht => ?_⟩
    have s1 : Same H (upd H t (.tup [.ty "tuple", .ty "list"])) := same_upd ht
    refine ⟨_, t, _, .type "int", _, false, rfl, upd_same, cls2, .base (.int n), any_int, false, rfl, iteF ?_⟩
    refine ⟨_, rfl, rfl, false, rfl, iteF ⟨_, rfl, _, .ty "str", .type "int", .type "str", false, rfl, .ty "str", .base (.int n), k_int_str, false, rfl, iteF ?_⟩⟩
    refine ⟨_, rfl, _, .ty "int", .type "int", .type "int", true, rfl, .ty "int", .base (.int n), k_int_int, true, rfl, iteT ?_⟩
    refine ⟨_, rfl, _, .ty "bool", .type "int", .type "bool", false, rfl, .ty "bool", .base (.int n), k_int_bool, _, rfl, _, .ty "bool", .type "int", .type "bool", false, rfl, .ty "bool", .base (.int n), k_int_bool, rfl, true, rfl, iteT ?_⟩
    refine ⟨_, rfl, _, rfl, rfl, ?_⟩
    have e : decide (V.int n = V.int n) = true := decide_eq_true rfl
    show Q (.bl (decide (V.int n = V.int n))) _
    rw [e]
    exact q _ s1
end
end Sh
set_option Elab.async false
set_option linter.all false
set_option maxRecDepth 100000
set_option maxHeartbeats 3900000
namespace Sh
open PySem PySem.Spec PyProof.Rows L2 GxR
theorem yes_not {A B : Prop} (h : B) : if (!true) = true then A else B := h
section
variable {base : Heap} {mg : Str → Option Value} {K : PySem.W.Frag} {w : World} {P : Program}
theorem ok_alike {f : Addr} {fd : FuncData} (F : Fun K "_law_alike" "_law_alike" sAlike f fd) (G1 : FnOk P w K mg base CX0 1 f fd ["_law_found", "_law_due"] spAlikeI) (bA : Binds K fd ["_law_found", "_law_due"] []) (gA : mg "_law_alike" = some (.ref f))
    (mi : mg "isinstance" = none) (mT : mg "tuple" = none) (mLi : mg "list" = none) (mL : mg "len" = none) (mR : mg "range" = none) :
    FnOk P w K mg base CX0 2 f fd ["_law_found", "_law_due"] (spAlike K) := by
  refine F.ok scAlike (fun vs H Q E h => ?_) (fun cdv A outer s H vs Q E hr h => ?_)
  · obtain ⟨p, q, r, rfl, _⟩ := h
    rfl
  · obtain ⟨p, q, r, rfl, hp, hq, k⟩ := h
    refine ⟨_, pss_cons (ps_if (pt_val (pe_callB call_isiT (by rfl) mi bt_isinstance (pa_cons (pv 1) (pa_cons (pe_tup (pa_cons (pe_bltn (v := .ty "tuple") (by rfl) mT bt_tuple rfl) (pa_cons (pe_bltn (v := .ty "list") (by rfl) mLi bt_list rfl) pa_nil))) pa_nil))))
        (pss_cons (ps_if (PW.pt (pw_or (pt_not (pt_val (pe_callB call_isiT (by rfl) mi bt_isinstance (pa_cons (pv 0) (pa_cons (pe_tup (pa_cons (pe_bltn (v := .ty "tuple") (by rfl) mT bt_tuple rfl) (pa_cons (pe_bltn (v := .ty "list") (by rfl) mLi bt_list rfl) pa_nil))) pa_nil)))))
          (pw_or1 (pt_cmpR op_ne (pe_callB call_isi (by rfl) mi bt_isinstance (pa_cons (pv 0) (pa_cons (pe_bltn (v := .ty "list") (by rfl) mLi bt_list rfl) pa_nil))) (pe_callB call_isi (by rfl) mi bt_isinstance (pa_cons (pv 1) (pa_cons (pe_bltn (v := .ty "list") (by rfl) mLi bt_list rfl) pa_nil))) (nomark _))))) pss_never pss_nil)
        (pss_cons (ps_if (pt_cmpR op_ne (pe_callB call_len_seq (by rfl) mL PySem.boot_len (pa_cons (pv 0) pa_nil)) (pe_callB call_len_seq (by rfl) mL PySem.boot_len (pa_cons (pv 1) pa_nil)) (nomark _)) pss_never pss_nil)
        (pss_one (ps_ret (pe_cmpR (op_eqD hr.units) (pe_lc (own := [("_law_k", 2)]) (g := gName 2) rfl scAlike.nd (pi_range1 (by rfl) mR (pa_cons (pe_callB call_len_seq (by rfl) mL PySem.boot_len (pa_cons (pv 1) pa_nil)) pa_nil))
            (blkOk_by (N := ["_law_found", "_law_due", "_law_k"]) (sc := defScope sAlike) (by decide +kernel)) (fun _ _ _ _ _ => pg_name (i := 2) scAlike.nd rfl (.inl rfl))
            (fun _ _ _ _ _ => pts_one (pt_not (pt_val (pe_call G1 hr (by rfl) gA F.kp bA .nil pass0 (pa_cons (pe_ix (show IxR _ (rIxT K) from ix_tup) (pv 0) (pv 2) (fun _ _ => rfl)) (pa_cons (pe_ix (show IxR _ (rIxT K) from ix_tup) (pv 1) (pv 2) (fun _ _ => rfl)) pa_nil))))))
            (fun _ _ _ _ _ => pv 2)) (pe_lst pa_nil) (nomark _)))))) pss_nil)
      (pss_never), ?_⟩
    refine ⟨_, rfl, (by show 2 ≤ sizeLine; decide), fun t ht => ?_⟩
    have s1 : Same H (upd H t (.tup [.ty "tuple", .ty "list"])) := same_upd ht
    refine ⟨_, t, _, .type "tuple", _, true, rfl, upd_same, cls2, tyT (hq.same s1), any_tuple, true, rfl, iteT ?_⟩
    refine ⟨_, rfl, (by show 2 ≤ sizeLine; decide), fun t2 ht2 => ?_⟩
    have s2 := s1.trans (same_upd (o := .tup [.ty "tuple", .ty "list"]) ht2)
    have hp2 := hp.same s2
    have hq2 := hq.same s2
    refine ⟨_, t2, _, .type "tuple", _, true, rfl, upd_same, cls2, tyT hp2, any_tuple, true, rfl, iteF ?_⟩
    refine ⟨_, rfl, _, .ty "list", .type "tuple", .type "list", false, rfl, .ty "list", tyT hp2, k_tuple_list, _, rfl, _, .ty "list", .type "tuple", .type "list", false, rfl, .ty "list", tyT hq2, k_tuple_list, rfl, false, rfl, iteF ?_⟩
    refine ⟨_, rfl, p, _, rfl, .inr hp2, _, rfl, q, _, rfl, .inr hq2, rfl, false, rfl, iteF ?_⟩
    refine ⟨_, rfl, q, _, rfl, .inr hq2, 2, rfl, by decide, by decide, fun D hD => ?_⟩
    refine lc_range (lo := 0) (n := 2) (fun i H' => Same H H' ∧ H' D = some (.lst [])) ⟨s2.trans (same_upd hD), upd_same⟩ ?_ ?_
    · rintro i H' hi ⟨s3, eD⟩
      obtain ⟨n, hn⟩ : ∃ n : Int, atI [V.int r.num, V.int (r.den : Int)] (0 + (i : Int)) = some (.int n) := by
        match i, hi with
        | 0, _ => exact ⟨r.num, rfl⟩
        | 1, _ => exact ⟨(r.den : Int), rfl⟩
      refine ⟨rfl, _, rfl, _, rfl, p, _, _, _, rfl, rfl, hp.same s3, hn, _, rfl, _, rfl, q, _, _, _, rfl, rfl, hq.same s3, hn, n, rfl, fun H2 s4 => ⟨true, rfl, yes_not ?_⟩⟩
      exact ⟨s3.trans s4, s4 _ _ eD⟩
    · rintro H' ⟨s3, eD⟩
      refine ⟨Nat.zero_le _, fun e he => ?_⟩
      have s4 := same_upd (o := .lst []) he
      refine ⟨.list [], .list [], .lst (SqL.of (s4 _ _ eD)) .nil, .lst (SqL.of upd_same) .nil, rfl, rfl, ?_⟩
      have ee : PyData.eqv (.list []) (.list []) = true := by decide +kernel
      rw [ee]
      exact k _ (s3.trans s4)
end
end Sh
set_option Elab.async false
set_option linter.all false
set_option maxRecDepth 100000
set_option maxHeartbeats 3900000
/-! The law's own chances: turned out of the walk of chances_of. -/
namespace Sh
open PySem.Spec PySem L2 PyProof.Rows
section
variable {base : Heap} {mg : Str → Option Value} {K : PySem.W.Frag} {w : World} {P : Program}
theorem scLChances : FnScope ["_law_claims_here", "_law_one"] ["_law_claims_here"] (defScope sLChances) := ⟨rfl, rfl, rfl, by decide +kernel, rfl, by decide +kernel, by decide +kernel⟩
theorem ok_lchances {f fR : Addr} {fd fdR : FuncData} (F : Fun K "_law_chances" "_law_chances" sLChances f fd) (FR : Fun K "_law_ratio" "_law_ratio" sLRatio fR fdR) (GR : FnOk P w K mg base CX0 1 fR fdR ["_law_top", "_law_bottom"] spRatio) (bR : Binds K fdR ["_law_top", "_law_bottom"] []) (gR : mg "_law_ratio" = some (.ref fR)) (mS : mg "sum" = none) :
    FnOk P w K mg base CX0 2 f fd ["_law_claims_here"] (spChances K) := by
  refine F.ok scLChances (fun vs H Q E h => ?_) (fun cdv A outer s H vs Q E hr h => ?_)
  · obtain ⟨p, ks, rfl, _⟩ := h
    rfl
  · obtain ⟨p, ks, rfl, hp, hk, q⟩ := h
    refine ⟨_, pss_one (ps_ret (pe_lc (own := [("_law_one", 1)]) (g := gName 1) rfl scLChances.nd (pi_tup (pv 0)) (blkOk_by (N := ["_law_claims_here", "_law_one"]) (sc := defScope sLChances) (by decide +kernel))
      (fun _ _ _ _ _ => pg_name (i := 1) scLChances.nd rfl (.inl rfl)) (fun _ _ _ _ _ => pts_nil)
      (fun _ _ _ _ _ => pe_call GR hr (by rfl) gR FR.kp bR .nil pass0 (pa_cons (pv 1) (pa_cons (pe_callB (show CallR _ (.builtin "sum") (rSumT K) from cr_sumT rfl) (by rfl) mS bt_sum (pa_cons (pv 0) pa_nil)) pa_nil))))), ?_⟩
    refine ⟨_, rfl, p, rfl, ⟨_, hp⟩, fun D hD => lc_tup (K := K) (a := p) (xs := ks.map V.int) (fun i H' => Same H H' ∧ ∃ as : List Addr, H' D = some (.lst (as.map V.ref)) ∧ RAs K H' as ((ks.take i).map (chR ks.sum)))
      ⟨same_upd hD, [], upd_same, RAs.nil⟩ (fun i H' _ h => seqT h.1 hp) ?_ ?_⟩
    · rintro i x H' hi ⟨s1, as, eD, hA⟩
      obtain ⟨k, hki, rfl⟩ := ints_at hi
      refine ⟨rfl, yes_then ?_⟩
      have hkk := hk.val k (List.mem_of_getElem? hki)
      have hs := hk.sum_pos
      refine ⟨_, rfl, _, rfl, p, ks, rfl, seqT s1 hp, k, ks.sum, rfl, hs, up (m := 13) (small13 hkk.1 (by omega)) (by decide), up (m := 13) (small13 (by omega) hk.sum_le) (by decide), fun t ht => ?_⟩
      have s2 : Same H' (upd H' t (rt (Rat.divInt k ks.sum))) := same_upd ht
      have eD2 := s2 _ _ eD
      have hA2 : RAs K (upd H' t (rt (Rat.divInt k ks.sum))) (as ++ [t]) ((ks.take (i + 1)).map (chR ks.sum)) := by
        rw [take_map_succ hki]
        exact (hA.same s2).snoc (RA.of upd_same)
      refine ⟨as.map V.ref, eD2, ?_, same_store (s1.trans s2) hD, as ++ [t], ?_, hA2.updl eD2⟩
      · rw [List.length_map, hA.len, List.length_map, List.length_take]
        exact small1000 (by have := hk.len; omega)
      · rw [upd_same, List.map_append]
        rfl
    · rintro H' ⟨s1, as, eD, hA⟩
      rw [List.take_of_length_le (by rw [List.length_map]; exact Nat.le_refl _)] at hA
      exact q H' D as s1 hD eD hA
end
end Sh
set_option Elab.async false
set_option linter.all false
set_option maxRecDepth 100000
set_option maxHeartbeats 3900000
namespace Sh
open PySem.Spec PySem L2 PyProof.Rows
theorem Lv.T1 {q : Rat} (h : Lv q) : 1 ≤ 1 / (1 - q) := by
  have hp := h.pos
  have hl := h.low
  refine Rat.not_lt.mp fun z => ?_
  have k := (Rat.mul_lt_mul_right hp).mpr z
  rw [Rat.div_mul_cancel (by grind)] at k
  grind
theorem cop {q : Rat} (h : Lv q) : ((q.den : Int) - q.num).natAbs.Coprime q.den := by
  obtain ⟨a, b⟩ := h.num
  have r := q.reduced
  have e : ((q.den : Int) - q.num).natAbs = q.den - q.num.natAbs := by omega
  rw [e]
  unfold Nat.Coprime at *
  rw [Nat.gcd_self_sub_left (by omega)]
  exact r
theorem one_sub {q : Rat} (h : Lv q) : 1 - q = ⟨(q.den : Int) - q.num, q.den, q.den_nz, cop h⟩ := by
  rw [Rat.mk_eq_mkRat, Rat.sub_def']
  show mkRat (1 * (q.den : Int) - q.num * 1) (1 * q.den) = _
  rw [Int.one_mul, Int.mul_one, Nat.one_mul]
/-- the law's own pair for 1 / (1 - level) -/
theorem rt_T {q : Rat} (h : Lv q) : rt (1 / (1 - q)) = .tup [.int (q.den : Int), .int ((q.den : Int) - q.num)] := by
  obtain ⟨a, b⟩ := h.num
  have e1 : (1 - q).num = (q.den : Int) - q.num := by rw [one_sub h]
  have e2 : (1 - q).den = q.den := by rw [one_sub h]
  have e3 : 1 / (1 - q) = (1 - q)⁻¹ := by
    rw [Rat.div_def]
    grind
  unfold rt
  rw [e3, Rat.num_inv, Rat.den_inv, e1, e2, if_neg (by omega), Int.sign_eq_one_of_pos (by omega), Int.one_mul]
  have e4 : ((((q.den : Int) - q.num).natAbs : Nat) : Int) = (q.den : Int) - q.num := by omega
  rw [e4]
/-- the levels that the law writes out -/
theorem rt_lit (n : Int) (d : Nat) (h : d ≠ 0) (c : n.natAbs.Coprime d) : rt ⟨n, d, h, c⟩ = .tup [.int n, .int (d : Int)] := rfl
theorem lv_mk {n : Int} {d : Nat} {h : d ≠ 0} {c : n.natAbs.Coprime d} (h0 : 0 ≤ n) (h1 : n < d) (hd : d ≤ 1000) : Lv ⟨n, d, h, c⟩ := by
  refine ⟨Rat.num_nonneg.mp h0, ?_, hd⟩
  rw [Rat.lt_iff]
  show n * ((1 : Nat) : Int) < 1 * (d : Int)
  omega
theorem lv_seventh {v : Int} (h0 : 0 ≤ v) (h1 : v < 7) : Lv (Rat.divInt v 7) := by
  have h : v = 0 ∨ v = 1 ∨ v = 2 ∨ v = 3 ∨ v = 4 ∨ v = 5 ∨ v = 6 := by omega
  rcases h with h | h | h | h | h | h | h <;> subst h <;> exact ⟨by decide +kernel, by decide +kernel, by decide +kernel⟩
/-- a level stands at x -/
def LvAt (H : Hp) (x : V) : Prop := ∃ (t : Addr) (q : Rat), x = .ref t ∧ H t = some (rt q) ∧ Lv q
theorem LvAt.same {H H' : Hp} {x : V} (h : LvAt H x) (s : Same H H') : LvAt H' x := by
  obtain ⟨t, q, e, a, b⟩ := h
  exact ⟨t, q, e, s _ _ a, b⟩
theorem LvAt.fr {H H' : Hp} {x : V} {r : Addr} {xs : List V} (h : LvAt H x) (f : Fr1 r H H') (hr : H r = some (.lst xs)) : LvAt H' x := by
  obtain ⟨t, q, e, a, b⟩ := h
  exact ⟨t, q, e, f _ _ (ne_of a hr (by intro z; cases z)) a, b⟩
theorem tab_fr {H H' : Hp} {T r : Addr} {xs : List V} (h : GxR.TabG H T) (f : Fr1 r H H') (hr : H r = some (.lst xs)) : GxR.TabG H' T := by
  obtain ⟨ps, a, b⟩ := h
  exact ⟨ps, f _ _ (ne_of a hr (by intro z; cases z)) a, b⟩
end Sh
set_option Elab.async false
set_option linter.all false
set_option maxRecDepth 100000
set_option maxHeartbeats 3900000
namespace Sh
open PySem PySem.Spec PyProof.Rows L2 GxR
/-- what the law keeps through a turn -/
structure Lw (K : PySem.W.Frag) (T1 T2 r a : Addr) (ns : List Int) (H : Hp) : Prop where
  row : Row K H r a ns
  t1 : TabG H T1
  t2 : TabG H T2
section
variable {K : PySem.W.Frag} {T1 T2 r a : Addr} {ns : List Int} {H H' : Hp}
theorem Lw.same (h : Lw K T1 T2 r a ns H) (s : Same H H') : Lw K T1 T2 r a ns H' := ⟨h.row.same s, tab_same h.t1 s, tab_same h.t2 s⟩
theorem Lw.fr (h : Lw K T1 T2 r a ns H) (f : Fr1 r H H') (e : Row K H' r a ns) : Lw K T1 T2 r a ns H' := by
  obtain ⟨xs, hr⟩ := h.row.some
  exact ⟨e, tab_fr h.t1 f hr, tab_fr h.t2 f hr⟩
theorem Lw.sm (h : Lw K T1 T2 r a ns H) (s : Sm T1 T2 H H') : Lw K T1 T2 r a ns H' := by
  refine ⟨?_, s.t1, s.t2⟩
  obtain ⟨i, j, k, h1, h2, h3⟩ := h.row
  obtain ⟨ps, p1, _⟩ := h.t1
  obtain ⟨qs, p2, _⟩ := h.t2
  refine ⟨i, j, k, s.keep _ _ (ne_of h1 p1 (by intro z; cases z)) (ne_of h1 p2 (by intro z; cases z)) h1, ?_, h3⟩
  rcases h2 with (h2 | ⟨o, h2⟩) | h2
  · exact .inl (.inl (s.keep _ _ (ne_of h2 p1 (by intro z; cases z)) (ne_of h2 p2 (by intro z; cases z)) h2))
  · exact .inl (.inr ⟨o, s.keep _ _ (ne_of h2 p1 (by intro z; cases z)) (ne_of h2 p2 (by intro z; cases z)) h2⟩)
  · exact .inr h2
end
theorem RA.sm {K : PySem.W.Frag} {T1 T2 : Addr} {H H' : Hp} {p : Addr} {q : Rat} (h : RA K H p q) (t1 : TabG H T1) (t2 : TabG H T2) (s : Sm T1 T2 H H') : RA K H' p q := by
  obtain ⟨ps, p1, _⟩ := t1
  obtain ⟨qs, p2, _⟩ := t2
  rcases h with (h | ⟨ob, h⟩) | h
  · exact .inl (.inl (s.keep _ _ (ne_of h p1 (by intro z; cases z)) (ne_of h p2 (by intro z; cases z)) h))
  · exact .inl (.inr ⟨ob, s.keep _ _ (ne_of h p1 (by intro z; cases z)) (ne_of h p2 (by intro z; cases z)) h⟩)
  · exact .inr h
/-- what stands through the edges' loop -/
structure Ed (K : PySem.W.Frag) (T1 T2 r a : Addr) (ns : List Int) (p lp c : Addr) (ks : List Int) (lv : Rat) (as : List Addr) (H : Hp) : Prop where
  lw : Lw K T1 T2 r a ns H
  cl : SqT K H p (ks.map V.int)
  lev : RA K H lp lv
  lst : H c = some (.lst (as.map V.ref))
  ch : RAs K H as (ks.map (chR ks.sum))
theorem Ed.same {K : PySem.W.Frag} {T1 T2 r a : Addr} {ns : List Int} {p lp c : Addr} {ks : List Int} {lv : Rat} {as : List Addr} {H H' : Hp} (h : Ed K T1 T2 r a ns p lp c ks lv as H) (s : Same H H') : Ed K T1 T2 r a ns p lp c ks lv as H' :=
  ⟨h.lw.same s, seqT s h.cl, h.lev.same s, s _ _ h.lst, h.ch.same s⟩
def spLaw (K : PySem.W.Frag) (T1 T2 : Addr) : Sp := fun vs H Q _ => ∃ (a : Addr) (ns : List Int), vs = [.ref a] ∧ SqL K H a (ns.map V.int) ∧ TabG H T1 ∧ TabG H T2 ∧ ∀ H', Q (.bl true) H'
/-- the defs that the law calls, with their promises -/
structure Defs (P : Program) (w : World) (K : PySem.W.Frag) (mg : Str → Option Value) (base : Heap) (T1 T2 : Addr) : Prop where
  taken : ∃ f fd, Fun K "_law_taken" "_law_taken" sTaken f fd ∧ FnOk P w K mg base CX0 1 f fd ["_law_row", "_law_many"] (spTaken K) ∧ Binds K fd ["_law_row", "_law_many"] [] ∧ mg "_law_taken" = some (.ref f)
  pick : ∃ f fd, Fun K "_law_pick" "_law_pick" sPick f fd ∧ FnOk P w K mg base CX0 2 f fd ["_law_row", "_law_things"] (spPick K) ∧ Binds K fd ["_law_row", "_law_things"] [] ∧ mg "_law_pick" = some (.ref f)
  claims : ∃ f fd, Fun K "_law_claims" "_law_claims" sLClaims f fd ∧ FnOk P w K mg base CX0 3 f fd ["_law_row", "_law_most"] (spLClaims K) ∧ Binds K fd ["_law_row", "_law_most"] [] ∧ mg "_law_claims" = some (.ref f)
  ratio : ∃ f fd, Fun K "_law_ratio" "_law_ratio" sLRatio f fd ∧ FnOk P w K mg base CX0 1 f fd ["_law_top", "_law_bottom"] spRatio ∧ Binds K fd ["_law_top", "_law_bottom"] [] ∧ mg "_law_ratio" = some (.ref f)
  chances : ∃ f fd, Fun K "_law_chances" "_law_chances" sLChances f fd ∧ FnOk P w K mg base CX0 2 f fd ["_law_claims_here"] (spChances K) ∧ Binds K fd ["_law_claims_here"] [] ∧ mg "_law_chances" = some (.ref f)
  by_ : ∃ f fd, Fun K "_law_by" "_law_by" sLBy f fd ∧ FnOk P w K mg base CX0 2 f fd ["_law_one", "_law_other"] (spBinS K (fun _ => True) (· * ·)) ∧ Binds K fd ["_law_one", "_law_other"] [] ∧ mg "_law_by" = some (.ref f)
  plus : ∃ f fd, Fun K "_law_plus" "_law_plus" sLPlus f fd ∧ FnOk P w K mg base CX0 2 f fd ["_law_one", "_law_other"] (spBinS K (fun _ => True) (· + ·)) ∧ Binds K fd ["_law_one", "_law_other"] [] ∧ mg "_law_plus" = some (.ref f)
  above : ∃ f fd, Fun K "_law_above" "_law_above" sLAbove f fd ∧ FnOk P w K mg base CX0 4 f fd ["_law_chances_here", "_law_edge"] (spLAbove K) ∧ Binds K fd ["_law_chances_here", "_law_edge"] [] ∧ mg "_law_above" = some (.ref f)
  below : ∃ f fd, Fun K "_law_below" "_law_below" sLBelow f fd ∧ FnOk P w K mg base CX0 1 f fd ["_law_one", "_law_other"] (spLess K) ∧ Binds K fd ["_law_one", "_law_other"] [] ∧ mg "_law_below" = some (.ref f)
  alike : ∃ f fd, Fun K "_law_alike" "_law_alike" sAlike f fd ∧ FnOk P w K mg base CX0 2 f fd ["_law_found", "_law_due"] (spAlike K) ∧ Binds K fd ["_law_found", "_law_due"] [] ∧ mg "_law_alike" = some (.ref f)
  short : ∃ f fd, Fun K "shortfall" "shortfall" sShortfall f fd ∧ FnOk P w K mg base CX0 5 f fd ["claims", "level"] (spShortfall K T1 T2) ∧ Binds K fd ["claims", "level"] [] ∧ mg "shortfall" = some (.ref f)
  len : mg "len" = none
  range : mg "range" = none
section
variable {base : Heap} {mg : Str → Option Value} {K : PySem.W.Frag} {w : World} {P : Program}
theorem scLaw : FnScope ["_law_script", "_law_row", "_law_turn", "_law_claims_here", "_law_level", "_law_chances_here", "_law_due", "_law_edge", "_law_more", "_law_here"] ["_law_script"] (defScope sLaw) := ⟨rfl, rfl, rfl, by decide +kernel, rfl, by decide +kernel, by decide +kernel⟩
theorem ok_law {f T1 T2 : Addr} {fd : FuncData} (F : Fun K "law" "law" sLaw f fd) (X : Defs P w K mg base T1 T2) : FnOk P w K mg base CX0 6 f fd ["_law_script"] (spLaw K T1 T2) := by
  obtain ⟨f1, d1, F1, G1, b1, g1⟩ := X.taken
  obtain ⟨f2, d2, F2, G2, b2, g2⟩ := X.pick
  obtain ⟨f3, d3, F3, G3, b3, g3⟩ := X.claims
  obtain ⟨f4, d4, F4, G4, b4, g4⟩ := X.ratio
  obtain ⟨f5, d5, F5, G5, b5, g5⟩ := X.chances
  obtain ⟨f6, d6, F6, G6, b6, g6⟩ := X.by_
  obtain ⟨f7, d7, F7, G7, b7, g7⟩ := X.plus
  obtain ⟨f8, d8, F8, G8, b8, g8⟩ := X.above
  obtain ⟨f9, d9, F9, G9, b9, g9⟩ := X.below
  obtain ⟨f10, d10, F10, G10, b10, g10⟩ := X.alike
  obtain ⟨f11, d11, F11, G11, b11, g11⟩ := X.short
  have mL := X.len
  have mR := X.range
  refine F.ok scLaw (fun vs H Q E h => ?_) (fun cdv A outer s H vs Q E hr h => ?_)
  · obtain ⟨a, ns, rfl, _⟩ := h
    rfl
  · obtain ⟨a, ns, rfl, hS, t1, t2, q⟩ := h
    have r1 : Room 1 _ := hr.mono (by decide)
    have r2 : Room 2 _ := hr.mono (by decide)
    have r3 : Room 3 _ := hr.mono (by decide)
    have r4 : Room 4 _ := hr.mono (by decide)
    refine ⟨_, pss_cons (ps_set (i := 1) scLaw.nd rfl (.inl rfl) (pe_lst (pa_cons (pv 0) (pa_cons pe_int (pa_cons pe_int (pa_cons pe_int pa_nil))))))
      (pss_cons (ps_for PassesOwn.never rfl (pi_range1 (by rfl) mR (pa_cons pe_int pa_nil)) (pg_name (i := 2) scLaw.nd rfl (.inl rfl))
        (pss_cons (ps_set (i := 3) scLaw.nd rfl (.inl rfl) (pe_call G3 r3 (by rfl) g3 F3.kp b3 .nil pass0 (pa_cons (pv 1) (pa_cons pe_int pa_nil))))
        (pss_cons (ps_set (i := 4) scLaw.nd rfl (.inl rfl) (pe_call G2 r2 (by rfl) g2 F2.kp b2 .nil pass0 (pa_cons (pv 1) (pa_cons (pe_lst (pa_cons (pe_tup (pa_cons pe_int (pa_cons pe_int pa_nil))) (pa_cons (pe_tup (pa_cons pe_int (pa_cons pe_int pa_nil))) (pa_cons (pe_tup (pa_cons pe_int (pa_cons pe_int pa_nil))) (pa_cons (pe_tup (pa_cons pe_int (pa_cons pe_int pa_nil))) (pa_cons (pe_tup (pa_cons pe_int (pa_cons pe_int pa_nil))) (pa_cons (pe_tup (pa_cons pe_int (pa_cons pe_int pa_nil)))
          (pa_cons (pe_call G4 r1 (by rfl) g4 F4.kp b4 .nil pass0 (pa_cons (pe_call G1 r1 (by rfl) g1 F1.kp b1 .nil pass0 (pa_cons (pv 1) (pa_cons pe_int pa_nil))) (pa_cons pe_int pa_nil))) pa_nil)))))))) pa_nil))))
        (pss_cons (ps_par (i := 5) (j := 6) rfl scLaw.nd rfl rfl (by decide) rfl rfl (pa_cons (pe_call G5 r2 (by rfl) g5 F5.kp b5 .nil pass0 (pa_cons (pv 3) pa_nil)) (pa_cons pe_non pa_nil)) (by rfl))
        (pss_cons (ps_for PassesOwn.never rfl (pi_range1 (by rfl) mR (pa_cons (pe_callB call_len_seq (by rfl) mL PySem.boot_len (pa_cons (pv 3) pa_nil)) pa_nil)) (pg_name (i := 7) scLaw.nd rfl (.inl rfl))
          (pss_cons (ps_set (i := 8) scLaw.nd rfl (.inl rfl) (pe_call G6 r2 (by rfl) g6 F6.kp b6 .nil pass0 (pa_cons (pe_call G8 r4 (by rfl) g8 F8.kp b8 .nil pass0 (pa_cons (pv 5) (pa_cons (pv 7) pa_nil)))
            (pa_cons (pe_tup (pa_cons (pe_ix ix_tup (pv 4) pe_int (fun _ _ => rfl)) (pa_cons (pe_op op_sub (pe_ix ix_tup (pv 4) pe_int (fun _ _ => rfl)) (pe_ix ix_tup (pv 4) pe_int (fun _ _ => rfl))) pa_nil))) pa_nil))))
          (pss_cons (ps_set (i := 9) scLaw.nd rfl (.inl rfl) (pe_call G7 r2 (by rfl) g7 F7.kp b7 .nil pass0 (pa_cons (pe_tup (pa_cons (pv 7) (pa_cons pe_int pa_nil))) (pa_cons (pv 8) pa_nil))))
          (pss_one (ps_set (i := 6) scLaw.nd rfl (.inl rfl) (pe_ifExp (PW.pt (pw_or (pt_cmpR op_isN (pv 6) pe_non (nomark _)) (pw_or1 (pt_val (pe_call G9 r1 (by rfl) g9 F9.kp b9 .nil pass0 (pa_cons (pv 9) (pa_cons (pv 6) pa_nil))))))) (pv 9) (pv 6)))))))
        (pss_one (ps_if (pt_not (pt_val (pe_call G10 r2 (by rfl) g10 F10.kp b10 .nil pass0 (pa_cons (pe_call G11 hr (by rfl) g11 F11.kp b11 .nil pass0 (pa_cons (pv 3) (pa_cons (pv 4) pa_nil))) (pa_cons (pv 6) pa_nil))))) pss_never pss_nil))))))) (pss_one (ps_ret pe_bl))), ?_⟩
    -- the row is made
    refine ⟨_, rfl, (by show 4 ≤ sizeLine; decide), fun r hrn => ?_⟩
    have s0 : Same H (upd H r (.lst [.ref a, .int 0, .int 3442, .int 0])) := same_upd hrn
    have lw0 : Lw K T1 T2 r a ns (upd H r (.lst [.ref a, .int 0, .int 3442, .int 0])) := ⟨⟨0, 3442, 0, upd_same, s0.seq hS, by decide, by decide, by decide, by decide⟩, tab_same t1 s0, tab_same t2 s0⟩
    refine ⟨2, rfl, by decide, by decide, for_range (lo := 0) (n := (2 : Int).toNat) (fun i σ H' => ∃ v2 v3 v4 v5 v6 v7 v8 v9 : Option V, σ = [some (.ref a), some (.ref r), v2, v3, v4, v5, v6, v7, v8, v9] ∧ Lw K T1 T2 r a ns H')
      ⟨none, none, none, none, none, none, none, none, rfl, lw0⟩ ?_ ?_⟩
    · rintro i σ H0 hi ⟨v2, v3, v4, v5, v6, v7, v8, v9, rfl, lw⟩
      -- claims
      refine ⟨_, rfl, r, a, ns, rfl, lw.row, fun H1 p ks hc ep row1 fr1 => ?_⟩
      have lw1 := lw.fr fr1 row1
      -- the level
      refine ⟨_, rfl, (by show 2 ≤ sizeLine; decide), fun a1 n1 => ⟨(by show 2 ≤ sizeLine; decide), fun a2 n2 => ⟨(by show 2 ≤ sizeLine; decide), fun a3 n3 => ⟨(by show 2 ≤ sizeLine; decide), fun a4 n4 => ⟨(by show 2 ≤ sizeLine; decide), fun a5 n5 => ⟨(by show 2 ≤ sizeLine; decide), fun a6 n6 => ?_⟩⟩⟩⟩⟩⟩
      have s1 := same_upd (o := .tup [.int 0, .int 1]) n1
      have s2 := same_upd (o := .tup [.int 1, .int 2]) n2
      have s3 := same_upd (o := .tup [.int 9, .int 10]) n3
      have s4 := same_upd (o := .tup [.int 1, .int 3]) n4
      have s5 := same_upd (o := .tup [.int 999, .int 1000]) n5
      have s6 := same_upd (o := .tup [.int 19, .int 20]) n6
      have l1 : LvAt _ (.ref a1) := ⟨a1, ⟨0, 1, by decide, by decide⟩, rfl, upd_same (H := H1) (o := .tup [.int 0, .int 1]), lv_mk (by decide) (by decide) (by decide)⟩
      have l2 : LvAt _ (.ref a2) := ⟨a2, ⟨1, 2, by decide, by decide⟩, rfl, upd_same (H := upd H1 a1 (.tup [.int 0, .int 1])) (o := .tup [.int 1, .int 2]), lv_mk (by decide) (by decide) (by decide)⟩
      have l3 : LvAt _ (.ref a3) := ⟨a3, ⟨9, 10, by decide, by decide⟩, rfl, upd_same (H := upd (upd H1 a1 (.tup [.int 0, .int 1])) a2 (.tup [.int 1, .int 2])) (o := .tup [.int 9, .int 10]), lv_mk (by decide) (by decide) (by decide)⟩
      have l4 : LvAt _ (.ref a4) := ⟨a4, ⟨1, 3, by decide, by decide⟩, rfl, upd_same (H := upd (upd (upd H1 a1 (.tup [.int 0, .int 1])) a2 (.tup [.int 1, .int 2])) a3 (.tup [.int 9, .int 10])) (o := .tup [.int 1, .int 3]), lv_mk (by decide) (by decide) (by decide)⟩
      have l5 : LvAt _ (.ref a5) := ⟨a5, ⟨999, 1000, by decide, by decide⟩, rfl, upd_same (H := upd (upd (upd (upd H1 a1 (.tup [.int 0, .int 1])) a2 (.tup [.int 1, .int 2])) a3 (.tup [.int 9, .int 10])) a4 (.tup [.int 1, .int 3])) (o := .tup [.int 999, .int 1000]), lv_mk (by decide) (by decide) (by decide)⟩
      have l6 : LvAt _ (.ref a6) := ⟨a6, ⟨19, 20, by decide, by decide⟩, rfl, upd_same (H := upd (upd (upd (upd (upd H1 a1 (.tup [.int 0, .int 1])) a2 (.tup [.int 1, .int 2])) a3 (.tup [.int 9, .int 10])) a4 (.tup [.int 1, .int 3])) a5 (.tup [.int 999, .int 1000])) (o := .tup [.int 19, .int 20]), lv_mk (by decide) (by decide) (by decide)⟩
      have s16 := ((((s1.trans s2).trans s3).trans s4).trans s5).trans s6
      have m1 := l1.same ((((s2.trans s3).trans s4).trans s5).trans s6)
      have m2 := l2.same (((s3.trans s4).trans s5).trans s6)
      have m3 := l3.same ((s4.trans s5).trans s6)
      have m4 := l4.same (s5.trans s6)
      have m5 := l5.same s6
      have lw7 := lw1.same s16
      have ep7 := s16 _ _ ep
      clear l1 l2 l3 l4 l5 s1 s2 s3 s4 s5 s6 n1 n2 n3 n4 n5 n6
      generalize upd (upd (upd (upd (upd (upd H1 a1 (.tup [.int 0, .int 1])) a2 (.tup [.int 1, .int 2])) a3 (.tup [.int 9, .int 10])) a4 (.tup [.int 1, .int 3])) a5 (.tup [.int 999, .int 1000])) a6 (.tup [.int 19, .int 20]) = H7 at *
      refine ⟨_, rfl, r, a, ns, 7, rfl, by decide, by decide, lw7.row, fun H8 v v0 v1 row8 fr8 => ?_⟩
      obtain ⟨rx, hrx⟩ := lw7.row.some
      have lw8 := lw7.fr fr8 row8
      refine ⟨v, 7, rfl, by decide, up (m := 13) (small13 v0 (by omega)) (by decide), up (m := 13) (small13 (by decide) (by decide)) (by decide), fun u nu => ⟨(by show 7 ≤ sizeLine; decide), fun t nt => ?_⟩⟩
      have s8 := same_upd (o := rt (Rat.divInt v 7)) nu
      have s9 := same_upd (o := .lst [.ref a1, .ref a2, .ref a3, .ref a4, .ref a5, .ref a6, .ref u]) nt
      have lw9 := (lw8.same s8).same s9
      have ntr : t ≠ r := by
        obtain ⟨xs, e⟩ := (lw8.same s8).row.some
        exact (ne_of_none e nt).symm
      refine ⟨r, t, a, ns, _, rfl, lw9.row, upd_same, ntr, by simp, (by show 7 < 1000; decide), fun H10 x hx row10 fr10 => ?_⟩
      obtain ⟨ry, hry⟩ := lw9.row.some
      have lw10 := lw9.fr fr10 row10
      have all : LvAt H10 x := by
        have s89 := s8.trans s9
        have m7 : LvAt _ (.ref u) := ⟨u, _, rfl, upd_same (H := H8) (o := rt (Rat.divInt v 7)), lv_seventh v0 v1⟩
        simp only [List.not_mem_nil, List.mem_cons, or_false] at hx
        rcases hx with h | h | h | h | h | h | h
        · rw [h]
          exact ((m1.fr fr8 hrx).same s89).fr fr10 hry
        · rw [h]
          exact ((m2.fr fr8 hrx).same s89).fr fr10 hry
        · rw [h]
          exact ((m3.fr fr8 hrx).same s89).fr fr10 hry
        · rw [h]
          exact ((m4.fr fr8 hrx).same s89).fr fr10 hry
        · rw [h]
          exact ((m5.fr fr8 hrx).same s89).fr fr10 hry
        · rw [h]
          exact ((l6.fr fr8 hrx).same s89).fr fr10 hry
        · rw [h]
          exact (m7.same s9).fr fr10 hry
      have ep9 := s9 _ _ (s8 _ _ (fr8 p _ (ne_of ep7 hrx (by intro z; cases z)) ep7))
      have ep10 := fr10 p _ (ne_of ep9 hry (by intro z; cases z)) ep9
      clear m1 m2 m3 m4 m5 l6 hx lw7 lw8 lw9 s8 s9 fr8 fr10 hrx hry ep9 ep7 ntr nt nu row8 row10
      obtain ⟨lp, lv, rfl, elp, lok⟩ := all
      have hk : Ok6 ks := hc.ok
      have hl6 := hk.len
      -- the chances; no due yet
      refine ⟨_, rfl, p, ks, rfl, SqT.of ep10, hk, fun H11 c as s11 nc ec hC => ⟨_, _, rfl, ?_⟩⟩
      have ed : Ed K T1 T2 r a ns p lp c ks lv as H11 := ⟨lw10.same s11, seqT s11 (SqT.of ep10), (RA.of elp).same s11, ec, hC⟩
      clear s11 nc ec hC ep10 elp lw10
      have hsz := hk.sz
      have hlps : (ks.map (chR ks.sum)).length = ks.length := List.length_map _
      have hTz := lok.szT
      have hT1 := lok.T1
      have hrt := rt_T lok
      generalize hTT : 1 / (1 - lv) = T at hTz hT1 hrt
      have en : (((ks.map V.int).length : Int)).toNat = ks.length := by simp
      refine ⟨_, rfl, p, _, rfl, .inr ed.cl, _, rfl, by rw [List.length_map]; omega, by rw [List.length_map]; omega, ?_⟩
      show ∃ W, _
      rw [en]
      refine for_range (lo := 0) (n := ks.length) (fun e σ H' => ∃ (dv : V) (v7 v8 v9 : Option V), σ = [some (.ref a), some (.ref r), some (.int (0 + (i : Int))), some (.ref p), some (.ref lp), some (.ref c), some dv, v7, v8, v9] ∧ Ed K T1 T2 r a ns p lp c ks lv as H' ∧
          (e = 0 → dv = .non) ∧ (0 < e → ∃ d : Addr, dv = .ref d ∧ RA K H' d (dueR T (ks.map (chR ks.sum)) (e - 1))))
        ⟨.non, v7, v8, v9, rfl, ed, fun _ => rfl, fun z => absurd z (by decide)⟩ ?_ ?_
      · rintro e σ H12 he ⟨dv, w7, w8, w9, rfl, ed12, d0, d1⟩
        -- what is above the edge, by the part
        refine ⟨_, rfl, _, rfl, c, e, as, _, (by rw [Int.zero_add]; rfl), SqL.of ed12.lst, ed12.ch, by rw [hlps]; exact hl6, by omega, hsz, fun H13 u1 s13 e13 => ?_⟩
        have ed13 := ed12.same s13
        refine ⟨_, rfl, lp, _, 1, _, rfl, rfl, ed13.lev, atI_nat (j := 1) rfl, _, rfl, lp, _, 1, _, rfl, rfl, ed13.lev, atI_nat (j := 1) rfl, _, rfl, lp, _, 0, _, rfl, rfl, ed13.lev, atI_nat (j := 0) rfl, _, _, rfl, rfl, (by show 2 ≤ sizeLine; decide), fun t nt => ?_⟩
        have s14 := same_upd (o := .tup [.int (lv.den : Int), .int ((lv.den : Int) - lv.num)]) nt
        have hTt : RA K _ t T := RA.of (H := upd H13 t (.tup [.int (lv.den : Int), .int ((lv.den : Int) - lv.num)])) (by rw [upd_same, hrt])
        have za := sz_above hsz (by rw [hlps]; exact hl6) e
        refine ⟨u1, t, aboveR e (ks.map (chR ks.sum)), T, aboveR e (ks.map (chR ks.sum)) * T, rfl, RA.of (s14 _ _ e13), hTt, za.mono (by decide), hTz.mono (by decide), True.intro, rfl, fun H15 m s15 e15 => ?_⟩
        -- the edge added
        refine ⟨_, rfl, (by show 2 ≤ sizeLine; decide), fun t2 nt2 => ?_⟩
        have s16 := same_upd (o := .tup [.int (0 + (e : Int)), .int 1]) nt2
        have hte : RA K _ t2 (e : Rat) := RA.of (H := upd H15 t2 (.tup [.int (0 + (e : Int)), .int 1])) (by rw [upd_same, rt_nat, Int.zero_add])
        refine ⟨_, rfl, t2, m, (e : Rat), _, edgeR T (ks.map (chR ks.sum)) e, rfl, hte, RA.of (s16 _ _ e15), (sz_nat (n := 3) (by omega) (by decide)).mono (by decide), (sz_mul za hTz).mono (by decide), True.intro, rfl, fun H17 hh s17 e17 => ?_⟩
        have s1217 := (((s13.trans s14).trans s15).trans s16).trans s17
        have ed17 := ed12.same s1217
        have ze := sz_edge hTz hsz (by rw [hlps]; exact hl6) (e := e) (by omega)
        -- the least so far
        refine ⟨dv, rfl, rfl, decide (dv = .non), rfl, ?_⟩
        by_cases e0 : e = 0
        · rw [d0 e0, decide_eq_true rfl]
          refine iteT (iteT ⟨_, rfl, .ref hh, _, _, _, rfl, ed17, fun z => absurd z (by omega), fun _ => ⟨hh, rfl, ?_⟩⟩)
          subst e0
          exact RA.of e17
        · obtain ⟨d, rfl, hd⟩ := d1 (by omega)
          have hdn : decide (V.ref d = V.non) = false := by simp
          rw [hdn]
          have zd := sz_due hTz hsz (by rw [hlps]; exact hl6) (i := e - 1) (by omega)
          obtain ⟨e', rfl⟩ : ∃ e', e = e' + 1 := ⟨e - 1, by omega⟩
          rw [Nat.add_sub_cancel] at hd zd
          refine iteF ⟨_, rfl, _, rfl, hh, d, _, _, rfl, RA.of e17, hd.same s1217, ze.mono (by decide), zd.mono (by decide), _, rfl, ite2 (fun hlt => ?_) (fun hlt => ?_)⟩
          · have hl : edgeR T (ks.map (chR ks.sum)) (e' + 1) < dueR T (ks.map (chR ks.sum)) e' := of_decide_eq_true hlt
            refine ⟨_, rfl, .ref hh, _, _, _, rfl, ed17, fun z => absurd z (by omega), fun _ => ⟨hh, rfl, ?_⟩⟩
            have ee : dueR T (ks.map (chR ks.sum)) (e' + 1 + 1 - 1) = edgeR T (ks.map (chR ks.sum)) (e' + 1) := by
              show (if _ then _ else _) = _
              rw [if_pos hl]
            rw [ee]
            exact RA.of e17
          · have hl : ¬ edgeR T (ks.map (chR ks.sum)) (e' + 1) < dueR T (ks.map (chR ks.sum)) e' := fun z => hlt (decide_eq_true z)
            refine ⟨_, rfl, .ref d, _, _, _, rfl, ed17, fun z => absurd z (by omega), fun _ => ⟨d, rfl, ?_⟩⟩
            have ee : dueR T (ks.map (chR ks.sum)) (e' + 1 + 1 - 1) = dueR T (ks.map (chR ks.sum)) e' := by
              show (if _ then _ else _) = _
              rw [if_neg hl]
            rw [ee]
            exact hd.same s1217
      · rintro σ H18 ⟨dv, w7, w8, w9, rfl, ed18, _, d1⟩
        obtain ⟨d, rfl, hd⟩ := d1 hk.pos
        refine ⟨_, rfl, _, rfl, p, lp, ks, lv, rfl, ed18.cl, hk, ed18.lev, lok, ed18.lw.t1, ed18.lw.t2, fun H19 z sm ez => ?_⟩
        rw [hTT] at ez
        have ee := es_due hT1 hk.nn (M_ch1 hk.sum_pos) (by intro q0; have := hk.pos; rw [← hlps, q0] at this; exact absurd this (by decide))
        rw [ee, hlps] at ez
        refine ⟨_, rfl, z, d, _, rfl, RA.of ez, hd.sm ed18.lw.t1 ed18.lw.t2 sm, fun H20 s20 => ⟨true, rfl, yes_not ?_⟩⟩
        exact ⟨_, _, _, _, _, _, _, _, rfl, (ed18.lw.sm sm).same s20⟩
    · rintro σ H' ⟨v2, v3, v4, v5, v6, v7, v8, v9, rfl, lw⟩
      exact q H'
end
end Sh
set_option Elab.async false
set_option linter.all false
set_option maxRecDepth 100000
set_option maxHeartbeats 3900000
/-! What the top has left, told def by def, and the law's promise from it. -/
namespace Sh
open PySem PySem.Spec PyProof.Rows L2 GxR
/-- the def x stands in the written part -/
def HasDef (K : PySem.W.Frag) (mg : Str → Option Value) (x : Str) (st : Stmt) (ps : List Str) : Prop := ∃ (f : Addr) (fd : FuncData), Fun K x x st f fd ∧ Binds K fd ps [] ∧ mg x = some (.ref f)
def HasDefC (K : PySem.W.Frag) (mg : Str → Option Value) (x : Str) (st : Stmt) (ps : List Str) (c : Addr) : Prop := ∃ (f : Addr) (fd : FuncData), FunC K x x st f fd c ∧ Binds K fd ps [] ∧ mg x = some (.ref f)
section
variable {K : PySem.W.Frag} {mg : Str → Option Value} {h : Heap} {f : Addr} {od an : Option Addr} {sl : Array (Option Value)} {oc kV dc pm cd ct : Value} {c : Addr}
theorem has_ratio (X : K.In h) (G : h.Ns mainGlobals mg) (a : PySem.W.nsIn K mainGlobals "ratio" = some (some (.ref f))) (l : K.lookup f = some ⟨oc, od, .func (PySem.W.fnOf "ratio" "ratio" (defArgs sRatio) (defBody sRatio) (defScope sRatio) .none kV dc pm an cd ct), sl⟩) (e : PySem.W.codeIn K cd "ratio" = true) (k : PySem.W.keepIn K (.ref f) = true) : HasDef K mg "ratio" sRatio ["top", "bottom"] := by
  have F := fun_mk (st := sRatio) l e k
  exact ⟨f, _, F, F.binds (ps := ["top", "bottom"]) fun _ _ _ _ _ _ us hl => match us, hl with | [_, _], _ => rfl, PySem.W.mg_of X G a⟩
theorem has_plus (X : K.In h) (G : h.Ns mainGlobals mg) (a : PySem.W.nsIn K mainGlobals "plus" = some (some (.ref f))) (l : K.lookup f = some ⟨oc, od, .func (PySem.W.fnOf "plus" "plus" (defArgs sPlus) (defBody sPlus) (defScope sPlus) .none kV dc pm an cd ct), sl⟩) (e : PySem.W.codeIn K cd "plus" = true) (k : PySem.W.keepIn K (.ref f) = true) : HasDef K mg "plus" sPlus ["one", "other"] := by
  have F := fun_mk (st := sPlus) l e k
  exact ⟨f, _, F, F.binds (ps := ["one", "other"]) fun _ _ _ _ _ _ us hl => match us, hl with | [_, _], _ => rfl, PySem.W.mg_of X G a⟩
theorem has_minus (X : K.In h) (G : h.Ns mainGlobals mg) (a : PySem.W.nsIn K mainGlobals "minus" = some (some (.ref f))) (l : K.lookup f = some ⟨oc, od, .func (PySem.W.fnOf "minus" "minus" (defArgs sMinus) (defBody sMinus) (defScope sMinus) .none kV dc pm an cd ct), sl⟩) (e : PySem.W.codeIn K cd "minus" = true) (k : PySem.W.keepIn K (.ref f) = true) : HasDef K mg "minus" sMinus ["one", "other"] := by
  have F := fun_mk (st := sMinus) l e k
  exact ⟨f, _, F, F.binds (ps := ["one", "other"]) fun _ _ _ _ _ _ us hl => match us, hl with | [_, _], _ => rfl, PySem.W.mg_of X G a⟩
theorem has_by (X : K.In h) (G : h.Ns mainGlobals mg) (a : PySem.W.nsIn K mainGlobals "by" = some (some (.ref f))) (l : K.lookup f = some ⟨oc, od, .func (PySem.W.fnOf "by" "by" (defArgs sBy) (defBody sBy) (defScope sBy) .none kV dc pm an cd ct), sl⟩) (e : PySem.W.codeIn K cd "by" = true) (k : PySem.W.keepIn K (.ref f) = true) : HasDef K mg "by" sBy ["one", "other"] := by
  have F := fun_mk (st := sBy) l e k
  exact ⟨f, _, F, F.binds (ps := ["one", "other"]) fun _ _ _ _ _ _ us hl => match us, hl with | [_, _], _ => rfl, PySem.W.mg_of X G a⟩
theorem has_over (X : K.In h) (G : h.Ns mainGlobals mg) (a : PySem.W.nsIn K mainGlobals "over" = some (some (.ref f))) (l : K.lookup f = some ⟨oc, od, .func (PySem.W.fnOf "over" "over" (defArgs sOver) (defBody sOver) (defScope sOver) .none kV dc pm an cd ct), sl⟩) (e : PySem.W.codeIn K cd "over" = true) (k : PySem.W.keepIn K (.ref f) = true) : HasDef K mg "over" sOver ["one", "other"] := by
  have F := fun_mk (st := sOver) l e k
  exact ⟨f, _, F, F.binds (ps := ["one", "other"]) fun _ _ _ _ _ _ us hl => match us, hl with | [_, _], _ => rfl, PySem.W.mg_of X G a⟩
theorem has_less (X : K.In h) (G : h.Ns mainGlobals mg) (a : PySem.W.nsIn K mainGlobals "less" = some (some (.ref f))) (l : K.lookup f = some ⟨oc, od, .func (PySem.W.fnOf "less" "less" (defArgs sLess) (defBody sLess) (defScope sLess) .none kV dc pm an cd ct), sl⟩) (e : PySem.W.codeIn K cd "less" = true) (k : PySem.W.keepIn K (.ref f) = true) : HasDef K mg "less" sLess ["one", "other"] := by
  have F := fun_mk (st := sLess) l e k
  exact ⟨f, _, F, F.binds (ps := ["one", "other"]) fun _ _ _ _ _ _ us hl => match us, hl with | [_, _], _ => rfl, PySem.W.mg_of X G a⟩
theorem has_total (X : K.In h) (G : h.Ns mainGlobals mg) (a : PySem.W.nsIn K mainGlobals "total" = some (some (.ref f))) (l : K.lookup f = some ⟨oc, od, .func (PySem.W.fnOf "total" "total" (defArgs sTotal) (defBody sTotal) (defScope sTotal) .none kV dc pm an cd ct), sl⟩) (e : PySem.W.codeIn K cd "total" = true) (k : PySem.W.keepIn K (.ref f) = true) : HasDef K mg "total" sTotal ["some"] := by
  have F := fun_mk (st := sTotal) l e k
  exact ⟨f, _, F, F.binds (ps := ["some"]) fun _ _ _ _ _ _ us hl => match us, hl with | [_], _ => rfl, PySem.W.mg_of X G a⟩
theorem has_is_in (X : K.In h) (G : h.Ns mainGlobals mg) (a : PySem.W.nsIn K mainGlobals "is_in" = some (some (.ref f))) (l : K.lookup f = some ⟨oc, od, .func (PySem.W.fnOf "is_in" "is_in" (defArgs sIsIn) (defBody sIsIn) (defScope sIsIn) .none kV dc pm an cd ct), sl⟩) (e : PySem.W.codeIn K cd "is_in" = true) (k : PySem.W.keepIn K (.ref f) = true) : HasDef K mg "is_in" sIsIn ["value", "least", "most"] := by
  have F := fun_mk (st := sIsIn) l e k
  exact ⟨f, _, F, F.binds (ps := ["value", "least", "most"]) fun _ _ _ _ _ _ us hl => match us, hl with | [_, _, _], _ => rfl, PySem.W.mg_of X G a⟩
theorem has_chances_of (X : K.In h) (G : h.Ns mainGlobals mg) (a : PySem.W.nsIn K mainGlobals "chances_of" = some (some (.ref f))) (l : K.lookup f = some ⟨oc, od, .func (PySem.W.fnOf "chances_of" "chances_of" (defArgs sChancesOf) (defBody sChancesOf) (defScope sChancesOf) .none kV dc pm an cd ct), sl⟩) (e : PySem.W.codeIn K cd "chances_of" = true) (k : PySem.W.keepIn K (.ref f) = true) : HasDef K mg "chances_of" sChancesOf ["claims"] := by
  have F := fun_mk (st := sChancesOf) l e k
  exact ⟨f, _, F, F.binds (ps := ["claims"]) fun _ _ _ _ _ _ us hl => match us, hl with | [_], _ => rfl, PySem.W.mg_of X G a⟩
theorem has_need_level (X : K.In h) (G : h.Ns mainGlobals mg) (a : PySem.W.nsIn K mainGlobals "need_level" = some (some (.ref f))) (l : K.lookup f = some ⟨oc, od, .func (PySem.W.fnOf "need_level" "need_level" (defArgs sNeedLevel) (defBody sNeedLevel) (defScope sNeedLevel) .none kV dc pm an cd ct), sl⟩) (e : PySem.W.codeIn K cd "need_level" = true) (k : PySem.W.keepIn K (.ref f) = true) : HasDef K mg "need_level" sNeedLevel ["claims", "level"] := by
  have F := fun_mk (st := sNeedLevel) l e k
  exact ⟨f, _, F, F.binds (ps := ["claims", "level"]) fun _ _ _ _ _ _ us hl => match us, hl with | [_, _], _ => rfl, PySem.W.mg_of X G a⟩
theorem has_view_of (X : K.In h) (G : h.Ns mainGlobals mg) (a : PySem.W.nsIn K mainGlobals "view_of" = some (some (.ref f))) (l : K.lookup f = some ⟨oc, od, .func (PySem.W.fnOf "view_of" "view_of" (defArgs sViewOf) (defBody sViewOf) (defScope sViewOf) .none kV dc pm an cd ct), sl⟩) (e : PySem.W.codeIn K cd "view_of" = true) (k : PySem.W.keepIn K (.ref f) = true) : HasDef K mg "view_of" sViewOf ["claims", "level"] := by
  have F := fun_mk (st := sViewOf) l e k
  exact ⟨f, _, F, F.binds (ps := ["claims", "level"]) fun _ _ _ _ _ _ us hl => match us, hl with | [_, _], _ => rfl, PySem.W.mg_of X G a⟩
theorem has_expected (X : K.In h) (G : h.Ns mainGlobals mg) (a : PySem.W.nsIn K mainGlobals "expected" = some (some (.ref f))) (l : K.lookup f = some ⟨oc, od, .func (PySem.W.fnOf "expected" "expected" (defArgs sExpected) (defBody sExpected) (defScope sExpected) .none kV dc pm an cd ct), sl⟩) (e : PySem.W.codeIn K cd "expected" = true) (k : PySem.W.keepIn K (.ref f) = true) : HasDef K mg "expected" sExpected ["claims", "view"] := by
  have F := fun_mk (st := sExpected) l e k
  exact ⟨f, _, F, F.binds (ps := ["claims", "view"]) fun _ _ _ _ _ _ us hl => match us, hl with | [_, _], _ => rfl, PySem.W.mg_of X G a⟩
theorem has_shortfall (X : K.In h) (G : h.Ns mainGlobals mg) (a : PySem.W.nsIn K mainGlobals "shortfall" = some (some (.ref f))) (l : K.lookup f = some ⟨oc, od, .func (PySem.W.fnOf "shortfall" "shortfall" (defArgs sShortfall) (defBody sShortfall) (defScope sShortfall) .none kV dc pm an cd ct), sl⟩) (e : PySem.W.codeIn K cd "shortfall" = true) (k : PySem.W.keepIn K (.ref f) = true) : HasDef K mg "shortfall" sShortfall ["claims", "level"] := by
  have F := fun_mk (st := sShortfall) l e k
  exact ⟨f, _, F, F.binds (ps := ["claims", "level"]) fun _ _ _ _ _ _ us hl => match us, hl with | [_, _], _ => rfl, PySem.W.mg_of X G a⟩
theorem has__law_taken (X : K.In h) (G : h.Ns mainGlobals mg) (a : PySem.W.nsIn K mainGlobals "_law_taken" = some (some (.ref f))) (l : K.lookup f = some ⟨oc, od, .func (PySem.W.fnOf "_law_taken" "_law_taken" (defArgs sTaken) (defBody sTaken) (defScope sTaken) .none kV dc pm an cd ct), sl⟩) (e : PySem.W.codeIn K cd "_law_taken" = true) (k : PySem.W.keepIn K (.ref f) = true) : HasDef K mg "_law_taken" sTaken ["_law_row", "_law_many"] := by
  have F := fun_mk (st := sTaken) l e k
  exact ⟨f, _, F, F.binds (ps := ["_law_row", "_law_many"]) fun _ _ _ _ _ _ us hl => match us, hl with | [_, _], _ => rfl, PySem.W.mg_of X G a⟩
theorem has__law_pick (X : K.In h) (G : h.Ns mainGlobals mg) (a : PySem.W.nsIn K mainGlobals "_law_pick" = some (some (.ref f))) (l : K.lookup f = some ⟨oc, od, .func (PySem.W.fnOf "_law_pick" "_law_pick" (defArgs sPick) (defBody sPick) (defScope sPick) .none kV dc pm an cd ct), sl⟩) (e : PySem.W.codeIn K cd "_law_pick" = true) (k : PySem.W.keepIn K (.ref f) = true) : HasDef K mg "_law_pick" sPick ["_law_row", "_law_things"] := by
  have F := fun_mk (st := sPick) l e k
  exact ⟨f, _, F, F.binds (ps := ["_law_row", "_law_things"]) fun _ _ _ _ _ _ us hl => match us, hl with | [_, _], _ => rfl, PySem.W.mg_of X G a⟩
theorem has__law_alike (X : K.In h) (G : h.Ns mainGlobals mg) (a : PySem.W.nsIn K mainGlobals "_law_alike" = some (some (.ref f))) (l : K.lookup f = some ⟨oc, od, .func (PySem.W.fnOf "_law_alike" "_law_alike" (defArgs sAlike) (defBody sAlike) (defScope sAlike) .none kV dc pm an cd ct), sl⟩) (e : PySem.W.codeIn K cd "_law_alike" = true) (k : PySem.W.keepIn K (.ref f) = true) : HasDef K mg "_law_alike" sAlike ["_law_found", "_law_due"] := by
  have F := fun_mk (st := sAlike) l e k
  exact ⟨f, _, F, F.binds (ps := ["_law_found", "_law_due"]) fun _ _ _ _ _ _ us hl => match us, hl with | [_, _], _ => rfl, PySem.W.mg_of X G a⟩
theorem has__law_ratio (X : K.In h) (G : h.Ns mainGlobals mg) (a : PySem.W.nsIn K mainGlobals "_law_ratio" = some (some (.ref f))) (l : K.lookup f = some ⟨oc, od, .func (PySem.W.fnOf "_law_ratio" "_law_ratio" (defArgs sLRatio) (defBody sLRatio) (defScope sLRatio) .none kV dc pm an cd ct), sl⟩) (e : PySem.W.codeIn K cd "_law_ratio" = true) (k : PySem.W.keepIn K (.ref f) = true) : HasDef K mg "_law_ratio" sLRatio ["_law_top", "_law_bottom"] := by
  have F := fun_mk (st := sLRatio) l e k
  exact ⟨f, _, F, F.binds (ps := ["_law_top", "_law_bottom"]) fun _ _ _ _ _ _ us hl => match us, hl with | [_, _], _ => rfl, PySem.W.mg_of X G a⟩
theorem has__law_plus (X : K.In h) (G : h.Ns mainGlobals mg) (a : PySem.W.nsIn K mainGlobals "_law_plus" = some (some (.ref f))) (l : K.lookup f = some ⟨oc, od, .func (PySem.W.fnOf "_law_plus" "_law_plus" (defArgs sLPlus) (defBody sLPlus) (defScope sLPlus) .none kV dc pm an cd ct), sl⟩) (e : PySem.W.codeIn K cd "_law_plus" = true) (k : PySem.W.keepIn K (.ref f) = true) : HasDef K mg "_law_plus" sLPlus ["_law_one", "_law_other"] := by
  have F := fun_mk (st := sLPlus) l e k
  exact ⟨f, _, F, F.binds (ps := ["_law_one", "_law_other"]) fun _ _ _ _ _ _ us hl => match us, hl with | [_, _], _ => rfl, PySem.W.mg_of X G a⟩
theorem has__law_by (X : K.In h) (G : h.Ns mainGlobals mg) (a : PySem.W.nsIn K mainGlobals "_law_by" = some (some (.ref f))) (l : K.lookup f = some ⟨oc, od, .func (PySem.W.fnOf "_law_by" "_law_by" (defArgs sLBy) (defBody sLBy) (defScope sLBy) .none kV dc pm an cd ct), sl⟩) (e : PySem.W.codeIn K cd "_law_by" = true) (k : PySem.W.keepIn K (.ref f) = true) : HasDef K mg "_law_by" sLBy ["_law_one", "_law_other"] := by
  have F := fun_mk (st := sLBy) l e k
  exact ⟨f, _, F, F.binds (ps := ["_law_one", "_law_other"]) fun _ _ _ _ _ _ us hl => match us, hl with | [_, _], _ => rfl, PySem.W.mg_of X G a⟩
theorem has__law_sum (X : K.In h) (G : h.Ns mainGlobals mg) (a : PySem.W.nsIn K mainGlobals "_law_sum" = some (some (.ref f))) (l : K.lookup f = some ⟨oc, od, .func (PySem.W.fnOf "_law_sum" "_law_sum" (defArgs sLSum) (defBody sLSum) (defScope sLSum) .none kV dc pm an cd ct), sl⟩) (e : PySem.W.codeIn K cd "_law_sum" = true) (k : PySem.W.keepIn K (.ref f) = true) : HasDef K mg "_law_sum" sLSum ["_law_some"] := by
  have F := fun_mk (st := sLSum) l e k
  exact ⟨f, _, F, F.binds (ps := ["_law_some"]) fun _ _ _ _ _ _ us hl => match us, hl with | [_], _ => rfl, PySem.W.mg_of X G a⟩
theorem has__law_claims (X : K.In h) (G : h.Ns mainGlobals mg) (a : PySem.W.nsIn K mainGlobals "_law_claims" = some (some (.ref f))) (l : K.lookup f = some ⟨oc, od, .func (PySem.W.fnOf "_law_claims" "_law_claims" (defArgs sLClaims) (defBody sLClaims) (defScope sLClaims) .none kV dc pm an cd ct), sl⟩) (e : PySem.W.codeIn K cd "_law_claims" = true) (k : PySem.W.keepIn K (.ref f) = true) : HasDef K mg "_law_claims" sLClaims ["_law_row", "_law_most"] := by
  have F := fun_mk (st := sLClaims) l e k
  exact ⟨f, _, F, F.binds (ps := ["_law_row", "_law_most"]) fun _ _ _ _ _ _ us hl => match us, hl with | [_, _], _ => rfl, PySem.W.mg_of X G a⟩
theorem has__law_chances (X : K.In h) (G : h.Ns mainGlobals mg) (a : PySem.W.nsIn K mainGlobals "_law_chances" = some (some (.ref f))) (l : K.lookup f = some ⟨oc, od, .func (PySem.W.fnOf "_law_chances" "_law_chances" (defArgs sLChances) (defBody sLChances) (defScope sLChances) .none kV dc pm an cd ct), sl⟩) (e : PySem.W.codeIn K cd "_law_chances" = true) (k : PySem.W.keepIn K (.ref f) = true) : HasDef K mg "_law_chances" sLChances ["_law_claims_here"] := by
  have F := fun_mk (st := sLChances) l e k
  exact ⟨f, _, F, F.binds (ps := ["_law_claims_here"]) fun _ _ _ _ _ _ us hl => match us, hl with | [_], _ => rfl, PySem.W.mg_of X G a⟩
theorem has__law_above (X : K.In h) (G : h.Ns mainGlobals mg) (a : PySem.W.nsIn K mainGlobals "_law_above" = some (some (.ref f))) (l : K.lookup f = some ⟨oc, od, .func (PySem.W.fnOf "_law_above" "_law_above" (defArgs sLAbove) (defBody sLAbove) (defScope sLAbove) .none kV dc pm an cd ct), sl⟩) (e : PySem.W.codeIn K cd "_law_above" = true) (k : PySem.W.keepIn K (.ref f) = true) : HasDef K mg "_law_above" sLAbove ["_law_chances_here", "_law_edge"] := by
  have F := fun_mk (st := sLAbove) l e k
  exact ⟨f, _, F, F.binds (ps := ["_law_chances_here", "_law_edge"]) fun _ _ _ _ _ _ us hl => match us, hl with | [_, _], _ => rfl, PySem.W.mg_of X G a⟩
theorem has__law_below (X : K.In h) (G : h.Ns mainGlobals mg) (a : PySem.W.nsIn K mainGlobals "_law_below" = some (some (.ref f))) (l : K.lookup f = some ⟨oc, od, .func (PySem.W.fnOf "_law_below" "_law_below" (defArgs sLBelow) (defBody sLBelow) (defScope sLBelow) .none kV dc pm an cd ct), sl⟩) (e : PySem.W.codeIn K cd "_law_below" = true) (k : PySem.W.keepIn K (.ref f) = true) : HasDef K mg "_law_below" sLBelow ["_law_one", "_law_other"] := by
  have F := fun_mk (st := sLBelow) l e k
  exact ⟨f, _, F, F.binds (ps := ["_law_one", "_law_other"]) fun _ _ _ _ _ _ us hl => match us, hl with | [_, _], _ => rfl, PySem.W.mg_of X G a⟩
theorem has_law (X : K.In h) (G : h.Ns mainGlobals mg) (a : PySem.W.nsIn K mainGlobals "law" = some (some (.ref f))) (l : K.lookup f = some ⟨oc, od, .func (PySem.W.fnOf "law" "law" (defArgs sLaw) (defBody sLaw) (defScope sLaw) .none kV dc pm an cd ct), sl⟩) (e : PySem.W.codeIn K cd "law" = true) (k : PySem.W.keepIn K (.ref f) = true) : HasDef K mg "law" sLaw ["_law_script"] := by
  have F := fun_mk (st := sLaw) l e k
  exact ⟨f, _, F, F.binds (ps := ["_law_script"]) fun _ _ _ _ _ _ us hl => match us, hl with | [_], _ => rfl, PySem.W.mg_of X G a⟩
theorem has_is_ratio (X : K.In h) (G : h.Ns mainGlobals mg) (a : PySem.W.nsIn K mainGlobals "is_ratio" = some (some (.ref f))) (l : K.lookup f = some ⟨oc, od, .func (PySem.W.fnOf "is_ratio" "is_ratio" (defArgs sIsRatio) (defBody sIsRatio) (defScope sIsRatio) .none kV dc pm an (.ref c) ct), sl⟩) (e : PySem.W.codeIn K (.ref c) "is_ratio" = true) (k : PySem.W.keepIn K (.ref f) = true) : HasDefC K mg "is_ratio" sIsRatio ["value"] c := by
  have F : FunC K "is_ratio" "is_ratio" sIsRatio f _ c := ⟨⟨oc, od, kV, dc, pm, an, ct, sl, rfl, l, e⟩, k⟩
  exact ⟨f, _, F, F.toFun.binds (ps := ["value"]) fun _ _ _ _ _ _ us hl => match us, hl with | [_], _ => rfl, PySem.W.mg_of X G a⟩
theorem has_need_claims (X : K.In h) (G : h.Ns mainGlobals mg) (a : PySem.W.nsIn K mainGlobals "need_claims" = some (some (.ref f))) (l : K.lookup f = some ⟨oc, od, .func (PySem.W.fnOf "need_claims" "need_claims" (defArgs sNeedClaims) (defBody sNeedClaims) (defScope sNeedClaims) .none kV dc pm an (.ref c) ct), sl⟩) (e : PySem.W.codeIn K (.ref c) "need_claims" = true) (k : PySem.W.keepIn K (.ref f) = true) : HasDefC K mg "need_claims" sNeedClaims ["claims", "most"] c := by
  have F : FunC K "need_claims" "need_claims" sNeedClaims f _ c := ⟨⟨oc, od, kV, dc, pm, an, ct, sl, rfl, l, e⟩, k⟩
  exact ⟨f, _, F, F.toFun.binds (ps := ["claims", "most"]) fun _ _ _ _ _ _ us hl => match us, hl with | [_, _], _ => rfl, PySem.W.mg_of X G a⟩
end
/-- all that the walk asks of the top -/
structure Top0 (K : PySem.W.Frag) (mg : Str → Option Value) (c1 c2 : Addr) : Prop where
  d_ratio : HasDef K mg "ratio" sRatio ["top", "bottom"]
  d_plus : HasDef K mg "plus" sPlus ["one", "other"]
  d_minus : HasDef K mg "minus" sMinus ["one", "other"]
  d_by : HasDef K mg "by" sBy ["one", "other"]
  d_over : HasDef K mg "over" sOver ["one", "other"]
  d_less : HasDef K mg "less" sLess ["one", "other"]
  d_total : HasDef K mg "total" sTotal ["some"]
  d_is_in : HasDef K mg "is_in" sIsIn ["value", "least", "most"]
  d_chances_of : HasDef K mg "chances_of" sChancesOf ["claims"]
  d_need_level : HasDef K mg "need_level" sNeedLevel ["claims", "level"]
  d_view_of : HasDef K mg "view_of" sViewOf ["claims", "level"]
  d_expected : HasDef K mg "expected" sExpected ["claims", "view"]
  d_shortfall : HasDef K mg "shortfall" sShortfall ["claims", "level"]
  d__law_taken : HasDef K mg "_law_taken" sTaken ["_law_row", "_law_many"]
  d__law_pick : HasDef K mg "_law_pick" sPick ["_law_row", "_law_things"]
  d__law_alike : HasDef K mg "_law_alike" sAlike ["_law_found", "_law_due"]
  d__law_ratio : HasDef K mg "_law_ratio" sLRatio ["_law_top", "_law_bottom"]
  d__law_plus : HasDef K mg "_law_plus" sLPlus ["_law_one", "_law_other"]
  d__law_by : HasDef K mg "_law_by" sLBy ["_law_one", "_law_other"]
  d__law_sum : HasDef K mg "_law_sum" sLSum ["_law_some"]
  d__law_claims : HasDef K mg "_law_claims" sLClaims ["_law_row", "_law_most"]
  d__law_chances : HasDef K mg "_law_chances" sLChances ["_law_claims_here"]
  d__law_above : HasDef K mg "_law_above" sLAbove ["_law_chances_here", "_law_edge"]
  d__law_below : HasDef K mg "_law_below" sLBelow ["_law_one", "_law_other"]
  d_law : HasDef K mg "law" sLaw ["_law_script"]
  d_is_ratio : HasDefC K mg "is_ratio" sIsRatio ["value"] c1
  d_need_claims : HasDefC K mg "need_claims" sNeedClaims ["claims", "most"] c2
  n_len : mg "len" = none
  n_range : mg "range" = none
  n_isinstance : mg "isinstance" = none
  n_int : mg "int" = none
  n_bool : mg "bool" = none
  n_tuple : mg "tuple" = none
  n_list : mg "list" = none
  n_str : mg "str" = none
  n_all : mg "all" = none
  n_sum : mg "sum" = none
  n_abs : mg "abs" = none
  n_enumerate : mg "enumerate" = none
  g_gcd : mg "gcd" = some (.builtin "math.gcd")
  c_MOST_AMOUNTS : ∃ t, mg "MOST_AMOUNTS" = some (.int 13 t)
  c_MOST_WEIGHT : ∃ t, mg "MOST_WEIGHT" = some (.int 1000 t)
  c_MOST_BOTTOM : ∃ t, mg "MOST_BOTTOM" = some (.int 1000 t)
theorem top_law {P : Program} {w : World} {K : PySem.W.Frag} {mg : Str → Option Value} {base : Heap} {c1 c2 T1 T2 f_law : Addr} {x_law : FuncData} (F_law : Fun K "law" "law" sLaw f_law x_law) (D : Top0 K mg c1 c2) (B1 : TabB base mg c1 T1) (B2 : TabB base mg c2 T2) :
    FnOk P w K mg base CX0 6 f_law x_law ["_law_script"] (spLaw K T1 T2) := by
  obtain ⟨f_ratio, x_ratio, F_ratio, b_ratio, g_ratio⟩ := D.d_ratio
  obtain ⟨f_plus, x_plus, F_plus, b_plus, g_plus⟩ := D.d_plus
  obtain ⟨f_minus, x_minus, F_minus, b_minus, g_minus⟩ := D.d_minus
  obtain ⟨f_by, x_by, F_by, b_by, g_by⟩ := D.d_by
  obtain ⟨f_over, x_over, F_over, b_over, g_over⟩ := D.d_over
  obtain ⟨f_less, x_less, F_less, b_less, g_less⟩ := D.d_less
  obtain ⟨f_total, x_total, F_total, b_total, g_total⟩ := D.d_total
  obtain ⟨f_is_in, x_is_in, F_is_in, b_is_in, g_is_in⟩ := D.d_is_in
  obtain ⟨f_chances_of, x_chances_of, F_chances_of, b_chances_of, g_chances_of⟩ := D.d_chances_of
  obtain ⟨f_need_level, x_need_level, F_need_level, b_need_level, g_need_level⟩ := D.d_need_level
  obtain ⟨f_view_of, x_view_of, F_view_of, b_view_of, g_view_of⟩ := D.d_view_of
  obtain ⟨f_expected, x_expected, F_expected, b_expected, g_expected⟩ := D.d_expected
  obtain ⟨f_shortfall, x_shortfall, F_shortfall, b_shortfall, g_shortfall⟩ := D.d_shortfall
  obtain ⟨f__law_taken, x__law_taken, F__law_taken, b__law_taken, g__law_taken⟩ := D.d__law_taken
  obtain ⟨f__law_pick, x__law_pick, F__law_pick, b__law_pick, g__law_pick⟩ := D.d__law_pick
  obtain ⟨f__law_alike, x__law_alike, F__law_alike, b__law_alike, g__law_alike⟩ := D.d__law_alike
  obtain ⟨f__law_ratio, x__law_ratio, F__law_ratio, b__law_ratio, g__law_ratio⟩ := D.d__law_ratio
  obtain ⟨f__law_plus, x__law_plus, F__law_plus, b__law_plus, g__law_plus⟩ := D.d__law_plus
  obtain ⟨f__law_by, x__law_by, F__law_by, b__law_by, g__law_by⟩ := D.d__law_by
  obtain ⟨f__law_sum, x__law_sum, F__law_sum, b__law_sum, g__law_sum⟩ := D.d__law_sum
  obtain ⟨f__law_claims, x__law_claims, F__law_claims, b__law_claims, g__law_claims⟩ := D.d__law_claims
  obtain ⟨f__law_chances, x__law_chances, F__law_chances, b__law_chances, g__law_chances⟩ := D.d__law_chances
  obtain ⟨f__law_above, x__law_above, F__law_above, b__law_above, g__law_above⟩ := D.d__law_above
  obtain ⟨f__law_below, x__law_below, F__law_below, b__law_below, g__law_below⟩ := D.d__law_below
  obtain ⟨f_is_ratio, x_is_ratio, F_is_ratio, b_is_ratio, g_is_ratio⟩ := D.d_is_ratio
  obtain ⟨f_need_claims, x_need_claims, F_need_claims, b_need_claims, g_need_claims⟩ := D.d_need_claims
  obtain ⟨t_MOST_AMOUNTS, h_MOST_AMOUNTS⟩ := D.c_MOST_AMOUNTS
  obtain ⟨t_MOST_WEIGHT, h_MOST_WEIGHT⟩ := D.c_MOST_WEIGHT
  obtain ⟨t_MOST_BOTTOM, h_MOST_BOTTOM⟩ := D.c_MOST_BOTTOM
  have G_ratio : FnOk P w K mg base CX0 1 f_ratio x_ratio _ spRatio := ok_ratio F_ratio D.g_gcd
  have G_plus : FnOk P w K mg base CX0 2 f_plus x_plus _ _ := ok_plus F_plus F_ratio G_ratio b_ratio g_ratio
  have G_minus : FnOk P w K mg base CX0 2 f_minus x_minus _ _ := ok_minus F_minus F_ratio G_ratio b_ratio g_ratio
  have G_by : FnOk P w K mg base CX0 2 f_by x_by _ _ := ok_by F_by F_ratio G_ratio b_ratio g_ratio
  have G_over : FnOk P w K mg base CX0 2 f_over x_over _ _ := ok_over F_over F_ratio G_ratio b_ratio g_ratio
  have G_less : FnOk P w K mg base CX0 1 f_less x_less _ _ := ok_less F_less
  have G_total : FnOk P w K mg base CX0 3 f_total x_total _ _ := ok_total F_total F_plus G_plus b_plus g_plus
  have G_is_ratio : FnOk P w K mg base CX0 1 f_is_ratio x_is_ratio _ _ := ok_isratio F_is_ratio B1 D.n_isinstance D.n_int D.n_bool D.n_tuple D.n_len D.n_all D.g_gcd
  have G_need_claims : FnOk P w K mg base CX0 1 f_need_claims x_need_claims _ _ := ok_needclaims F_need_claims B2 F_is_in g_is_in h_MOST_WEIGHT D.n_isinstance D.n_int D.n_bool D.n_tuple D.n_len D.n_all
  have G_need_level : FnOk P w K mg base CX0 2 f_need_level x_need_level _ _ := ok_needlevel F_need_level F_need_claims.toFun G_need_claims b_need_claims g_need_claims F_is_ratio.toFun G_is_ratio b_is_ratio g_is_ratio h_MOST_AMOUNTS h_MOST_BOTTOM
  have G_chances_of : FnOk P w K mg base CX0 2 f_chances_of x_chances_of _ _ := ok_chances F_chances_of F_ratio G_ratio b_ratio g_ratio D.n_sum
  have G_view_of : FnOk P w K mg base CX0 3 f_view_of x_view_of _ _ := ok_viewof F_view_of F_by (bin_s G_by) b_by g_by F_over (bin_s G_over) b_over g_over F_minus (bin_s G_minus) b_minus g_minus F_less G_less b_less g_less F_chances_of G_chances_of b_chances_of g_chances_of
  have G_expected : FnOk P w K mg base CX0 4 f_expected x_expected _ _ := ok_expected F_expected F_by G_by b_by g_by F_total G_total b_total g_total F_chances_of G_chances_of b_chances_of g_chances_of D.n_enumerate
  have G_shortfall : FnOk P w K mg base CX0 5 f_shortfall x_shortfall _ _ := ok_shortfall F_shortfall F_need_level G_need_level b_need_level g_need_level F_view_of G_view_of b_view_of g_view_of F_expected G_expected b_expected g_expected
  have G__law_taken : FnOk P w K mg base CX0 1 f__law_taken x__law_taken _ _ := ok_taken F__law_taken D.n_int D.n_len
  have G__law_pick : FnOk P w K mg base CX0 2 f__law_pick x__law_pick _ _ := ok_pick F__law_pick F__law_taken G__law_taken b__law_taken g__law_taken D.n_len
  have G__law_claims : FnOk P w K mg base CX0 3 f__law_claims x__law_claims _ _ := ok_lclaims F__law_claims F__law_taken G__law_taken b__law_taken g__law_taken F__law_pick G__law_pick b__law_pick g__law_pick D.n_range D.n_tuple
  have G__law_ratio : FnOk P w K mg base CX0 1 f__law_ratio x__law_ratio _ spRatio := ok_lratio F__law_ratio D.n_abs D.n_int
  have G__law_plus : FnOk P w K mg base CX0 2 f__law_plus x__law_plus _ _ := ok_lplus F__law_plus F__law_ratio G__law_ratio b__law_ratio g__law_ratio
  have G__law_by : FnOk P w K mg base CX0 2 f__law_by x__law_by _ _ := ok_lby F__law_by F__law_ratio G__law_ratio b__law_ratio g__law_ratio
  have G__law_below : FnOk P w K mg base CX0 1 f__law_below x__law_below _ _ := ok_lbelow F__law_below
  have G__law_sum : FnOk P w K mg base CX0 3 f__law_sum x__law_sum _ _ := ok_lsum F__law_sum F__law_plus G__law_plus b__law_plus g__law_plus
  have G__law_above : FnOk P w K mg base CX0 4 f__law_above x__law_above _ _ := ok_labove F__law_above F__law_by G__law_by b__law_by g__law_by F__law_sum G__law_sum b__law_sum g__law_sum D.n_range D.n_len
  have G__law_chances : FnOk P w K mg base CX0 2 f__law_chances x__law_chances _ _ := ok_lchances F__law_chances F__law_ratio G__law_ratio b__law_ratio g__law_ratio D.n_sum
  have G__law_alike1 : FnOk P w K mg base CX0 1 f__law_alike x__law_alike _ _ := ok_alikeI F__law_alike D.n_isinstance D.n_tuple D.n_list D.n_str D.n_int D.n_bool
  have G__law_alike : FnOk P w K mg base CX0 2 f__law_alike x__law_alike _ _ := ok_alike F__law_alike G__law_alike1 b__law_alike g__law_alike D.n_isinstance D.n_tuple D.n_list D.n_len D.n_range
  have E : Defs P w K mg base T1 T2 := ⟨⟨_, _, F__law_taken, G__law_taken, b__law_taken, g__law_taken⟩, ⟨_, _, F__law_pick, G__law_pick, b__law_pick, g__law_pick⟩, ⟨_, _, F__law_claims, G__law_claims, b__law_claims, g__law_claims⟩, ⟨_, _, F__law_ratio, G__law_ratio, b__law_ratio, g__law_ratio⟩, ⟨_, _, F__law_chances, G__law_chances, b__law_chances, g__law_chances⟩,
    ⟨_, _, F__law_by, bin_s G__law_by, b__law_by, g__law_by⟩, ⟨_, _, F__law_plus, bin_s G__law_plus, b__law_plus, g__law_plus⟩, ⟨_, _, F__law_above, G__law_above, b__law_above, g__law_above⟩, ⟨_, _, F__law_below, G__law_below, b__law_below, g__law_below⟩, ⟨_, _, F__law_alike, G__law_alike, b__law_alike, g__law_alike⟩,
    ⟨_, _, F_shortfall, G_shortfall, b_shortfall, g_shortfall⟩, D.n_len, D.n_range⟩
  exact ok_law F_law E
end Sh
set_option Elab.async false
set_option linter.all false
set_option maxRecDepth 100000
set_option maxHeartbeats 3900000
/-! The end of the law's row: the walk with what the start's tables give. -/
namespace Sh
open PySem PySem.Spec PyProof.Rows L2 GxR
/-- a whole number among the module's names -/
def intAt (K : PySem.W.Frag) (x : Str) (n : Int) : Bool := match PySem.W.nsIn K mainGlobals x with
  | some (some (.int m _)) => m == n
  | _ => false
theorem int_at {K : PySem.W.Frag} {h : Heap} {mg : Str → Option Value} {x : Str} {n : Int} (X : K.In h) (G : h.Ns mainGlobals mg) (e : intAt K x n = true) : ∃ t, mg x = some (.int n t) := by
  unfold intAt at e
  split at e
  · rename_i m t q
    have z : m = n := beq_iff_eq.mp e
    subst z
    exact ⟨t, PySem.W.mg_of X G q⟩
  · cases e
/-- the defs' tables at the start -/
def Tabs (q : Program) (K : PySem.W.Frag) (h : Heap) : Prop := ∀ (y : Str) (c T : Addr), ((recsOf q).find? fun e => e.name == y).isSome = true → PySem.W.tabIn K y = some (c, T) → PySem.W.CodeHd h c T ∧ h.get? T = some (PySem.W.tabObj #[])
theorem walk_tab {l : PySem.W.OpenLaw} {q : Program} {loose : List Str} {XP : (Str → Option Value) → Heap → Prop} {YP : World → Heap → Prop} {d : DefRec} {KK : Params → PySem.W.Frag} (hmost : l.most = some 63) (hdef : d.params.defaults = []) (hname : d.name = ("law" : Str))
    (hk : ∀ (w : World) (h : Heap), YP w h → (KK w.params).In h)
    (top : ∀ (w : World) (mg : Str → Option Value) (h : Heap), YP w h → (KK w.params).In h → h.Ns mainGlobals mg → Tabs q (KK w.params) h →
      ∃ c1 c2 T1 T2, (PySem.W.CodeHd h c1 T1 ∧ h.get? T1 = some (PySem.W.tabObj #[])) ∧ (PySem.W.CodeHd h c2 T2 ∧ h.get? T2 = some (PySem.W.tabObj #[])) ∧ (KK w.params).lookup T1 = none ∧ (KK w.params).lookup T2 = none ∧ Top0 (KK w.params) mg c1 c2) : PySem.W.WalkO q loose XP YP l.row.toRowW d [] (fun f vs => PySem.call f vs) := by
  refine Att.attach_callB hmost hdef fun w _ s mg mb f o pm cd doc a vs ns G Y _ _ _ gf obj iv most bits gens => ?_
  have KX := hk w _ Y
  have tabs : Tabs q (KK w.params) s.heap := fun y c T hy ht => by
    obtain ⟨e, he⟩ := Option.isSome_iff_exists.mp hy
    exact PySem.W.tab_of G.T KX he ht
  obtain ⟨c1, c2, T1, T2, ⟨C1, E1⟩, ⟨C2, E2⟩, n1, n2, D⟩ := top w mg _ Y KX G.T.g tabs
  obtain ⟨f', fd, F, B, g⟩ := D.d_law
  rw [hname, g] at gf
  cases gf
  have key := fun H (hH : ∀ p ∈ [(c1, T1), (c2, T2)], H p.2 = some (.tbl #[])) (hS : SqL (KK w.params) H a (ns.map V.int)) =>
    (⟨a, ns, rfl, hS, ⟨#[], hH (c1, T1) (by simp), by simp [TriplesOk]⟩, ⟨#[], hH (c2, T2) (by simp), by simp [TriplesOk]⟩, fun _ => rfl⟩ : spLaw (KK w.params) T1 T2 [.ref a] H (fun v _ => v = .bl true) fun _ _ _ => False)
  have bind : ∀ (s : Shared) (u : Value), BindsTo s fd ⟨[u], []⟩ [("_law_script", u)] := by
    obtain ⟨Fx, _⟩ := F
    obtain ⟨oc, od, kV, dc, pm, an, cd, ct, sl, e, _, _⟩ := Fx
    intro s u
    rw [e]
    exact .of_eq rfl
  refine LamX.law_callTs (cs := [(c1, T1), (c2, T2)]) (k := 6) (CX := CX0) KX G.T.g G.T.b G.T.builtins G.T.nolimit gens ?_ ?_ ?_ G.T.bmain obj iv (Nat.le_trans most (by decide)) (by exact ⟨rfl, by decide, by decide⟩) (fun base hK hN TB => top_law F D ?_ ?_) bind key (fun _ _ _ h => h)
  · intro p hp
    simp only [List.mem_cons, List.not_mem_nil, or_false] at hp
    rcases hp with rfl | rfl
    · exact E1
    · exact E2
  · intro p hp
    simp only [List.mem_cons, List.not_mem_nil, or_false] at hp
    rcases hp with rfl | rfl
    · exact n1
    · exact n2
  · intro p hp
    simp only [List.mem_cons, List.not_mem_nil, or_false] at hp
    rcases hp with rfl | rfl
    · exact C1
    · exact C2
  · have t := TB (c1, T1) (by simp)
    exact ⟨t.code, t.bm, t.gP⟩
  · have t := TB (c2, T2) (by simp)
    exact ⟨t.code, t.bm, t.gP⟩
end Sh
open PyProof.Rows PySem PySem.W
set_option Elab.async false
set_option linter.all false
set_option maxRecDepth 90000 in
set_option maxHeartbeats 0 in
theorem PySem.Challenge.cw_actuarium_k42_whole_shortfalls_holds : PySem.Challenge.rw_actuarium_k42_whole_shortfalls.Holds := by
  w_on; o_law
  k_head
  (case hw => w_witness2)
  k_fill
  refine Sh.walk_tab rfl rfl rfl (fun w h Y => PySem.W.kIn_of Y) fun w mg h Y KX G tabs => ?_
  refine ⟨134, 148, 130, 144, tabs "is_ratio" 134 130 (by kernel_rfl) (by kernel_rfl), tabs "need_claims" 148 144 (by kernel_rfl) (by kernel_rfl), by kernel_rfl, by kernel_rfl, ?_⟩
  constructor
  · refine' Sh.has_ratio KX G ?a ?l ?e ?k
    (case a => k_is); (case l => k_is); (case e => k_is); (case k => k_is)
  · refine' Sh.has_plus KX G ?a ?l ?e ?k
    (case a => k_is); (case l => k_is); (case e => k_is); (case k => k_is)
  · refine' Sh.has_minus KX G ?a ?l ?e ?k
    (case a => k_is); (case l => k_is); (case e => k_is); (case k => k_is)
  · refine' Sh.has_by KX G ?a ?l ?e ?k
    (case a => k_is); (case l => k_is); (case e => k_is); (case k => k_is)
  · refine' Sh.has_over KX G ?a ?l ?e ?k
    (case a => k_is); (case l => k_is); (case e => k_is); (case k => k_is)
  · refine' Sh.has_less KX G ?a ?l ?e ?k
    (case a => k_is); (case l => k_is); (case e => k_is); (case k => k_is)
  · refine' Sh.has_total KX G ?a ?l ?e ?k
    (case a => k_is); (case l => k_is); (case e => k_is); (case k => k_is)
  · refine' Sh.has_is_in KX G ?a ?l ?e ?k
    (case a => k_is); (case l => k_is); (case e => k_is); (case k => k_is)
  · refine' Sh.has_chances_of KX G ?a ?l ?e ?k
    (case a => k_is); (case l => k_is); (case e => k_is); (case k => k_is)
  · refine' Sh.has_need_level KX G ?a ?l ?e ?k
    (case a => k_is); (case l => k_is); (case e => k_is); (case k => k_is)
  · refine' Sh.has_view_of KX G ?a ?l ?e ?k
    (case a => k_is); (case l => k_is); (case e => k_is); (case k => k_is)
  · refine' Sh.has_expected KX G ?a ?l ?e ?k
    (case a => k_is); (case l => k_is); (case e => k_is); (case k => k_is)
  · refine' Sh.has_shortfall KX G ?a ?l ?e ?k
    (case a => k_is); (case l => k_is); (case e => k_is); (case k => k_is)
  · refine' Sh.has__law_taken KX G ?a ?l ?e ?k
    (case a => k_is); (case l => k_is); (case e => k_is); (case k => k_is)
  · refine' Sh.has__law_pick KX G ?a ?l ?e ?k
    (case a => k_is); (case l => k_is); (case e => k_is); (case k => k_is)
  · refine' Sh.has__law_alike KX G ?a ?l ?e ?k
    (case a => k_is); (case l => k_is); (case e => k_is); (case k => k_is)
  · refine' Sh.has__law_ratio KX G ?a ?l ?e ?k
    (case a => k_is); (case l => k_is); (case e => k_is); (case k => k_is)
  · refine' Sh.has__law_plus KX G ?a ?l ?e ?k
    (case a => k_is); (case l => k_is); (case e => k_is); (case k => k_is)
  · refine' Sh.has__law_by KX G ?a ?l ?e ?k
    (case a => k_is); (case l => k_is); (case e => k_is); (case k => k_is)
  · refine' Sh.has__law_sum KX G ?a ?l ?e ?k
    (case a => k_is); (case l => k_is); (case e => k_is); (case k => k_is)
  · refine' Sh.has__law_claims KX G ?a ?l ?e ?k
    (case a => k_is); (case l => k_is); (case e => k_is); (case k => k_is)
  · refine' Sh.has__law_chances KX G ?a ?l ?e ?k
    (case a => k_is); (case l => k_is); (case e => k_is); (case k => k_is)
  · refine' Sh.has__law_above KX G ?a ?l ?e ?k
    (case a => k_is); (case l => k_is); (case e => k_is); (case k => k_is)
  · refine' Sh.has__law_below KX G ?a ?l ?e ?k
    (case a => k_is); (case l => k_is); (case e => k_is); (case k => k_is)
  · refine' Sh.has_law KX G ?a ?l ?e ?k
    (case a => k_is); (case l => k_is); (case e => k_is); (case k => k_is)
  · refine' Sh.has_is_ratio KX G ?a ?l ?e ?k
    (case a => k_is); (case l => k_is); (case e => k_is); (case k => k_is)
  · refine' Sh.has_need_claims KX G ?a ?l ?e ?k
    (case a => k_is); (case l => k_is); (case e => k_is); (case k => k_is)
  · exact PySem.W.mg_none_of KX G (by k_is)
  · exact PySem.W.mg_none_of KX G (by k_is)
  · exact PySem.W.mg_none_of KX G (by k_is)
  · exact PySem.W.mg_none_of KX G (by k_is)
  · exact PySem.W.mg_none_of KX G (by k_is)
  · exact PySem.W.mg_none_of KX G (by k_is)
  · exact PySem.W.mg_none_of KX G (by k_is)
  · exact PySem.W.mg_none_of KX G (by k_is)
  · exact PySem.W.mg_none_of KX G (by k_is)
  · exact PySem.W.mg_none_of KX G (by k_is)
  · exact PySem.W.mg_none_of KX G (by k_is)
  · exact PySem.W.mg_none_of KX G (by k_is)
  · exact PySem.W.mg_of KX G (by k_is)
  · exact Sh.int_at KX G (by kernel_rfl)
  · exact Sh.int_at KX G (by kernel_rfl)
  · exact Sh.int_at KX G (by kernel_rfl)
