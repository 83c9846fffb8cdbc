import PyProof.Rows.All
import Wide.All
import OpenK.AllK
import Wide.FinOn
import HandS.ForMost
import HandS.IsInst
import HandS.ClsMeth
import HandS.FStr
import HandS.Walk
import KE.KOpsOwn
import HandS.MakeKw
import HandS.Defaults
import HandS.Set
import HandS.More
import HandS.Strs
import PyProof.StrWalks
import PyProof.Rows.SetFrom
import PyProof.Rows.SortShellAny
import HandS.Evl
import PySem.Challenge.RW_ringdepth_k13_whole_words_by_letters
import HandS.Property
import HandS.Conv
import HandS.Dict
set_option Elab.async false
set_option linter.all false
section
/-! Endless words: the plain telling is one. Plain Lean, no program in sight. -/
namespace WM

/-- the letters of a lap, again and again -/
def lp (l : List Nat) (n : Nat) : Nat := l.getD (n % l.length) 0
/-- the letters of a begin and then of a lap, for ever -/
def om (b l : List Nat) (n : Nat) : Nat := if n < b.length then b.getD n 0 else lp l (n - b.length)
/-- p is a period of w from N on -/
def Per (w : Nat → Nat) (N p : Nat) : Prop := ∀ n, N ≤ n → w (n + p) = w n

theorem Per.mul {w : Nat → Nat} {N p : Nat} (h : Per w N p) : ∀ k, Per w N (k * p)
  | 0 => fun n _ => by rw [Nat.zero_mul, Nat.add_zero]
  | k + 1 => fun n hn => by
    have e : n + (k + 1) * p = n + k * p + p := by rw [Nat.add_mul, Nat.one_mul, Nat.add_assoc]
    rw [e, h (n + k * p) (by omega), Per.mul h k n hn]
theorem Per.mod {w : Nat → Nat} {N p q : Nat} (hp : Per w N p) (hq : Per w N q) : Per w N (q % p) := fun n hn => by
  have h1 := hp.mul (q / p) (n + q % p) (by omega)
  have e : n + q % p + q / p * p = n + q := by
    have := Nat.mod_add_div q p
    rw [Nat.mul_comm] at this
    omega
  rw [e] at h1
  rw [← h1]
  exact hq n hn
theorem Per.gcd {w : Nat → Nat} {N : Nat} : ∀ {p q : Nat}, Per w N p → Per w N q → Per w N (Nat.gcd p q) := by
  intro p q
  induction p, q using Nat.gcd.induction with
  | H0 q =>
    intro _ hq
    rw [Nat.gcd_zero_left]
    exact hq
  | H1 p q hpos ih =>
    intro hp hq
    rw [Nat.gcd_rec]
    exact ih (hp.mod hq) hp
theorem Per.back {w : Nat → Nat} {N M g p : Nat} (hg : Per w N g) (hp : Per w M p) (h0 : 0 < p) : Per w M g := fun n hn => by
  have k1 := hp.mul N (n + g) (by omega)
  have k2 := hp.mul N n hn
  have hl : N ≤ N * p := Nat.le_mul_of_pos_right N h0
  have k3 := hg (n + N * p) (by omega)
  have e : n + g + N * p = n + N * p + g := by omega
  rw [← k1, e, k3, k2]
theorem Per.later {w : Nat → Nat} {N M p : Nat} (h : Per w N p) (hm : N ≤ M) : Per w M p := fun n hn => h n (Nat.le_trans hm hn)

theorem lp_add (l : List Nat) (n k : Nat) : lp l (n + k * l.length) = lp l n := by
  unfold lp
  rw [Nat.add_mul_mod_self_right]
theorem om_ge {b l : List Nat} {n : Nat} (h : b.length ≤ n) : om b l n = lp l (n - b.length) := by
  unfold om
  rw [if_neg (Nat.not_lt.mpr h)]
theorem om_lt {b l : List Nat} {n : Nat} (h : n < b.length) : om b l n = b.getD n 0 := by
  unfold om
  rw [if_pos h]
theorem om_per (b l : List Nat) : Per (om b l) b.length l.length := fun n hn => by
  rw [om_ge hn, om_ge (by omega)]
  have e : n + l.length - b.length = n - b.length + 1 * l.length := by omega
  rw [e, lp_add]

/-- (B, L) is the plain telling of the word w -/
structure Plain (w : Nat → Nat) (B L : List Nat) : Prop where
  pos : 0 < L.length
  rep : ∀ n, om B L n = w n
  prim : ∀ d, 0 < d → d ∣ L.length → Per w B.length d → d = L.length
  last : ∀ k, B.length = k + 1 → w k ≠ w (k + L.length)

theorem Plain.per {w : Nat → Nat} {B L : List Nat} (h : Plain w B L) : Per w B.length L.length := fun n hn => by
  rw [← h.rep, ← h.rep]
  exact om_per B L n hn
theorem ext_getD {a b : List Nat} (hl : a.length = b.length) (h : ∀ i, i < a.length → a.getD i 0 = b.getD i 0) : a = b := by
  apply List.ext_getElem hl
  intro i h1 h2
  have := h i h1
  simpa [List.getD_eq_getElem?_getD, List.getElem?_eq_getElem h1, List.getElem?_eq_getElem h2] using this
theorem Plain.len {w : Nat → Nat} {B L B' L' : List Nat} (h : Plain w B L) (h' : Plain w B' L') : L.length = L'.length := by
  have hN : Per w (max B.length B'.length) (Nat.gcd L.length L'.length) := (h.per.later (Nat.le_max_left _ _)).gcd (h'.per.later (Nat.le_max_right _ _))
  have g0 : 0 < Nat.gcd L.length L'.length := Nat.gcd_pos_of_pos_left _ h.pos
  have e1 := h.prim _ g0 (Nat.gcd_dvd_left _ _) (hN.back h.per h.pos)
  have e2 := h'.prim _ g0 (Nat.gcd_dvd_right _ _) (hN.back h'.per h'.pos)
  omega
theorem Plain.le {w : Nat → Nat} {B L B' L' : List Nat} (h : Plain w B L) (h' : Plain w B' L') : B'.length ≤ B.length := by
  cases Nat.lt_or_ge B.length B'.length with
  | inr x => exact x
  | inl x =>
    have e := h.len h'
    have k := h'.last (B'.length - 1) (by omega)
    rw [← e] at k
    exact absurd (h.per (B'.length - 1) (by omega)).symm k
/-- there is but one plain telling -/
theorem Plain.uniq {w : Nat → Nat} {B L B' L' : List Nat} (h : Plain w B L) (h' : Plain w B' L') : B = B' ∧ L = L' := by
  have eL := h.len h'
  have eB : B.length = B'.length := Nat.le_antisymm (h'.le h) (h.le h')
  refine ⟨ext_getD eB fun i hi => ?_, ext_getD eL fun i hi => ?_⟩
  · have a := h.rep i
    have b := h'.rep i
    rw [om_lt hi] at a
    rw [om_lt (by omega)] at b
    rw [a, b]
  · have a := h.rep (B.length + i)
    have b := h'.rep (B.length + i)
    rw [om_ge (by omega)] at a
    rw [om_ge (by omega)] at b
    rw [show B.length + i - B.length = i by omega] at a
    rw [show B.length + i - B'.length = i by omega] at b
    unfold lp at a b
    rw [Nat.mod_eq_of_lt hi] at a
    rw [Nat.mod_eq_of_lt (by omega)] at b
    rw [a, b]
theorem Plain.congr {w v : Nat → Nat} {B L : List Nat} (h : Plain w B L) (e : ∀ n, w n = v n) : Plain v B L := by
  have : w = v := funext e
  rw [← this]
  exact h

/-! ### the root of a lap -/
/-- s is a size of which the lap is so many copies -/
def IsRoot (l : List Nat) (s : Nat) : Prop := 0 < s ∧ s ∣ l.length ∧ ∀ n, lp l (n + s) = lp l n
/-- the least one -/
structure Root (l : List Nat) (s : Nat) : Prop where
  is : IsRoot l s
  least : ∀ d, IsRoot l d → s ≤ d

theorem rep_getD (t : List Nat) : ∀ (k i : Nat), i < k * t.length → ((List.replicate k t).flatten).getD i 0 = t.getD (i % t.length) 0
  | 0, i, h => by simp at h
  | k + 1, i, h => by
    rw [List.replicate_succ, List.flatten_cons]
    by_cases hi : i < t.length
    · rw [Nat.mod_eq_of_lt hi]
      simp [List.getD_eq_getElem?_getD, List.getElem?_append_left hi]
    · have hi : t.length ≤ i := Nat.not_lt.mp hi
      have e : (i - t.length) % t.length = i % t.length := by
        have := Nat.mod_eq_sub_mod hi
        omega
      have h' : (k + 1) * t.length = k * t.length + t.length := by rw [Nat.add_mul, Nat.one_mul]
      have ih := rep_getD t k (i - t.length) (by omega)
      rw [e] at ih
      rw [← ih]
      simp [List.getD_eq_getElem?_getD, List.getElem?_append_right hi]
theorem rep_len (t : List Nat) (k : Nat) : ((List.replicate k t).flatten).length = k * t.length := by
  induction k with
  | zero => simp
  | succ k ih =>
    rw [List.replicate_succ, List.flatten_cons, List.length_append, ih, Nat.add_mul, Nat.one_mul, Nat.add_comm]
theorem take_getD {l : List Nat} {s i : Nat} (h : i < s) : (l.take s).getD i 0 = l.getD i 0 := by
  simp [List.getD_eq_getElem?_getD, List.getElem?_take, h]
theorem isRoot_iff {l : List Nat} {s : Nat} (h0 : 0 < s) (hs : s ≤ l.length) (hd : s ∣ l.length) : (List.replicate (l.length / s) (l.take s)).flatten = l ↔ IsRoot l s := by
  obtain ⟨k, hk⟩ := hd
  have ek : l.length / s = k := by rw [hk, Nat.mul_div_cancel_left _ h0]
  have el : (l.take s).length = s := by rw [List.length_take]; omega
  have hk' : k * s = l.length := by rw [hk, Nat.mul_comm]
  rw [ek]
  have at_ : ∀ n, n < l.length → ((List.replicate k (l.take s)).flatten).getD n 0 = l.getD (n % s) 0 := fun n hn => by
    rw [rep_getD _ _ _ (by rw [el]; omega), el, take_getD (Nat.mod_lt _ h0)]
  constructor
  · intro e
    refine ⟨h0, ⟨k, hk⟩, fun n => ?_⟩
    have f : ∀ n, lp l n = l.getD (n % s) 0 := fun n => by
      have hm : n % l.length < l.length := Nat.mod_lt _ (by omega)
      have a := at_ (n % l.length) hm
      rw [e] at a
      unfold lp
      rw [a]
      congr 1
      rw [hk]
      exact Nat.mod_mul_right_mod n s k
    rw [f, f, Nat.add_mod_right]
  · rintro ⟨_, _, hp⟩
    have pw : ∀ m i, lp l (i + m * s) = lp l i := fun m => by
      induction m with
      | zero => intro i; rw [Nat.zero_mul, Nat.add_zero]
      | succ m ih =>
        intro i
        rw [Nat.add_mul, Nat.one_mul, ← Nat.add_assoc, hp, ih]
    refine ext_getD (by rw [rep_len, el, hk']) fun n hn => ?_
    rw [rep_len, el, hk'] at hn
    rw [at_ n hn]
    have a := pw (n / s) (n % s)
    have e2 : n % s + n / s * s = n := by
      have := Nat.mod_add_div n s
      rw [Nat.mul_comm] at this
      exact this
    rw [e2] at a
    unfold lp at a
    rw [Nat.mod_eq_of_lt hn, Nat.mod_eq_of_lt (Nat.lt_of_lt_of_le (Nat.mod_lt _ h0) hs)] at a
    exact a.symm
theorem isRoot_self {l : List Nat} (h : 0 < l.length) : IsRoot l l.length := ⟨h, Nat.dvd_refl _, fun n => by
  have := lp_add l n 1
  rw [Nat.one_mul] at this
  exact this⟩
theorem IsRoot.le {l : List Nat} {s : Nat} (h : IsRoot l s) (hl : 0 < l.length) : s ≤ l.length := Nat.le_of_dvd hl h.2.1
/-- the letters of the root are those of the lap -/
theorem IsRoot.lp {l : List Nat} {s : Nat} (h : IsRoot l s) (hl : 0 < l.length) (n : Nat) : WM.lp (l.take s) n = WM.lp l n := by
  have hs := h.le hl
  have el : (l.take s).length = s := by rw [List.length_take]; omega
  have pw : ∀ m i, WM.lp l (i + m * s) = WM.lp l i := fun m => by
    induction m with
    | zero => intro i; rw [Nat.zero_mul, Nat.add_zero]
    | succ m ih =>
      intro i
      rw [Nat.add_mul, Nat.one_mul, ← Nat.add_assoc, h.2.2, ih]
  have a := pw (n / s) (n % s)
  have e2 : n % s + n / s * s = n := by
    have := Nat.mod_add_div n s
    rw [Nat.mul_comm] at this
    exact this
  rw [e2] at a
  rw [a]
  have hm : n % s < s := Nat.mod_lt _ h.1
  show (l.take s).getD (n % (l.take s).length) 0 = l.getD (n % s % l.length) 0
  rw [el, take_getD hm, Nat.mod_eq_of_lt (Nat.lt_of_lt_of_le hm hs)]

/-! ### the plain telling is found -/
theorem rot_getD {r : List Nat} {cut i : Nat} (hc : cut < r.length) (hi : i < r.length) : (r.drop cut ++ r.take cut).getD i 0 = r.getD ((i + cut) % r.length) 0 := by
  by_cases h : i < r.length - cut
  · rw [Nat.mod_eq_of_lt (by omega)]
    simp only [List.getD_eq_getElem?_getD]
    rw [List.getElem?_append_left (by rw [List.length_drop]; exact h), List.getElem?_drop, Nat.add_comm]
  · have e : (i + cut) % r.length = i + cut - r.length := by
      rw [Nat.mod_eq_sub_mod (by omega), Nat.mod_eq_of_lt (by omega)]
    rw [e]
    simp only [List.getD_eq_getElem?_getD]
    rw [List.getElem?_append_right (by rw [List.length_drop]; omega), List.length_drop, List.getElem?_take, if_pos (by omega)]
    congr 2
    omega
theorem rot_len {r : List Nat} {cut : Nat} (hc : cut < r.length) : (r.drop cut ++ r.take cut).length = r.length := by
  rw [List.length_append, List.length_drop, List.length_take]
  omega
theorem rot_lp {r : List Nat} {cut : Nat} (hc : cut < r.length) (n : Nat) : lp (r.drop cut ++ r.take cut) n = lp r (n + cut) := by
  unfold lp
  rw [rot_len hc, rot_getD hc (Nat.mod_lt _ (by omega)), Nat.mod_add_mod]
theorem plain_found {b l : List Nat} {s c cut : Nat} (hl : 0 < l.length) (R : Root l s) (hc : c ≤ b.length) (hcut : cut < s) (hz : (c + cut) % s = 0)
    (same : ∀ j i, j < c → i < s → (i + j + 1) % s = 0 → b.getD (b.length - 1 - j) 0 = l.getD i 0)
    (stop : c < b.length → ∀ i, i < s → (i + c + 1) % s = 0 → b.getD (b.length - 1 - c) 0 ≠ l.getD i 0) :
    Plain (om b l) (b.take (b.length - c)) ((l.take s).drop cut ++ (l.take s).take cut) := by
  have hs := R.is.le hl
  have h0 := R.is.1
  have el : (l.take s).length = s := by rw [List.length_take]; omega
  have hcut' : cut < (l.take s).length := by omega
  have eB : (b.take (b.length - c)).length = b.length - c := by rw [List.length_take]; omega
  have eL : ((l.take s).drop cut ++ (l.take s).take cut).length = s := by rw [rot_len hcut', el]
  have rep : ∀ n, om (b.take (b.length - c)) ((l.take s).drop cut ++ (l.take s).take cut) n = om b l n := fun n => by
    by_cases h1 : n < b.length - c
    · rw [om_lt (by omega), om_lt (by omega), take_getD h1]
    · rw [om_ge (by omega), eB, rot_lp hcut']
      by_cases h2 : n < b.length
      · rw [om_lt h2]
        have hm : (n - (b.length - c) + cut) % s < s := Nat.mod_lt _ h0
        have q := same (b.length - 1 - n) ((n - (b.length - c) + cut) % s) (by omega) hm (by
          have : (n - (b.length - c) + cut) % s + (b.length - 1 - n) + 1 = (n - (b.length - c) + cut) % s + (b.length - 1 - n + 1) := by omega
          rw [this, Nat.mod_add_mod]
          have : n - (b.length - c) + cut + (b.length - 1 - n + 1) = c + cut := by omega
          rw [this]
          exact hz)
        rw [show b.length - 1 - (b.length - 1 - n) = n by omega] at q
        rw [q]
        show (l.take s).getD ((n - (b.length - c) + cut) % (l.take s).length) 0 = _
        rw [el, take_getD hm]
      · rw [om_ge (by omega), R.is.lp hl]
        obtain ⟨k, hk⟩ := Nat.dvd_of_mod_eq_zero hz
        have e : n - (b.length - c) + cut = (n - b.length) + k * s := by rw [Nat.mul_comm k s]; omega
        rw [e]
        have pw : ∀ m i, lp l (i + m * s) = lp l i := fun m => by
          induction m with
          | zero => intro i; rw [Nat.zero_mul, Nat.add_zero]
          | succ m ih =>
            intro i
            rw [Nat.add_mul, Nat.one_mul, ← Nat.add_assoc, R.is.2.2, ih]
        rw [pw]
  refine ⟨by omega, rep, fun d hd0 hdv hp => ?_, fun k hk => ?_⟩
  · rw [eL] at hdv ⊢
    have hr : IsRoot l d := ⟨hd0, Nat.dvd_trans hdv R.is.2.1, fun n => by
      have q := hp (b.length + n) (by omega)
      rw [om_ge (by omega), om_ge (by omega)] at q
      rw [show b.length + n + d - b.length = n + d by omega, show b.length + n - b.length = n by omega] at q
      exact q⟩
    exact Nat.le_antisymm (Nat.le_of_dvd h0 hdv) (R.least d hr)
  · rw [eL]
    rw [eB] at hk
    have hcb : c < b.length := by omega
    have hm : (s - 1 + cut) % s < s := Nat.mod_lt _ h0
    have q := stop hcb ((s - 1 + cut) % s) hm (by
      have : (s - 1 + cut) % s + c + 1 = (s - 1 + cut) % s + (c + 1) := by omega
      rw [this, Nat.mod_add_mod]
      have : s - 1 + cut + (c + 1) = c + cut + s := by omega
      rw [this, Nat.add_mod_right]
      exact hz)
    rw [show b.length - 1 - c = k by omega] at q
    rw [om_lt (show k < b.length by omega), ← rep (k + s), om_ge (by omega), eB, rot_lp hcut']
    rw [show k + s - (b.length - c) = s - 1 by omega]
    show b.getD k 0 ≠ (l.take s).getD ((s - 1 + cut) % (l.take s).length) 0
    rw [el, take_getD hm]
    exact q

/-! ### two words that agree long enough agree for ever -/
theorem agree {b l b' l' : List Nat} (hl : 0 < l.length) (hl' : 0 < l'.length) {N : Nat} (hN : b.length + b'.length + l.length + l'.length ≤ N) (h : ∀ n, n < N → om b l n = om b' l' n) : ∀ n, om b l n = om b' l' n := by
  have p := om_per b l
  have p' := om_per b' l'
  -- from M on: u has period l, v has period l'
  have hM : ∃ M, b.length ≤ M ∧ b'.length ≤ M ∧ M + l.length + l'.length ≤ N := ⟨max b.length b'.length, Nat.le_max_left _ _, Nat.le_max_right _ _, by omega⟩
  obtain ⟨M, h1, h2, h3⟩ := hM
  -- u has period l' on [M, M + l), hence everywhere from M on
  have step : ∀ k i, i < l.length → om b l (M + i + k * l.length + l'.length) = om b l (M + i + k * l.length) := fun k i hi => by
    have a1 := p.mul k (M + i) (by omega)
    have a2 := p.mul k (M + i + l'.length) (by omega)
    rw [show M + i + k * l.length + l'.length = M + i + l'.length + k * l.length by omega, a1, a2]
    rw [h (M + i + l'.length) (by omega), h (M + i) (by omega)]
    exact p' (M + i) (by omega)
  have q : Per (om b l) M l'.length := fun n hn => by
    have s1 := step ((n - M) / l.length) ((n - M) % l.length) (Nat.mod_lt _ hl)
    have e : M + (n - M) % l.length + (n - M) / l.length * l.length = n := by
      have := Nat.mod_add_div (n - M) l.length
      rw [Nat.mul_comm] at this
      omega
    rw [e] at s1
    exact s1
  intro n
  by_cases hn : n < N
  · exact h n hn
  · have e : n = M + (n - M) % l'.length + (n - M) / l'.length * l'.length := by
      have := Nat.mod_add_div (n - M) l'.length
      rw [Nat.mul_comm] at this
      omega
    have hm : (n - M) % l'.length < l'.length := Nat.mod_lt _ hl'
    rw [e, q.mul _ _ (by omega), p'.mul _ _ (by omega)]
    exact h _ (by omega)
end WM
end
section
set_option maxRecDepth 100000
set_option maxHeartbeats 4000000
/-! Rules of my own over the hand layer: texts as lists of codes, str * int, own special methods, repr. -/
namespace RX
open PySem PySem.Spec PyProof.Rows L2

/-! ### texts as lists of codes -/
abbrev Tx := List Nat
def stx (l : Tx) : Str := ⟨l.toArray⟩
def tx (l : Tx) : V := .str (stx l)
theorem stx_len (l : Tx) : (stx l).length = l.length := by show l.toArray.size = l.length; simp
theorem stx_list (l : Tx) : (stx l).cps.toList = l := by show l.toArray.toList = l; simp
theorem stx_inj {a b : Tx} (h : stx a = stx b) : a = b := by
  have := congrArg (fun z : Str => z.cps.toList) h
  simpa [stx] using this
theorem tx_inj {a b : Tx} (h : tx a = tx b) : a = b := stx_inj (by unfold tx at h; injection h)
theorem stx_of (z : Str) : stx z.cps.toList = z := by cases z; simp [stx]
theorem tx_of (z : Str) : V.str z = tx z.cps.toList := by unfold tx; rw [stx_of]
theorem stx_app (a b : Tx) : stx a ++ stx b = stx (a ++ b) := by
  show (⟨a.toArray ++ b.toArray⟩ : Str) = ⟨(a ++ b).toArray⟩
  simp
theorem dec_tx (a b : Tx) : decide (tx a = tx b) = decide (a = b) := by
  by_cases h : a = b
  · subst h; simp
  · rw [decide_eq_false h, decide_eq_false (fun e => h (tx_inj e))]

section
variable {X : Cx}
/-! operators by lists of codes -/
def rAddT : R2 := fun x y H Q => ∃ a b, x = tx a ∧ y = tx b ∧ a.length + b.length ≤ sizeLine ∧ Q (tx (a ++ b)) H
theorem op_addT : OpR X (binaryOp .Add) rAddT := fun pins s σ H x y v u Q I rx ry h => op_add_str pins s σ H x y v u Q I rx ry (by
  obtain ⟨a, b, rfl, rfl, hl, q⟩ := h
  exact ⟨stx a, stx b, rfl, rfl, by rw [stx_len, stx_len]; exact hl, by rw [stx_app]; exact q⟩)
def rEqT : R2 := fun x y H Q => ∃ a b, x = tx a ∧ y = tx b ∧ Q (.bl (decide (a = b))) H
theorem op_eqT : OpR X (compareOp .Eq) rEqT := fun pins s σ H x y v u Q I rx ry h => op_eq pins s σ H x y v u Q I rx ry (by
  obtain ⟨a, b, rfl, rfl, q⟩ := h
  exact ⟨rfl, by rw [dec_tx]; exact q⟩)
def rNeT : R2 := fun x y H Q => ∃ a b, x = tx a ∧ y = tx b ∧ Q (.bl (!decide (a = b))) H
theorem op_neT : OpR X (compareOp .NotEq) rNeT := fun pins s σ H x y v u Q I rx ry h => op_ne pins s σ H x y v u Q I rx ry (by
  obtain ⟨a, b, rfl, rfl, q⟩ := h
  exact ⟨rfl, by rw [dec_tx]; exact q⟩)
/-- one sign in a text -/
def rInT : R2 := fun x y H Q => ∃ c a, x = tx [c] ∧ y = tx a ∧ Q (.bl (decide (c ∈ a))) H
theorem op_inT : OpR X (compareOp .In) rInT := fun pins s σ H x y v u Q I rx ry h => op_in_sign pins s σ H x y v u Q I rx ry (by
  obtain ⟨c, a, rfl, rfl, q⟩ := h
  exact ⟨c, stx a, rfl, rfl, by rw [stx_list]; exact q⟩)
def rNotInT : R2 := fun x y H Q => ∃ c a, x = tx [c] ∧ y = tx a ∧ Q (.bl (!decide (c ∈ a))) H
theorem op_notInT : OpR X (compareOp .NotIn) rNotInT := fun pins s σ H x y v u Q I rx ry h => op_notIn_sign pins s σ H x y v u Q I rx ry (by
  obtain ⟨c, a, rfl, rfl, q⟩ := h
  exact ⟨c, stx a, rfl, rfl, by rw [stx_list]; exact q⟩)
/-- a text's item, counted from 0 -/
def rIxTx : R2 := fun x y H Q => ∃ (a : Tx) (i : Nat) (c : Nat), x = tx a ∧ y = .int i ∧ a.length ≤ sizeLine ∧ a[i]? = some c ∧ Q (tx [c]) H
theorem ix_T : IxR X rIxTx := fun value slice pins s σ H x y v u Q I rx ry h hs => ix_str value slice pins s σ H x y v u Q I rx ry (by
  obtain ⟨a, i, c, rfl, rfl, hl, hc, q⟩ := h
  exact ⟨stx a, i, c, rfl, rfl, by rw [stx_len]; exact hl, by rw [stx_list]; exact atI_nat hc, q⟩) hs
/-- a text's slice -/
def cutT (a : Tx) (lo hi : Option Int) : Tx := (a.drop (HT.sIx a.length 0 lo)).take (HT.sIx a.length a.length hi - HT.sIx a.length 0 lo)
def rSlT : V → Option Int → Option Int → Hp → VK → Prop := fun x lo hi H Q => ∃ a, x = tx a ∧ a.length ≤ sizeLine ∧ Q (tx (cutT a lo hi)) H
theorem sl_T : SlR X rSlT := fun pins s σ H x v vl vu lo hi sl Q I rx hs pl pu h => sl_str pins s σ H x v vl vu lo hi sl Q I rx hs pl pu (by
  obtain ⟨a, rfl, hl, q⟩ := h
  refine ⟨stx a, rfl, by rw [stx_len]; exact hl, ?_⟩
  have e : V.str (cutS (stx a) lo hi) = tx (cutT a lo hi) := by
    unfold cutS cutT tx
    rw [stx_list, stx_len]
    rfl
  rw [e]
  exact q)
theorem cutT_to (a : Tx) (k : Nat) : cutT a none (some (k : Int)) = a.take k := by
  unfold cutT
  rw [HT.sIx_nat, HT.sIx_none, List.drop_zero, Nat.sub_zero]
  by_cases h : k ≤ a.length
  · rw [Nat.min_eq_left h]
  · rw [Nat.min_eq_right (by omega), List.take_of_length_le (Nat.le_refl _), List.take_of_length_le (by omega)]
theorem cutT_from (a : Tx) (k : Nat) : cutT a (some (k : Int)) none = a.drop k := by
  unfold cutT
  rw [HT.sIx_nat, HT.sIx_none]
  by_cases h : k ≤ a.length
  · rw [Nat.min_eq_left h, List.take_of_length_le (by rw [List.length_drop]; omega)]
  · rw [Nat.min_eq_right (by omega), Nat.sub_self, List.take_zero, List.drop_of_length_le (by omega)]
/-- text * int -/
def repT (a : Tx) (k : Nat) : Tx := (List.replicate k a).flatten
theorem repT_len (a : Tx) (k : Nat) : (repT a k).length = k * a.length := by
  unfold repT
  induction k with
  | zero => simp
  | succ k ih =>
    rw [List.replicate_succ, List.flatten_cons, List.length_append, ih, Nat.add_mul, Nat.one_mul, Nat.add_comm]
theorem fold_app (c : Array Nat) : ∀ (k : Nat) (acc : Array Nat), ((List.replicate k c).foldl (· ++ ·) acc).toList = acc.toList ++ repT c.toList k
  | 0, acc => by simp [repT]
  | k + 1, acc => by
    rw [List.replicate_succ, List.foldl_cons, fold_app c k (acc ++ c)]
    unfold repT
    rw [List.replicate_succ, List.flatten_cons, Array.toList_append, List.append_assoc]
def rMulT : R2 := fun x y H Q => ∃ (a : Tx) (k : Nat), x = tx a ∧ y = .int k ∧ k ≤ 1000000 ∧ a.length * k ≤ 16777216 ∧ Q (tx (repT a k)) H
theorem repT_one (a : Tx) : repT a 1 = a := by simp [repT]
theorem repT_zero (a : Tx) : repT a 0 = [] := by simp [repT]
theorem repT_nil (k : Nat) : repT [] k = [] := by
  have := repT_len [] k
  simpa using this
theorem op_mulT : OpR X (binaryOp .Mult) rMulT := by
  intro pins s σ H x y v u Q I rx ry h
  obtain ⟨a, k, rfl, rfl, hk, hl, q⟩ := h
  obtain ⟨t, rfl⟩ := (show ∃ t, v = Value.str (stx a) t from rx)
  obtain ⟨t', rfl⟩ := (show ∃ t', u = Value.int (k : Int) t' from ry)
  have hlen := stx_len a
  refine PySem.P.mul_str (by
    have h1 : ¬ ((k : Int) < -(2 ^ 63 : Int)) := by omega
    have h2 : ¬ ((k : Int) ≥ 2 ^ 63) := by omega
    rw [decide_eq_false h1, decide_eq_false h2]; rfl) (fun h1 h2 => ?_) (fun h1 h2 => ?_) ?_
  · have hk1 : (0 : Int) < k := by omega
    have b : (2 ^ 63 - 1 : Int) / 1000000 ≤ (2 ^ 63 - 1) / (k : Int) := by
      apply Int.le_ediv_of_mul_le hk1
      have c1 : (2 ^ 63 - 1 : Int) / 1000000 * 1000000 ≤ 2 ^ 63 - 1 := by decide
      have c2 : (2 ^ 63 - 1 : Int) / 1000000 * (k : Int) ≤ (2 ^ 63 - 1 : Int) / 1000000 * 1000000 := Int.mul_le_mul_of_nonneg_left (by omega) (by decide)
      omega
    have c3 : ((stx a).length : Int) ≤ 16777216 := by
      have : a.length ≤ a.length * k := Nat.le_mul_of_pos_right _ (by omega)
      omega
    have c4 : (16777216 : Int) ≤ (2 ^ 63 - 1) / 1000000 := by decide
    omega
  · unfold Builtin.Str.tooLong
    rw [hlen, Int.toNat_natCast]
    exact decide_eq_false (by rw [sizeLine_eq]; omega)
  · by_cases h1 : (k : Int) < 1
    · rw [if_pos h1]
      have hk0 : k = 0 := by omega
      subst hk0
      rw [repT_zero] at q
      exact ⟨by decide, tx [], H, I.tok _, ⟨_, rfl⟩, q⟩
    · rw [if_neg h1]
      by_cases h2 : ((k : Int) == 1 || (stx a).length == 0) = true
      · rw [if_pos h2]
        have e : repT a k = a := by
          rcases Bool.or_eq_true_iff.mp h2 with e | e
          · have : k = 1 := by have := beq_iff_eq.mp e; omega
            rw [this, repT_one]
          · have : a = [] := by
              have h0 := beq_iff_eq.mp e
              rw [hlen] at h0
              exact List.eq_nil_of_length_eq_zero h0
            rw [this, repT_nil]
        rw [e] at q
        exact ⟨tx a, H, I, ⟨t, rfl⟩, q⟩
      · rw [if_neg h2]
        have e : (⟨(List.replicate (k : Int).toNat (stx a).cps).foldl (· ++ ·) #[]⟩ : Str) = stx (repT a k) := by
          have := fold_app (stx a).cps k #[]
          rw [stx_list] at this
          show (⟨_⟩ : Str) = ⟨(repT a k).toArray⟩
          congr 1
          rw [Int.toNat_natCast]
          apply Array.toList_inj.mp
          rw [this]
          simp
        rw [e]
        exact ⟨by rw [stx_len, repT_len, sizeLine_eq, Nat.mul_comm]; exact hl, tx (repT a k), H, I.tok _, ⟨_, rfl⟩, q⟩
/-- len of a text -/
def rLenT : List V → Hp → VK → Prop := fun xs H Q => ∃ a, xs = [tx a] ∧ a.length ≤ sizeLine ∧ Q (.int (a.length : Int)) H
theorem call_lenT : CallR X (.builtin "len") rLenT := fun pins s σ H xs us Q I r h => call_len_str pins s σ H xs us Q I r (by
  obtain ⟨a, rfl, hl, q⟩ := h
  exact ⟨stx a, rfl, by rw [stx_len]; exact hl, by rw [stx_len]; exact q⟩)
/-- ''.join(list of texts) -/
theorem joinL_nil : ∀ ps : List Tx, TL.joinL [] ps = ps.flatten
  | [] => rfl
  | [p] => by simp [TL.joinL]
  | p :: q :: r => by
    show p ++ ([] ++ TL.joinL [] (q :: r)) = _
    rw [joinL_nil (q :: r)]
    simp
def rJoinT (K : PySem.W.Frag) : V → List V → Hp → VK → Prop := fun x xs H Q => ∃ p, ∃ ps : List Tx, x = tx [] ∧ xs = [.ref p] ∧ SqL K H p (ps.map tx) ∧ ps.flatten.length ≤ 16777216 ∧ Q (tx ps.flatten) H
theorem mt_joinT : MtR X "str.join" (rJoinT X.K) := fun pins s σ H x xs v us Q I rx rs h => mt_join pins s σ H x xs v us Q I rx rs (by
  obtain ⟨p, ps, rfl, rfl, hp, hl, q⟩ := h
  refine ⟨stx [], p, ps.map stx, rfl, rfl, .inl (by rw [List.map_map]; exact hp), ?_, ?_⟩
  · have e : ((ps.map stx).map (·.length)).sum = ps.flatten.length := by
      rw [List.map_map, List.length_flatten]
      congr 1
      first
        | done
        | (apply List.map_congr_left; intro a _; exact stx_len a)
    rw [e, stx_len]
    simpa using hl
  · have e : V.str (Txt.join (stx []) (ps.map stx)) = tx ps.flatten := by
      rw [tx_of]
      have e2 : (Txt.join (stx []) (ps.map stx)).cps.toList = ps.flatten := by
        have := TL.tl_join (stx []) (ps.map stx)
        rw [TL.join_eq]
        show TL.tl (Str.join (stx []) (ps.map stx)) = _
        rw [this]
        have e3 : TL.tl (stx []) = [] := stx_list []
        rw [e3, List.map_map, joinL_nil]
        congr 1
        conv => rhs; rw [← List.map_id ps]
        apply List.map_congr_left
        intro a _
        exact stx_list a
      rw [e2]
    rw [e]
    exact q)
theorem pe_joinT {o e : Expr} {to te : TE} {apos pos : Pos} (ho : PE X o to) (he : PE X e te) (hs : starEach [e] X.env = [(false, eval e X.env)] := by rfl) (hbase : attributeBase o "join" X.env (eval o X.env) = eval o X.env := by rfl) (hline : (apos.endLine == pos.line) = true := by rfl) :
    PE X (.Call (.Attribute o "join" apos) [e] [] pos) (tM1 (rJoinT X.K) to te) :=
  pe_m1 PySem.F.slot_str_join PySem.F.type_str_join mt_joinT ho he hs hbase hline
end
end RX
end
section
set_option maxRecDepth 100000
set_option maxHeartbeats 4000000
/-! own special methods: str + x by __radd__, != by an own __eq__, at the library's level -/
namespace RX
open PySem PySem.W PySem.Calls PyProof.Rows Builtin
section
variable {prog : Program} {w : World} {A : Around} {E : Value → Shared → Prop} {s : Shared} {K : Frag} {x C L f : Addr} {h₀ : Heap} {m : Str → Option Value} {ox : Obj} {od : Option Obj}

theorem fillsR_K {M : Model} {h : Heap} {nm : String} {cd : ClassData} {rest : List Value} (X : K.In h) (hc : clsIn K C = some cd) (hm : cd.mro = .ref C :: rest) (hn : findIn K (.ref C) (PySem.dunder nm) = some none) (hs : findIn K (.ref C) (dunderR nm) = some (some (.ref f))) :
    Looks M h (fillsNumberSlot (.ref C) nm) true := by
  intro A Q E s k q
  unfold fillsNumberSlot
  refine wpAny_bind ((looks_clsIn X hc).andThen (f := fun cd => pure cd.mro) .now A _ E s k ?_)
  rw [hm, List.anyM_cons]
  refine wpAny_bind ?_
  show wpAny M A (List.anyM _ [PySem.dunder nm, dunderR nm]) _ _ _
  rw [List.anyM_cons]
  refine wpAny_bind (wpAny_bind (looks_findIn X hn A _ E s k ?_))
  dsimp only
  refine wpAny_pure ?_
  rw [if_neg (by decide), List.anyM_cons]
  refine wpAny_bind (wpAny_bind (looks_findIn X hs A _ E s k ?_))
  dsimp only
  rw [if_pos (show (!ownNameWrapper (.ref f) (dunderR nm)) = true from rfl)]
  refine wpAny_pure ?_
  rw [if_pos rfl]
  refine wpAny_pure ?_
  rw [if_pos rfl]
  exact wpAny_pure q

theorem radd_K {y : Str} {t : Tok} {Q : Value → Shared → Prop} (F : Fr h₀ L s.heap m) (X₀ : K.In h₀) (I : InstAt s.heap x ox C od) (hc : selfFirst K C = true)
    (hn : findIn K (.ref C) (PySem.dunder "add") = some none) (hs : findIn K (.ref C) (dunderR "add") = some (some (.ref f))) (hf : isFn K (.ref f) = true)
    (h : wpAny (model prog w) A (call (.ref f) [.ref x, .str y t]) (PySem.W.CmpBack Q) E s) : wpAny (model prog w) A (binaryOp .Add (.str y t) (.ref x)) Q E s := by
  have X := X₀.keeps F.keep
  obtain ⟨cd, rest, hcd, hm⟩ := ksp_first hc
  have one := ksp_try X I hs hf h
  obtain ⟨hh, g, d, tt, os⟩ := s
  have L1 : Looks (model prog w) hh (typeOf (.ref x)) (.ref C) := I.type
  have L2 : Looks (model prog w) hh (typeOf (.str y t)) (.type "str") := Looks.of_pure rfl
  have L3 : Looks (model prog w) hh (fillsNumberSlot (.ref C) "add") true := fillsR_K X hcd hm hn hs
  have L4 : Looks (model prog w) hh (fillsNumberSlot (.type "str") "add") false := Looks.of_pure PySem.noFill_str_add
  have hne : (Value.type "str" == Value.ref C) = false := Bool.eq_false_iff.mpr fun q => by cases beq_iff_eq.mp q
  have hi : Operator.info .Add = (("+", "add") : String × String) := rfl
  simp only [binaryOp, hi]
  refine wpAny_holding (wpAny_bind ?_)
  unfold binaryOp1
  refine wpAny_bind (L2.at (wpAny_bind (L1.at (wpAny_bind (L4.at ?_)))))
  simp only [hne, Bool.false_eq_true, if_false]
  ksp_lk
  refine wpAny_mono one (fun r s' hr' => ?_) fun _ _ e => e
  obtain ⟨v, rfl, hq⟩ := hr'
  ksp_lk
  exact hq

theorem ne_K {b tb : Value} {Q : Value → Shared → Prop} (hu : A.units + 1 < cLine) (F : Fr h₀ L s.heap m) (X₀ : K.In h₀) (I : InstAt s.heap x ox C od) (hb : Looks (model prog w) s.heap (typeOf b) tb) (hn : notFirst K C tb = true)
    (hne : findIn K (.ref C) "__ne__" = some (some (.builtin "object.__ne__"))) (hob : subIn K (.ref C) (.type "object") = some true)
    (hs : findIn K (.ref C) "__eq__" = some (some (.ref f))) (hf : isFn K (.ref f) = true)
    (h : wpAny (model prog w) A.in1 (call (.ref f) [.ref x, b]) (fun v s' => ∃ r, v = .bool r ∧ Q (.bool (!r)) s') E s) : wpAny (model prog w) A (richCompare .NotEq (.ref x) b) Q E s := by
  have X := X₀.keeps F.keep
  have hu0 : A.units < cLine := Nat.lt_of_succ_lt hu
  have one : wpAny (model prog w) A (tryCompare (.ref x) "__ne__" b) (fun r s' => ∃ v, r = some v ∧ Q v s') E s := by
    unfold tryCompare
    refine wpAny_bind ?_
    simp only [callSpecialIfBound?, bindSpecialIfBound?]
    refine wpAny_holding (wpAny_bind (wpAny_bind (wpAny_bind (I.type.here ((looks_findIn X hne).here ?_)))))
    refine wpAny_bind (wpAny_askSetting (wpAny_ite ?_))
    have body : wpAny (model prog w) A (call (.builtin "object.__ne__") [.ref x, b]) (fun v s' => (∃ r, v = .bool r) ∧ Q v s') E s := by
      refine wpAny_call (codeAny_call_builtin PySem.F.cmp_object.ne.plain PySem.F.cmpEntry_ne (check_slot PySem.F.cmpKind_ne PySem.F.cmpSplit_ne (I.type.andThen (looks_subIn X hob)) (PySem.F.cmpArgs_ne _ _) ?_))
      unfold Builtin.«object.__ne__»
      have eq1 : wpAny (model prog w) A.in1 (callSpecialIfBound? (.ref x) "__eq__" [b]) (fun v s' => ∃ r, v = some (.bool r) ∧ Q (.bool (!r)) s') E s :=
        ifBound_K X I hs hf (wpAny_mono h (fun v s' hv => by obtain ⟨r, rfl, hq⟩ := hv; exact ⟨r, rfl, hq⟩) fun _ _ e => e)
      repeat (first
        | with_reducible refine wpAny_cRoomFor hu ?_
        | (refine wpAny_bind (m := callSpecialIfBound? (.ref x) (Str.ofString "__eq__") [b]) (wpAny_mono eq1 (fun r s' hr => by
            obtain ⟨r, rfl, hq⟩ := hr
            repeat (first | exact ⟨⟨_, rfl⟩, hq⟩ | exact wpAny_pure ⟨⟨_, rfl⟩, hq⟩ | (refine wpAny_bind (m := truthy (.bool _)) (wpAny_truthy_bool ?_)) | wp_step)) fun _ _ e => e))
        | wp_step)
    have fin : wpAny (model prog w) A (call (.builtin "object.__ne__") ([.ref x] ++ [b]) >>= fun v => pure (some v)) (fun a s' => wpAny (model prog w) A (match a with
      | some .notImplemented | none => pure none
      | some v => pure (some v)) (fun r s' => ∃ v, r = some v ∧ Q v s') E s') E s := by
      refine wpAny_bind (wpAny_mono body (fun v s' hv => wpAny_pure ?_) fun _ _ e => e)
      obtain ⟨⟨r, rfl⟩, hq⟩ := hv
      exact wpAny_pure ⟨_, rfl, hq⟩
    have bd : bindSpecial (.builtin "object.__ne__") (.ref x) = pure (.builtin "object.__ne__", [.ref x]) := PySem.F.cmp_object.ne.bind (.ref x)
    split
    · exact wpAny_bind (by rw [bd]; exact wpAny_pure (wpAny_pure (by exact fin)))
    · exact wpAny_tryCatch (wpAny_bind (by rw [bd]; exact wpAny_pure (wpAny_pure (by exact fin))))
  unfold richCompare
  simp only [oneThing_ref]
  refine wpAny_holding (wpAny_bind (wpAny_cRoomFor hu0 ?_))
  rw [PySem.cmpInfo_NotEq]
  dsimp only
  refine wpAny_bind (I.type.here (wpAny_bind (hb.here ?_)))
  split
  · rename_i q
    have e : subIn K tb (.ref C) = some false := by
      rcases Bool.or_eq_true_iff.mp hn with e | e
      · rw [beq_iff_eq.mp e] at q; simp at q
      · exact beq_iff_eq.mp e
    refine wpAny_bind ((looks_subIn X e).here ?_)
    simp only [Bool.false_eq_true, if_false]
    refine wpAny_bind (wpAny_mono one (fun r s' z => ?_) fun _ _ e => e)
    obtain ⟨v, rfl, hq⟩ := z
    exact wpAny_pure hq
  · refine wpAny_bind (wpAny_pure ?_)
    simp only [Bool.false_eq_true, if_false]
    refine wpAny_bind (wpAny_mono one (fun r s' z => ?_) fun _ _ e => e)
    obtain ⟨v, rfl, hq⟩ := z
    exact wpAny_pure hq
end
end RX
end
section
set_option maxRecDepth 100000
set_option maxHeartbeats 4000000
/-! own special methods over the hand layer -/
namespace RX
open PySem PySem.Spec PyProof.Rows L2
section
variable {X : Cx} {CX : CXT} {k : Nat} {f C : Addr} {fd : FuncData} {ps : List Str} {sp : Sp} {E : XK}
/-- the callee runs, somewhere below this body -/
theorem run_at {A : Around} {pins : List (Addr × Obj)} {σ : L2.St} {H : Hp} {s : Shared} {Q : VK} {us : List Value} {vs : List V} (F : FnOk X.prog X.w X.K X.mg X.base CX k f fd ps sp) (hr : Room k A) (hfr : A.frames = X.A.frames) (hb : Binds X.K fd ps []) (hx : Passes CX X E)
    (I : Inv X pins σ H s) (r : Vals vs us) (h : sp vs H Q E) : wpAny (model X.prog X.w) A (call (.ref f) us) (EP X pins σ Q) X.xe s := by
  have e0 : Env0 X.prog X.w X.K X.mg X.base A X.stack s H := by
    have e := I.env0
    exact ⟨by rw [hfr]; exact e.frames, e.mod, e.bs, e.bsz, e.funs, e.frf, e.hok, e.bare⟩
  have hl := F.len _ _ _ _ h
  have hlu : us.length = ps.length := by rw [← r.length]; exact hl
  refine wpAny_call (codeAny_mono (F.run A X.stack s H ⟨us, []⟩ us vs Q E hr e0 (by
    have := hb s us I.kIn (by simpa using hlu)
    simpa using this) r h) fun r s' hq => ?_)
  cases r with
  | error e => exact hx pins σ H s e s' I hq
  | ok fl =>
    cases fl with
    | ret u => exact I.after hq
    | next => exact False.elim hq
    | brk => exact False.elim hq
    | cont => exact False.elim hq
theorem ins_look {pins : List (Addr × Obj)} {σ : L2.St} {H : Hp} {s : Shared} {a dx : Addr} {fs : List (Str × V)} (I : Inv X pins σ H s) (h : H a = some (.ins C dx fs)) : ∃ od, PySem.W.InstAt s.heap a (PySem.W.instObj C dx) C (some od) := by
  obtain ⟨mA, J, _⟩ := ins_get I.hok h
  obtain ⟨od, J, _⟩ := J.look
  exact ⟨od, J⟩
/-- x == y by the own __eq__, both instances of C -/
def rOwn2 (C : Addr) (sp : Sp) (E : XK) (g : Bool → Bool) : R2 := fun x y H Q => ∃ a dx fs b dy gs, x = .ref a ∧ y = .ref b ∧ H a = some (.ins C dx fs) ∧ H b = some (.ins C dy gs) ∧
  sp [.ref a, .ref b] H (fun v H' => ∃ k, v = .bl k ∧ Q (.bl (g k)) H') E
theorem op_eqOwn (F : FnOk X.prog X.w X.K X.mg X.base CX k f fd ps sp) (hr : Room k X.A) (hb : Binds X.K fd ps []) (hx : Passes CX X E)
    (hs : PySem.W.findIn X.K (.ref C) "__eq__" = some (some (.ref f))) (hf : PySem.W.isFn X.K (.ref f) = true) : OpR X (compareOp .Eq) (rOwn2 C sp E id) := by
  intro pins s σ H x y v u Q I rx ry h
  obtain ⟨a, dx, fs, b, dy, gs, rfl, rfl, ha, hb', h⟩ := h
  cases rx
  cases ry
  obtain ⟨od, J⟩ := ins_look I ha
  obtain ⟨od', J'⟩ := ins_look I hb'
  obtain ⟨m, hF⟩ := I.fr
  show wpAny (model X.prog X.w) X.A (richCompare .Eq (.ref a) (.ref b)) (EP X pins σ Q) X.xe s
  refine PySem.W.cmp_K (op := .Eq) (tb := .ref C) hr.units0 hF I.ok.mod.kin J J'.type (by simp [PySem.W.notFirst]) hs hf ?_
  refine wpAny_mono (run_at (vs := [V.ref a, V.ref b]) F hr rfl hb hx I (.cons rfl (.cons rfl .nil)) h) (fun r s' q => ?_) fun _ _ e => e
  obtain ⟨v, H', I', rv, k, rfl, q⟩ := q
  cases rv
  exact ⟨.bl k, H', I', rfl, q⟩
theorem op_neOwn (F : FnOk X.prog X.w X.K X.mg X.base CX k f fd ps sp) (hr : Room (k + 1) X.A) (hb : Binds X.K fd ps []) (hx : Passes CX X E)
    (hs : PySem.W.findIn X.K (.ref C) "__eq__" = some (some (.ref f))) (hf : PySem.W.isFn X.K (.ref f) = true)
    (hne : PySem.W.findIn X.K (.ref C) "__ne__" = some (some (.builtin "object.__ne__"))) (hob : PySem.W.subIn X.K (.ref C) (.type "object") = some true) : OpR X (compareOp .NotEq) (rOwn2 C sp E not) := by
  intro pins s σ H x y v u Q I rx ry h
  obtain ⟨a, dx, fs, b, dy, gs, rfl, rfl, ha, hb', h⟩ := h
  cases rx
  cases ry
  obtain ⟨od, J⟩ := ins_look I ha
  obtain ⟨od', J'⟩ := ins_look I hb'
  obtain ⟨m, hF⟩ := I.fr
  show wpAny (model X.prog X.w) X.A (richCompare .NotEq (.ref a) (.ref b)) (EP X pins σ Q) X.xe s
  refine ne_K (tb := .ref C) (hu_of hr) hF I.ok.mod.kin J J'.type (by simp [PySem.W.notFirst]) hne hob hs hf ?_
  refine wpAny_mono (run_at (A := X.A.in1) (vs := [V.ref a, V.ref b]) F hr.in1 rfl hb hx I (.cons rfl (.cons rfl .nil)) h) (fun r s' q => ?_) fun _ _ e => e
  obtain ⟨v, H', I', rv, k, rfl, q⟩ := q
  cases rv
  exact ⟨k, rfl, .bl (!k), H', I', rfl, q⟩
/-- repr(x) by the own __repr__ -/
def rReprOwn (C : Addr) (sp : Sp) (E : XK) : List V → Hp → VK → Prop := fun xs H Q => ∃ a dx fs, xs = [.ref a] ∧ H a = some (.ins C dx fs) ∧ sp [.ref a] H (fun v H' => ∃ z, v = .str z ∧ Q (.str z) H') E
theorem call_reprOwn (F : FnOk X.prog X.w X.K X.mg X.base CX k f fd ps sp) (hr : Room (k + 1) X.A) (hb : Binds X.K fd ps []) (hx : Passes CX X E)
    (hs : PySem.W.findIn X.K (.ref C) "__repr__" = some (some (.ref f))) (hf : PySem.W.isFn X.K (.ref f) = true) : CallR X (.builtin "repr") (rReprOwn C sp E) := by
  intro pins s σ H xs us Q I r h
  obtain ⟨a, dx, fs, rfl, ha, h⟩ := h
  obtain ⟨u, rfl, ru⟩ := vals1 r
  cases ru
  obtain ⟨od, J⟩ := ins_look I ha
  obtain ⟨m, hF⟩ := I.fr
  refine PySem.W.repr_K hr.in1.units0 hF I.ok.mod.kin J hs hf ?_
  refine wpAny_mono (run_at (A := X.A.in1) (vs := [V.ref a]) F hr.in1 rfl hb hx I (.cons rfl .nil) h) (fun r s' q => ?_) fun _ _ e => e
  obtain ⟨v, H', I', rv, z, rfl, q⟩ := q
  obtain ⟨t, rfl⟩ := rv
  exact ⟨.str z, H', I', ⟨t, rfl⟩, q⟩
/-- x[i] by the own __getitem__ -/
def rItemOwn (C : Addr) (sp : Sp) (E : XK) : R2 := fun x y H Q => ∃ a dx fs, x = .ref a ∧ H a = some (.ins C dx fs) ∧ sp [.ref a, y] H Q E
theorem pe_itemOwn {a b : Expr} {ta tb : TE} {pos : Pos} (F : FnOk X.prog X.w X.K X.mg X.base CX k f fd ps sp) (hr : Room (k + 1) X.A) (hb : Binds X.K fd ps []) (hx : Passes CX X E)
    (hs : PySem.W.findIn X.K (.ref C) "__getitem__" = some (some (.ref f))) (hf : PySem.W.isFn X.K (.ref f) = true) (hfn : PySem.W.fnIn X.K f = true) (pa : PE X a ta) (pb : PE X b tb)
    (hsl : ∀ x i, subscripted b true (.ref x) i = runValue (.builtin "lifetime.subscript" ⟨[.ref x, i], []⟩) := by intro _ _; with_unfolding_all rfl) : PE X (.Subscript a b pos) (tOp (rItemOwn C sp E) ta tb) := by
  refine ⟨fun pins s σ H Q I h => ?_⟩
  refine Subscript_ (binT pa pb I h fun v u s2 x y H2 I2 rx ry q => ?_)
  obtain ⟨a', dx, fs, rfl, ha, h⟩ := q
  cases rx
  obtain ⟨od, J⟩ := ins_look I2 ha
  obtain ⟨m, hF⟩ := I2.fr
  exact PySem.W.sub_K hF I2.ok.mod.kin J hs hfn hf (run_at (A := X.A.in1) (vs := [V.ref a', y]) F hr.in1 rfl hb hx I2 (.cons rfl (.cons ry .nil)) h) (hsl _ _)
/-- v in x by the own __contains__ -/
def rInOwn (C : Addr) (sp : Sp) (E : XK) (g : Bool → Bool) : R2 := fun y x H Q => ∃ a dx fs, x = .ref a ∧ H a = some (.ins C dx fs) ∧ sp [.ref a, y] H (fun v H' => ∃ k, v = .bl k ∧ Q (.bl (g k)) H') E
theorem op_inOwn (F : FnOk X.prog X.w X.K X.mg X.base CX k f fd ps sp) (hr : Room k X.A) (hb : Binds X.K fd ps []) (hx : Passes CX X E)
    (hs : PySem.W.findIn X.K (.ref C) "__contains__" = some (some (.ref f))) (hf : PySem.W.isFn X.K (.ref f) = true) : OpR X (compareOp .In) (rInOwn C sp E id) := by
  intro pins s σ H y x u v Q I ry rx h
  obtain ⟨a, dx, fs, rfl, ha, h⟩ := h
  cases rx
  obtain ⟨od, J⟩ := ins_look I ha
  obtain ⟨m, hF⟩ := I.fr
  refine PySem.W.in_K hF I.ok.mod.kin J hs hf (wpAny_mono (run_at (vs := [V.ref a, y]) F hr rfl hb hx I (.cons rfl (.cons ry .nil)) h) (fun r s' q => ?_) fun _ _ e => e)
  obtain ⟨v, H', I', rv, k, rfl, q⟩ := q
  cases rv
  exact wpAny_truthy_bool ⟨.bl k, H', I', rfl, q⟩
theorem op_notInOwn (F : FnOk X.prog X.w X.K X.mg X.base CX k f fd ps sp) (hr : Room k X.A) (hb : Binds X.K fd ps []) (hx : Passes CX X E)
    (hs : PySem.W.findIn X.K (.ref C) "__contains__" = some (some (.ref f))) (hf : PySem.W.isFn X.K (.ref f) = true) : OpR X (compareOp .NotIn) (rInOwn C sp E not) := by
  intro pins s σ H y x u v Q I ry rx h
  obtain ⟨a, dx, fs, rfl, ha, h⟩ := h
  cases rx
  obtain ⟨od, J⟩ := ins_look I ha
  obtain ⟨m, hF⟩ := I.fr
  refine PySem.W.notIn_K hF I.ok.mod.kin J hs hf (wpAny_mono (run_at (vs := [V.ref a, y]) F hr rfl hb hx I (.cons rfl (.cons ry .nil)) h) (fun r s' q => ?_) fun _ _ e => e)
  obtain ⟨v, H', I', rv, k, rfl, q⟩ := q
  cases rv
  exact wpAny_truthy_bool ⟨.bl (!k), H', I', rfl, q⟩
/-- text + x by the own __radd__ -/
def rRaddOwn (C : Addr) (sp : Sp) (E : XK) : R2 := fun y x H Q => ∃ t a dx fs, y = tx t ∧ x = .ref a ∧ H a = some (.ins C dx fs) ∧ sp [.ref a, tx t] H Q E
theorem op_raddOwn (F : FnOk X.prog X.w X.K X.mg X.base CX k f fd ps sp) (hr : Room k X.A) (hb : Binds X.K fd ps []) (hx : Passes CX X E) (hc : PySem.W.selfFirst X.K C = true)
    (hn : PySem.W.findIn X.K (.ref C) (PySem.dunder "add") = some none) (hs : PySem.W.findIn X.K (.ref C) (dunderR "add") = some (some (.ref f))) (hf : PySem.W.isFn X.K (.ref f) = true) : OpR X (binaryOp .Add) (rRaddOwn C sp E) := by
  intro pins s σ H y x u v Q I ry rx h
  obtain ⟨t, a, dx, fs, rfl, rfl, ha, h⟩ := h
  cases rx
  obtain ⟨tk, rfl⟩ := (show ∃ tk, u = Value.str (stx t) tk from ry)
  obtain ⟨od, J⟩ := ins_look I ha
  obtain ⟨m, hF⟩ := I.fr
  refine radd_K hF I.ok.mod.kin J hc hn hs hf (wpAny_mono (run_at (vs := [V.ref a, tx t]) F hr rfl hb hx I (.cons rfl (.cons ⟨tk, rfl⟩ .nil)) h) (fun r s' q => ?_) fun _ _ e => e)
  obtain ⟨v, H', I', rv, q⟩ := id q
  cases r <;> first | exact q | (cases v <;> first | exact ⟨_, H', I', rv, q⟩ | (obtain ⟨_, z⟩ := rv; cases z) | cases rv)
/-- o.m(e, .., k = v, ..) -/
def tMethK (C : Addr) (m : Str) (sp : Sp) (gV : List V → List V → List V) (E : XK) (ta : TE) (tk : TA) : TE := fun σ H Q => ta σ H fun x H1 => ∃ a dx fs, x = .ref a ∧ H1 a = some (.ins C dx fs) ∧ fs.lookup m = none ∧
  tk σ H1 fun zs H2 => sp (gV [x] zs) H2 Q E
end
end RX
end
section
set_option maxRecDepth 100000
set_option maxHeartbeats 4000000
/-! defs that are run where no repr is under way (A.guards = some []): their promise, their call, the law's end; repr of data -/
namespace RX
open PySem PySem.Spec PyProof.Rows L2

/-- as the layer's promise of a def, for callers around which no repr runs -/
structure GOk (P : Program) (w : World) (K : PySem.W.Frag) (mg : Str → Option Value) (base : Heap) (k : Nat) (f : Addr) (fd : FuncData) (ps : List Str) (sp : Sp) : Prop where
  len : ∀ vs H Q E, sp vs H Q E → vs.length = ps.length
  run : ∀ (A : Around) (outer : List Env) (s : Shared) (H : Hp) (args : Args) (us : List Value) (vs : List V) (Q : VK), A.guards = some [] → Room k A → Env0 P w K mg base A outer s H → BindsTo s fd args (ps.zip us) → Vals vs us → sp vs H Q E0 →
    codeAny (model P w) A (.call (.ref f) args) (CR CX0 outer P w H s Q E0) s
section
variable {P : Program} {w : World} {K : PySem.W.Frag} {mg : Str → Option Value} {base : Heap}
theorem GOk.of {k : Nat} {f : Addr} {fd : FuncData} {ps : List Str} {sp : Sp} (F : FnOk P w K mg base CX0 k f fd ps sp) : GOk P w K mg base k f fd ps sp :=
  ⟨F.len, fun A outer s H args us vs Q _ hr e0 hb r h => F.run A outer s H args us vs Q E0 hr e0 hb r h⟩
/-- a def of the text, by its body; the body knows that no repr runs around it -/
theorem fun_okG {x qual : Str} {st : Stmt} {f : Addr} {fd : FuncData} {N ps : List Str} {k : Nat} {sp : Sp} (F : Fun K x qual st f fd) (S : FnScope N ps (defScope st)) (len : ∀ vs H Q E, sp vs H Q E → vs.length = ps.length)
    (hbody : ∀ (cdv : Value) (A : Around) (outer : List Env) (s : Shared) (H : Hp) (vs : List V) (Q : VK), A.guards = some [] → Room k (A.deeper (envOfC qual (defScope st) s.heap.objs.size f cdv)) → sp vs H Q E0 →
      ∃ t, PSs (cxOf CX0 P w K mg base N qual (defScope st) f cdv A outer s H E0).nox (defBody st) t ∧ t { nx := fun _ H' => Q .non H', rt := Q } (start N vs) H) : GOk P w K mg base (k + 1) f fd ps sp := by
  obtain ⟨oc, od, kV, doc, pm, an, cdv, ct, osl, rfl, lk, hcd⟩ := F.ex
  refine ⟨len, fun A outer s H args us vs Q hgd hr e0 hb r hsp => ?_⟩
  have keepB : ∀ b o, base.get? b = some o → s.heap.get? b = some o := fun b o e => (e0.bs b o e).1
  have inS : K.In s.heap := e0.mod.kin.keeps keepB
  have kinds : ∀ y ∈ ps.zip us, (defScope st).names.lookup y.1 = some .local ∨ ((defScope st).names.lookup y.1 = some .cell ∧ ((cellsFrom (s.heap.objs.size + 1) (defScope st).names []).lookup y.1).isSome = true) := by
    rintro ⟨n, v⟩ hy
    cases S.par n (List.of_mem_zip hy).1 with
    | inl q => exact .inl q
    | inr q => exact .inr ⟨q, PySem.W.cellsFrom_some _ _ _ (.inl q)⟩
  apply codeAny_call_function hr.depth (inS _ _ lk) rfl S.co S.gen rfl (PySem.W.codeRec_of inS hcd)
  apply hb
  apply wpAny_newFunctionEnv_cells S.kind kinds
  intro env he s1 x
  subst he
  refine ⟨(e0.mod.nolimit.keeps keepB).keeps x.toInCall.keep, codeAny_func ?_⟩
  obtain ⟨t, ht, hq⟩ := hbody cdv A outer s H vs Q hgd (hr.deeper _) hsp
  have I := inv_start (CX := CX0) (P := P) (w := w) (K := K) (mg := mg) (base := base) (E := E0) S hr.hd e0 (len _ _ _ _ hsp) r x
  refine wpAny_mono (ht.nox.run [] s1 (start N vs) H _ I hq) ?_ fun _ _ z => z
  intro fl s' hs
  cases fl with
  | ret u =>
    obtain ⟨v, σ', H', J, rv, q⟩ := hs
    exact ⟨v, H', J.os, J.bare, J.base, J.hok, rv, q⟩
  | next =>
    obtain ⟨σ', H', J, q⟩ := hs
    exact ⟨V.non, H', J.os, J.bare, J.base, J.hok, rfl, q⟩
  | brk => exact (let ⟨_, _, _, q⟩ := hs; False.elim q)
  | cont => exact (let ⟨_, _, _, q⟩ := hs; False.elim q)
end
section
variable {X : Cx} {k : Nat} {f : Addr} {fd : FuncData} {ps : List Str} {sp : Sp} {x : Str} {p pos : Pos} {e : Expr} {es : List Expr} {t : TA}
/-- f(e, ..) of such a def -/
theorem pe_callG (F : GOk X.prog X.w X.K X.mg X.base k f fd ps sp) (hgd : X.A.guards = some []) (hr : Room k X.A) (hg : Gl X x) (hm : X.mg x = some (.ref f)) (hk : PySem.W.keepIn X.K (.ref f) = true) (hb : Binds X.K fd ps [])
    (ha : PA X (e :: es) t) (hdb : (x == ("__debug__" : Str)) = false := by decide) (he : starEach (e :: es) X.env = (false, eval e X.env) :: starEach es X.env := by rfl) (hpl : (backTo pos (starEach es X.env)).any (·.1) = false := by rfl) :
    PE X (.Call (.Name x p) (e :: es) [] pos) (tCall sp [] E0 t) := by
  refine ⟨fun pins s σ H Q I h => wpAny_Call_Name_kw (ld_glob I hg hm ?_ hdb)⟩
  refine PySem.W.callWith_K (h₀ := X.base) I.ok.mod.kin hk (thn (ha.run pos pins s σ H _ I h) ?_) he hpl
  rintro us s1 ⟨vs, H1, I1, r, q⟩
  refine ⟨I1.kIn, ?_⟩
  have q : sp (vs ++ []) H1 Q E0 := q
  rw [List.append_nil] at q
  have hl : us.length = ps.length := by rw [← r.length]; exact F.len _ _ _ _ q
  refine wpAny_call (codeAny_mono (F.run X.A X.stack s1 H1 ⟨us, []⟩ us vs Q hgd hr I1.env0 (by
    have b := hb s1 us I1.kIn (by rw [List.append_nil]; exact hl)
    rw [List.append_nil] at b
    exact b) r q) ?_)
  intro r' s' hq
  cases r' with
  | error e => exact False.elim hq
  | ok fl =>
    cases fl with
    | ret u => exact I1.after hq
    | next => exact False.elim hq
    | brk => exact False.elim hq
    | cont => exact False.elim hq
/-! ### repr -/
/-- repr(x), x a list or a tuple of data -/
def rReprD (K : PySem.W.Frag) : List V → Hp → VK → Prop := fun xs H Q => ∃ a d, xs = [.ref a] ∧ Dp K H (.ref a) d ∧ d.showable = true ∧ d.hasDict = false ∧ d.depth ≤ 20 ∧ d.shown.length ≤ sizeLine ∧ Q (.str d.shown) H
theorem call_reprD {k : Nat} (hgd : X.A.guards = some []) (hr : Room k X.A) : CallR X (.builtin "repr") (rReprD X.K) := by
  intro pins s σ H xs us Q I r h
  obtain ⟨a, d, rfl, hd, h1, h2, h3, h4, q⟩ := h
  obtain ⟨u, rfl, ru⟩ := vals1 r
  cases ru
  obtain ⟨as, hR⟩ := hd.reads I d (.ref a) (.ref a) rfl
  have hu := hr.units
  refine repr_of_reads' hR h1 (fun z => by rw [h2] at z; cases z) hgd (by omega) (fun _ _ e => e) (fun h' u tk hk => ?_) h4
  exact ⟨.str d.shown, H, I.kept hk, ⟨_, rfl⟩, q⟩
/-- repr(x), x any data -/
def rReprA (K : PySem.W.Frag) : List V → Hp → VK → Prop := fun xs H Q => ∃ v d, xs = [v] ∧ Dp K H v d ∧ d.showable = true ∧ d.hasDict = false ∧ d.depth ≤ 20 ∧ d.shown.length ≤ sizeLine ∧ Q (.str d.shown) H
theorem call_reprA {k : Nat} (hgd : X.A.guards = some []) (hr : Room k X.A) : CallR X (.builtin "repr") (rReprA X.K) := by
  intro pins s σ H xs us Q I r h
  obtain ⟨v, d, rfl, hd, h1, h2, h3, h4, q⟩ := h
  cases hd with
  | non =>
    obtain ⟨u, rfl, ru⟩ := vals1 r
    cases ru
    exact PySem.P.repr_of_none ⟨.str _, H, I.tok _, ⟨_, rfl⟩, q⟩
  | bl b =>
    obtain ⟨u, rfl, ru⟩ := vals1 r
    cases ru
    refine PySem.P.repr_of_bool ⟨.str _, H, I.tok _, ⟨_, rfl⟩, ?_⟩
    cases b <;> exact q
  | int i =>
    obtain ⟨u, rfl, tk, rfl⟩ := vals1 r
    exact PySem.P.repr_of_int (by simpa [PyData.showable] using h1) ⟨.str _, H, I.tok _, ⟨_, rfl⟩, q⟩
  | str x =>
    obtain ⟨u, rfl, tk, rfl⟩ := vals1 r
    exact PySem.P.repr_of_str ⟨.str _, H, I.tok _, ⟨_, rfl⟩, q⟩ h4
  | lst hs hA => exact call_reprD hgd hr pins s σ H _ us Q I r ⟨_, _, rfl, .lst hs hA, h1, h2, h3, h4, q⟩
  | tup hs hA => exact call_reprD hgd hr pins s σ H _ us Q I r ⟨_, _, rfl, .tup hs hA, h1, h2, h3, h4, q⟩
end
end RX
end
section
set_option maxRecDepth 100000
set_option maxHeartbeats 4000000
/-! the law's end for a def that is run where no repr is under way; repr of a list of own instances -/
namespace RX
open PySem PySem.Spec PyProof.Rows L2

/-- the law's call, from an abstract heap that tracks the script alone (or nothing) -/
theorem law_core {P : Program} {w : World} {K : PySem.W.Frag} {mg mb : Str → Option Value} {k : Nat} {fa a : Addr} {fd : FuncData} {x : Str} {sp : Sp} {s : Shared} {vs : List Value} {ns : List Int} {H : Hp}
    (KX : K.In s.heap) (hns : s.heap.Ns mainGlobals mg) (hb : s.heap.Ns builtinsNs mb) (hbb : ∀ x : Str, x ≠ "__name__" → mb x = bootBuiltins x) (hlim : s.heap.NoLimit) (hg : s.gens = #[])
    (ha : s.heap.get? a = some { cls := .type "list", data := .seq vs.toArray }) (hr : Room k callerA)
    (F : ∀ base : Heap, K.In base → base.Ns mainGlobals mg → GOk P w K mg base k fa fd [x] sp) (hbind : ∀ (s : Shared) (u : Value), BindsTo s fd ⟨[u], []⟩ [(x, u)])
    (hsp : sp [.ref a] H (fun v _ => v = .bl true) E0) (hO : Only H) (hok : HOk P w H s.heap) (hA : ∀ b, H b ≠ none → b = a) (hK : H a ≠ none → K.lookup a = none) :
    codeAny (model P w) callerA (.call (.ref fa) ⟨[.ref a], []⟩) (fun r s' => r = .ok (.ret (.bool true)) ∧ OldK s.heap s'.heap ∧ s'.os = s.os ∧ AllBare s'.gens) s := by
  have free : ∀ {b : Addr} {o : Obj} {es : Array DictEntry} {ep : Nat}, s.heap.get? b = some o → o.data = .dict es ep → H b = none := by
    intro b o es ep e d
    apply Classical.byContradiction
    intro q
    have e' := hA b q
    subst e'
    rw [ha] at e
    cases e
    cases (show Data.seq vs.toArray _ = Data.dict es ep from d)
  have ns' : ∀ {b : Addr} {m : Str → Option Value}, s.heap.Ns b m → (hidT s.heap H).Ns b m := by
    rintro b m ⟨o, es, ep, e, d, r⟩
    exact ⟨o, es, ep, hidT_get e (free e d), d, r⟩
  have kin : K.In (hidT s.heap H) := by
    intro b o e
    refine hidT_get (KX b o e) (Classical.byContradiction fun q => ?_)
    have e' := hA b q
    subst e'
    rw [hK q] at e
    cases e
  obtain ⟨mc, l1, l2⟩ := hlim
  have e0 : Env0 P w K mg (hidT s.heap H) callerA [] s H :=
    ⟨rfl, ⟨kin, ns' hns, ⟨mb, ns' hb, hbb⟩, ⟨mc, ns' l1, l2⟩⟩, fun b o e => of_hidT e, Nat.le_of_eq (hidT_size _ _), trivial, fun b hb => absurd (show b ∈ ([] : List Addr) from hb) (by simp), hok, .of_eq hg⟩
  refine codeAny_mono ((F _ kin (ns' hns)).run callerA [] s H ⟨[.ref a], []⟩ [.ref a] [.ref a] _ rfl hr e0 (hbind s (.ref a)) (.cons rfl .nil) hsp) ?_
  intro r s' h
  cases r with
  | error e => exact False.elim h
  | ok fl =>
    cases fl with
    | next => exact False.elim h
    | brk => exact False.elim h
    | cont => exact False.elim h
    | ret u =>
      obtain ⟨v, H', os, bare, un, hok', r', q⟩ := h
      cases (show v = .bl true from q)
      cases (show u = Value.bool true from r')
      refine ⟨rfl, OldK.of_keep fun b o e => ?_, os, bare⟩
      rcases hO b with z | ⟨ob, xs, z⟩
      · exact un.keep b o e z (fun y => absurd (show b ∈ ([] : List Addr) from y) (by simp)) (by simp)
      · have e1 := (hok b _ z).1
        rw [e] at e1
        cases e1
        exact (hok' b _ (un.frzs b _ _ z)).1
theorem law_runG {P : Program} {w : World} {K : PySem.W.Frag} {mg mb : Str → Option Value} {k : Nat} {fa a : Addr} {fd : FuncData} {x : Str} {sp : Sp} {s : Shared} {vs : List Value} {ns : List Int}
    (KX : K.In s.heap) (hns : s.heap.Ns mainGlobals mg) (hb : s.heap.Ns builtinsNs mb) (hbb : ∀ x : Str, x ≠ "__name__" → mb x = bootBuiltins x) (hlim : s.heap.NoLimit) (hg : s.gens = #[])
    (ha : s.heap.get? a = some { cls := .type "list", data := .seq vs.toArray }) (hi : IntsAre vs ns) (hl : ns.length ≤ sizeLine) (hr : Room k callerA)
    (F : ∀ base : Heap, K.In base → base.Ns mainGlobals mg → GOk P w K mg base k fa fd [x] sp) (hbind : ∀ (s : Shared) (u : Value), BindsTo s fd ⟨[u], []⟩ [(x, u)])
    (hsp : ∀ H : Hp, Only H → SqL K H a (ns.map V.int) → sp [.ref a] H (fun v _ => v = .bl true) E0) :
    codeAny (model P w) callerA (.call (.ref fa) ⟨[.ref a], []⟩) (fun r s' => r = .ok (.ret (.bool true)) ∧ OldK s.heap s'.heap ∧ s'.os = s.os ∧ AllBare s'.gens) s := by
  have rv := vals_ints hi
  have lenV := hi.length
  cases hk : K.lookup a with
  | some o =>
    have e := KX a o hk
    rw [ha] at e
    cases e
    have O : Only (fun _ => none) := fun _ => .inl rfl
    exact law_core (vs := vs) (ns := ns) (H := fun _ => none) KX hns hb hbb hlim hg ha hr F hbind
      (hsp _ O (.inr ⟨_, vs.toArray, _, hk, rfl, rfl, rfl, by rw [List.size_toArray, lenV]; exact hl, by simpa using rv⟩)) O (fun b u z => nomatch z) (fun b z => absurd rfl z) fun z => absurd rfl z
  | none =>
    have O : Only (fun b => if b = a then some (.frz { cls := .type "list", data := .seq vs.toArray } (.lst (ns.map V.int))) else none) := by
      intro b
      by_cases hb : b = a
      · exact .inr ⟨_, _, if_pos hb⟩
      · exact .inl (if_neg hb)
    refine law_core (vs := vs) (ns := ns) (H := fun b => if b = a then some (.frz { cls := .type "list", data := .seq vs.toArray } (.lst (ns.map V.int))) else none) KX hns hb hbb hlim hg ha hr F hbind
      (hsp _ O (.inl (.inr ⟨{ cls := .type "list", data := .seq vs.toArray }, if_pos rfl⟩))) O ?_ ?_ fun _ => hk
    · intro b u z
      by_cases hb : b = a
      · cases (if_pos hb).symm.trans z
        subst hb
        exact ⟨ha, by rw [List.length_map]; exact hl, vs, _, rv, ha⟩
      · cases (if_neg hb).symm.trans z
    · intro b z
      apply Classical.byContradiction
      intro hb
      exact z (if_neg hb)
/-- the goal that the head leaves, from the law's promise -/
theorem walk_G {l : PySem.W.OpenLaw} {n k : Nat} {q : Program} {loose : List Str} {XP : (Str → Option Value) → Heap → Prop} {YP : World → Heap → Prop} {d : DefRec} {K : Params → PySem.W.Frag} {sp : PySem.W.Frag → Sp} {x : Str}
    (hn : l.most = some n) (hn2 : n ≤ sizeLine) (hdf : d.params.defaults = []) (hr : Room k callerA) (hY : ∀ (w : World) (h : Heap), YP w h → (K w.params).In h)
    (F : ∀ (w : World) (mg : Str → Option Value) (fa : Addr) (h : Heap), (K w.params).In h → h.Ns mainGlobals mg → mg d.name = some (.ref fa) →
      ∃ fd : FuncData, (∀ (s : Shared) (u : Value), BindsTo s fd ⟨[u], []⟩ [(x, u)]) ∧ ∀ base : Heap, (K w.params).In base → base.Ns mainGlobals mg → GOk l.prog w (K w.params) mg base k fa fd [x] (sp (K w.params)))
    (hsp : ∀ (K : PySem.W.Frag) (H : Hp) (a : Addr) (ns : List Int), ns.length ≤ n → Only H → SqL K H a (ns.map V.int) → sp K [.ref a] H (fun v _ => v = .bl true) E0) :
    PySem.W.WalkO q loose XP YP l.row.toRowW d [] (fun f vs => PySem.call f vs) := by
  apply Att.attach_call hn hdf
  intro w s₀ s₁ mg mb fa o pm cd doc a vs ns G Y ho hd hcd hmg hobj hints hlen hg
  obtain ⟨fd, hb, hF⟩ := F w mg fa _ (hY w _ Y) G.T.g hmg
  exact law_runG (hY w _ Y) G.T.g G.T.b G.T.builtins G.T.nolimit hg hobj hints (Nat.le_trans hlen hn2) hr hF hb fun H hO hS => hsp _ H a ns hlen hO hS
end RX
end
section
set_option maxRecDepth 100000
set_option maxHeartbeats 4000000
/-! repr of a list of own instances -/
namespace RX
open PySem PySem.Spec PyProof.Rows L2

theorem under_loop_frames (A : Around) (args : Args) : (A.under (.builtin "list.__repr__.loop" args)).frames = A.frames := by
  simp [Around.under, Code.envs, Code.isFrame, pushEnvs]
theorem under_loop_room {A : Around} {k : Nat} (r : Room (k + 1) A) (args : Args) : Room k (A.under (.builtin "list.__repr__.loop" args)) := by
  refine ⟨r.hd, ?_, ?_⟩
  · have := r.dp
    have e : (Code.builtin "list.__repr__.loop" args).weight ≤ 1 := by
      simp [Code.weight, Code.isCreation, Code.isGuard, Code.isCaller, Code.frames, Code.isFrame, guardIds]
    show A.depth + (Code.builtin "list.__repr__.loop" args).weight + 3 * k + 5 < _
    omega
  · have := r.un
    rw [units_under_list_loop]
    omega
theorem vals_refs : ∀ {bs : List Addr} {its : List Value}, Vals (bs.map V.ref) its → its = bs.map Value.ref
  | [], _, .nil => rfl
  | b :: bs, _, .cons r t => by
    rw [List.map_cons, vals_refs t]
    congr 1
section
variable {X : Cx} {CX : CXT} {k : Nat} {f C : Addr} {fd : FuncData} {ps : List Str} {sp : Sp} {E : XK}
/-- one instance within the list's repr -/
theorem repr_item {A : Around} {pins : List (Addr × Obj)} {σ : L2.St} {H : Hp} {s : Shared} {a dx : Addr} {fs : List (Str × V)} {b : Nat} {t : Str} {J : Hp → Prop} {Q : Str → Shared → Prop}
    (F : FnOk X.prog X.w X.K X.mg X.base CX k f fd ps sp) (hr : Room k A) (hfr : A.frames = X.A.frames) (hb : Binds X.K fd ps []) (hx : Passes CX X E)
    (hs : PySem.W.findIn X.K (.ref C) "__repr__" = some (some (.ref f))) (hf : PySem.W.isFn X.K (.ref f) = true) (hz : b ≤ sizeLine)
    (I : Inv X pins σ H s) (ha : H a = some (.ins C dx fs)) (h : sp [.ref a] H (fun v H' => v = .str t ∧ J H') E)
    (q : ∀ s' H', Inv X pins σ H' s' → J H' → Q t s') : wpAny (model X.prog X.w) A (pyReprUnder b (.ref a)) Q X.xe s := by
  obtain ⟨od, W⟩ := ins_look I ha
  refine wpAny_pyReprUnder_ref hz ?_
  unfold pyReprObjUnder pyReprObjBy
  refine wpAny_bind (wpAny_cRoomFor hr.units0 ?_)
  refine wpAny_bind (wpAny_bind (W.type.here ((PySem.W.looks_findIn I.kIn hs).here ?_)))
  rw [if_neg (by simp)]
  have run : wpAny (model X.prog X.w) A (call (.ref f) [.ref a]) (fun v s' => (∃ u, v = .str t u) ∧ Q t s') X.xe s := by
    refine wpAny_mono (run_at (vs := [V.ref a]) F hr hfr hb hx I (.cons rfl .nil) h) ?_ fun _ _ e => e
    rintro r s' ⟨v, H', I', rv, rfl, j⟩
    obtain ⟨u, rfl⟩ := (show ∃ u, r = Value.str t u from rv)
    exact ⟨⟨u, rfl⟩, q s' H' I' j⟩
  have fin : wpAny (model X.prog X.w) A (call (.ref f) ([.ref a] ++ []) >>= fun v => pure (some v)) (fun o s' => ∃ u, o = some (.str t u) ∧ Q t s') X.xe s := by
    refine wpAny_bind (wpAny_mono run ?_ fun _ _ e => e)
    rintro v s' ⟨⟨u, rfl⟩, z⟩
    exact wpAny_pure ⟨u, rfl, z⟩
  refine wpAny_bind (wpAny_mono (Q := fun o s' => ∃ u, o = some (.str t u) ∧ Q t s') ?_ ?_ fun _ _ e => e)
  · simp only [callSpecialIfBoundBy?, bindSpecialIfBound?]
    refine wpAny_holding (wpAny_bind (wpAny_bind (wpAny_bind (W.type.here ((PySem.W.looks_findIn I.kIn hs).here ?_)))))
    refine wpAny_bind (wpAny_askSetting (wpAny_ite ?_))
    split
    · exact wpAny_bind ((PySem.W.bind_fn I.kIn _ (beq_iff_eq.mp hf)).here (wpAny_pure (by exact fin)))
    · exact wpAny_tryCatch (wpAny_bind ((PySem.W.bind_fn I.kIn _ (beq_iff_eq.mp hf)).here (wpAny_pure (by exact fin))))
  · rintro o s' ⟨u, rfl, z⟩
    exact wpAny_bind (wpAny_isInstance (T := "str") (b := true) rfl isSubtype_str_str (wpAny_pure ⟨t, u, rfl, z⟩))
/-- what the list of the parts needs to be an object that nothing else touches -/
structure Apart (X : Cx) (pins : List (Addr × Obj)) (P : Addr) : Prop where
  new : X.s_0.heap.objs.size ≤ P
  loc : P ≠ X.env.locals
  cel : ∀ x c, X.env.cells.lookup x = some c → c ≠ P
  pin : ∀ p ∈ X.pn ++ pins, p.1 ≠ P
  fs : P ∉ X.fs
/-- the loop over the items -/
theorem repr_loop {A : Around} {pins : List (Addr × Obj)} {σ : L2.St} {a P : Addr} {bs : List Addr} {ts : List Str} {J : Hp → Prop} {R : Result → Shared → Prop}
    (F : FnOk X.prog X.w X.K X.mg X.base CX k f fd ps sp) (hr : Room (k + 1) A) (hfr : A.frames = X.A.frames) (hb : Binds X.K fd ps []) (hx : Passes CX X E) (hxe : ∀ e s', X.xe e s' → R (.error e) s')
    (hs : PySem.W.findIn X.K (.ref C) "__repr__" = some (some (.ref f))) (hf : PySem.W.isFn X.K (.ref f) = true) (ap : Apart X pins P) (hl : ts.length = bs.length) (hsz : (listText ts).length ≤ sizeLine)
    (hJ : ∀ H, J H → H a = some (.lst (bs.map V.ref)) ∧ ∀ (i : Nat) (b : Addr) (t : Str), bs[i]? = some b → ts[i]? = some t → ∃ dx fs, H b = some (.ins C dx fs) ∧ sp [.ref b] H (fun v H' => v = .str t ∧ J H') E)
    (fin : ∀ s' H' u, Inv X pins σ H' s' → J H' → R (.ok (.ret (.str (listText ts) u))) s') :
    ∀ (j i : Nat), bs.length - i = j → i ≤ bs.length → ∀ (s : Shared) (H : Hp) (acc : Array Value) (c : Nat) (done : List (Str × Tok)),
    Inv X ((P, { cls := .type "list", dict := none, data := .seq acc c, slots := #[] }) :: pins) σ H s → J H → acc.toList = strValues done → done.map (·.1) = ts.take i →
    codeAny (model X.prog X.w) A (.builtin "list.__repr__.loop" ⟨[.ref a, rawInt i, .ref P, rawInt ((piled (ts.take i) : Nat) : Int)], []⟩) R s := by
  have hp3 := piled_le_listText ts
  have each : ∀ t ∈ ts, t.length ≤ sizeLine := fun t ht => by
    have h2 := (textFrom_len ts 0 "[").2.1 t ht
    have hX : (listText ts).length = (textFrom 0 "[" ts).length + 1 := by
      show (textFrom 0 "[" ts ++ "]").length = _
      rw [strLen_append]; rfl
    omega
  have items : ∀ {s : Shared} {H : Hp} {pins' : List (Addr × Obj)}, Inv X pins' σ H s → J H → ∃ n, s.heap.get? a = some { cls := .type "list", data := .seq (bs.map Value.ref).toArray n } := by
    intro s H pins' I hj
    obtain ⟨_, its, n, rv, e⟩ := I.hok a _ (hJ H hj).1
    have : its = bs.map Value.ref := vals_refs rv
    subst this
    exact ⟨n, e⟩
  intro j
  induction j with
  | zero =>
    intro i hk hi s H acc c done I hj hacc hdone
    have hin : i = bs.length := by omega
    obtain ⟨n, ea⟩ := items I hj
    refine codeAny_builtin PySem.F.entry_list_repr_loop ?_
    show wpAny _ _ (Builtin.«list.__repr__.loop» ⟨[.ref a, .int i 0, .ref P, .int ((piled (ts.take i) : Nat) : Int) 0], []⟩) _ _ s
    rw [repr_loop_tree]
    refine wpAny_bind (wpAny_listItems ea rfl ?_)
    have hnone : (bs.map Value.ref).toArray[(i : Int).toNat]? = none := by simp [hin]
    simp only [hnone]
    unfold reprEnd
    refine wpAny_bind (wpAny_listItems (ClX.pin_at I) rfl ?_)
    rw [hacc, repr_fold]
    refine wpAny_bind (wpAny_pure ?_)
    have hall : done.map (·.1) = ts := by rw [hdone, hin, ← hl, List.take_length]
    rw [hall]
    exact wpAny_bind (wpAny_mkStr (wpAny_pure (fin _ H _ ((ClX.unpin I).tok _) hj)) hsz)
  | succ j ih =>
    intro i hk hi s H acc c done I hj hacc hdone
    have hlt : i < bs.length := by omega
    obtain ⟨n, ea⟩ := items I hj
    have hb' : bs[i]? = some bs[i] := List.getElem?_eq_getElem hlt
    have ht' : ts[i]? = some (ts[i]'(by omega)) := List.getElem?_eq_getElem (by omega)
    generalize ts[i]'(by omega) = t at ht'
    obtain ⟨dx, fs, hi1, hsp⟩ := (hJ H hj).2 i _ _ hb' ht'
    have hp1 := piled_take_succ ht'
    have hp2 := piled_take_le ts (i + 1)
    refine codeAny_builtin PySem.F.entry_list_repr_loop ?_
    show wpAny _ _ (Builtin.«list.__repr__.loop» ⟨[.ref a, .int i 0, .ref P, .int ((piled (ts.take i) : Nat) : Int) 0], []⟩) _ _ s
    rw [repr_loop_tree]
    refine wpAny_bind (wpAny_listItems ea rfl ?_)
    have hsome : (bs.map Value.ref).toArray[(i : Int).toNat]? = some (.ref bs[i]) := by simp [hlt]
    simp only [hsome]
    rw [Int.toNat_natCast]
    refine wpAny_bind (wpAny_holding (wpAny_mono (repr_item (J := J) F (under_loop_room hr _) ((under_loop_frames _ _).trans hfr) hb hx hs hf (by omega) I hi1 hsp (Q := fun r s' => r = t ∧ ∃ H', Inv X ((P, { cls := .type "list", dict := none, data := .seq acc c, slots := #[] }) :: pins) σ H' s' ∧ J H') fun s' H' I' j' => ⟨rfl, H', I', j'⟩) ?_ fun e s' z => hxe e s' z))
    rintro r s' ⟨rfl, H', I', j'⟩
    refine wpAny_bind (wpAny_mkStr ?_ (each _ (List.mem_of_getElem? ht')))
    refine wpAny_bind ?_
    show wpAny _ _ (updateSeq P _) _ _ _
    have hasz : acc.size ≤ sizeLine := by
      have e1 : acc.toList.length = acc.size := by simp
      have e2 : (strValues done).length = done.length := by simp [strValues]
      have e3 : done.length = (ts.take i).length := by rw [← hdone, List.length_map]
      have e4 : 2 * (ts.take i).length ≤ piled (ts.take i) := by
        generalize ts.take i = l
        induction l with
        | nil => simp
        | cons x l ih => rw [piled_cons, List.length_cons]; omega
      rw [hacc] at e1
      omega
    refine wpAny_updateSeq (ClX.pin_at I') rfl (wpAny_pure ⟨PySem.F.quiet_list_repr_loop _, ?_⟩) hasz
    have e1 : ((i : Int) + 1) = ((i + 1 : Nat) : Int) := by omega
    have e2 : piled (ts.take i) + (r.length + 2) = piled (ts.take (i + 1)) := by omega
    rw [e1, e2]
    obtain ⟨c', hc'⟩ : ∃ c', Obj.mapSeq (fun y => y.push (.str r s'.toks)) { cls := .type "list", dict := none, data := .seq acc c, slots := #[] } = { cls := .type "list", dict := none, data := .seq (acc.push (.str r s'.toks)) c', slots := #[] } := ⟨_, rfl⟩
    refine ih (i + 1) (by omega) hlt _ H' (acc.push (.str r s'.toks)) c' (done ++ [(r, s'.toks)]) ?_ j' (by simp [hacc, strValues]) (by simp [List.take_add_one, ht', hdone])
    have hPn := ClX.pin_un I'
    have I2 := (ClX.unpin I').turned (it := P) (t' := s'.toks + 1) (h' := s'.heap.update P (Obj.mapSeq fun y => y.push (.str r s'.toks))) (fun b o hbP e => (Heap.get?_update_other _ _ (fun z : P = b => hbP z.symm)).trans e) hPn ap.loc (.inr ap.new) ap.cel ap.pin
    refine I2.pins_of ?_
    intro p hp
    rcases List.mem_cons.mp hp with e | e
    · subst e
      exact ⟨by rw [← hc']; exact Heap.get?_update_self _ (ClX.pin_at I') rfl, hPn, ap.loc, ap.fs, fun v z => nomatch z⟩
    · exact I2.pin p (List.mem_append_right _ e)
/-- repr([x, y, ..]) of own instances: J holds at each turn -/
def rReprL (C : Addr) (sp : Sp) (E : XK) : List V → Hp → VK → Prop := fun xs H Q => ∃ (a : Addr) (bs : List Addr) (ts : List Str) (J : Hp → Prop), xs = [.ref a] ∧ bs ≠ [] ∧ ts.length = bs.length ∧ (listText ts).length ≤ sizeLine ∧ J H ∧
  (∀ H, J H → H a = some (.lst (bs.map V.ref)) ∧ ∀ (i : Nat) (b : Addr) (t : Str), bs[i]? = some b → ts[i]? = some t → ∃ dx fs, H b = some (.ins C dx fs) ∧ sp [.ref b] H (fun v H' => v = .str t ∧ J H') E) ∧
  ∀ H', J H' → Q (.str (listText ts)) H'
theorem call_reprL (hgd : X.A.guards = some []) (F : FnOk X.prog X.w X.K X.mg X.base CX k f fd ps sp) (hr : Room (k + 2) X.A) (hb : Binds X.K fd ps []) (hx : Passes CX X E)
    (hs : PySem.W.findIn X.K (.ref C) "__repr__" = some (some (.ref f))) (hf : PySem.W.isFn X.K (.ref f) = true) : CallR X (.builtin "repr") (rReprL C sp E) := by
  intro pins s σ H xs us Q I r h
  obtain ⟨a, bs, ts, J, rfl, hne, hl, hsz, hj, hJ, q⟩ := h
  obtain ⟨u, rfl, ru⟩ := vals1 r
  cases ru
  obtain ⟨_, its, n, rv, ea⟩ := I.hok a _ (hJ H hj).1
  cases vals_refs rv
  obtain ⟨b0, br, rfl⟩ : ∃ b r, bs = b :: r := by
    cases bs with
    | nil => exact absurd rfl hne
    | cons b r => exact ⟨b, r, rfl⟩
  have hTy : s.TypeIs (.ref a) "list" := ⟨_, ea, rfl⟩
  refine call_repr_slot (hu_of hr) hTy PySem.F.slot_list_repr.toG ?_
  refine wpAny_call (codeAny_call_builtin PySem.F.slot_list_repr.plain PySem.F.entry_list_repr (PySem.F.slot_list_repr.check _ _ _ _ _ _ _ _ hTy (PySem.F.args_list_repr_1 _) ?_))
  refine wpAny_list_repr_head (A := X.A.in1.in1) (b := 0) (g := []) hgd (fun v rest kw hm => nomatch hm) ea (x := .ref b0) (l := br.map Value.ref) rfl ?_
  refine wpAny_bind (m := newList []) (wpAny_newObj_type ?_)
  refine wpAny_pure ⟨PySem.F.quiet_list_repr_loop _, ?_⟩
  have low : ∀ {c : Addr} {o : Obj}, s.heap.get? c = some o → c ≠ s.heap.objs.size := fun e => Nat.ne_of_lt (Heap.lt_size e)
  have ap : Apart X pins s.heap.objs.size := by
    refine ⟨I.sz, fun z => ?_, fun x c e z => ?_, fun p hp => low (I.pin p hp).1, I.nofs (Nat.le_refl _)⟩
    · exact absurd I.lt (by rw [← z]; exact Nat.lt_irrefl _)
    · obtain ⟨v, o, ho, _⟩ := I.cell x c e
      exact low ho z
  have I2 : Inv X ((s.heap.objs.size, { cls := .type "list", dict := none, data := .seq #[] 0, slots := #[] }) :: pins) σ H { s with heap := s.heap.push { cls := .type "list", dict := none, data := .seq #[] 0, slots := #[] } } :=
    ClX.pin_new (t' := s.toks) I (fun b o e => Heap.get?_push_of_some _ e) (Nat.le_refl _) (Heap.get?_push_size _ rfl) (fun v z => nomatch z)
  refine repr_loop (A := X.A.in1) (J := J) (ts := ts) F hr.in1 rfl hb hx (fun e s' z => z) hs hf ap hl hsz hJ ?_ _ 0 rfl (Nat.zero_le _) _ H #[] _ [] I2 hj rfl (by simp)
  intro s' H' u I' j'
  exact ⟨_, _, rfl, .str (listText ts), H', I', ⟨u, rfl⟩, q H' j'⟩
end
end RX
end
section
set_option maxRecDepth 100000
set_option maxHeartbeats 4000000
/-! o.m(k = v, ..) -/
namespace RX
open PySem PySem.Spec PyProof.Rows L2
def tMethKw (C : Addr) (m : Str) (n : Nat) (sp : Sp) (gV : List V → List V → List V) (E : XK) (ta : TE) (tk : TA) : TE := fun σ H Q => ta σ H fun x H1 => ∃ a dx fs, x = .ref a ∧ H1 a = some (.ins C dx fs) ∧ fs.lookup m = none ∧
  tk σ H1 fun zs H2 => zs.length = n ∧ sp (gV [.ref a] zs) H2 Q E
section
variable {X : Cx} {CX : CXT} {k : Nat} {f C : Addr} {fd : FuncData} {ps ks : List Str} {sp : Sp} {E : XK} {m : Str} {pos apos : Pos} {o : Expr} {kws : List Keyword} {ta : TE} {tk : TA} {g : List Value → List Value → List Value} {gV : List V → List V → List V}
theorem pe_methKw {pl : Sem Bool} (he : PE X o ta) (c : Cls X.K C) (hm : Meth X.K C m f) (F : FnOk X.prog X.w X.K X.mg X.base CX k f fd ps sp) (hr : Room k X.A) (hb : KBn X.K fd ps 1 ks g gV) (hx : Passes CX X E) (hkw : PK X kws tk)
    (hall : (backToKw pos (keywordEach kws X.env)).all (·.1.isSome) = true := by rfl) (hks : (backToKw pos (keywordEach kws X.env)).filterMap (·.1) = ks := by rfl)
    (hpl : ((backTo pos (starEach [] X.env)).any (·.1) || (backToKw pos (keywordEach kws X.env)).any (·.1.isNone)) = false := by rfl)
    (ht : eval (.Call (.Attribute o m apos) [] kws pos) X.env = (do
      let ov ← eval o X.env
      standAt apos.atName
      let (f, first) ← holding [ov] (getMethod ov m pl)
      callWith pos f first (backTo pos (starEach [] X.env)) (backToKw pos (keywordEach kws X.env))) := by rfl) :
    PE X (.Call (.Attribute o m apos) [] kws pos) (tMethKw C m ks.length sp gV E ta tk) := by
  refine ⟨fun pins s σ H Q I h => ?_⟩
  refine PySem.W.methodCall_KW (pl := pl) (thn (he.run pins s σ H _ I h) ?_) ht
  rintro u s1 ⟨x, H1, I1, rx, a, dx, fs, rfl, ea, l, q⟩
  cases rx
  refine getmeth_ok I1 ea c hm l ?_
  refine PySem.W.callWith_KW0 (first := [.ref a]) (h₀ := X.base) I.ok.mod.kin hm.kp hall (thn (hkw.run pos pins s1 σ H1 _ I1 q) ?_) hpl
  rintro ws s2 ⟨zs, H2, I2, rz, l2, q2⟩
  refine ⟨I2.kIn, ?_⟩
  rw [hks]
  have r2 := hb.rel (vs := [V.ref a]) (us := [Value.ref a]) (.cons rfl .nil) rz
  refine wpAny_call (codeAny_mono (F.run X.A X.stack s2 H2 ⟨[.ref a], ks.zip ws⟩ (g [.ref a] ws) (gV [.ref a] zs) Q E hr I2.env0 (hb.to s2 [.ref a] ws I2.kIn rfl (rz.length.symm.trans l2)) r2 q2) ?_)
  intro r' s' hq
  cases r' with
  | error e => exact hx pins σ H2 s2 e s' I2 hq
  | ok fl =>
    cases fl with
    | ret u => exact I2.after hq
    | next => exact False.elim hq
    | brk => exact False.elim hq
    | cont => exact False.elim hq
end
end RX
end
section
set_option maxRecDepth 100000
set_option maxHeartbeats 4000000
/-! list(text); set(list of texts); sorted(set of texts) -/
namespace RX
open PySem PySem.Spec PyProof.Rows L2
section
variable {prog : Program} {w : World} {A : Around} {E : Value → Shared → Prop} {s : Shared}
theorem hint_txt {x : Str} {t : Tok} {Q : Bool → Shared → Prop} (h : Q false s) : wpAny (model prog w) A (Builtin.List.listLengthHint (.str x t)) Q E s := by
  have hT : s.TypeIs (.str x t) "str" := typeIs_str s x t
  unfold Builtin.List.listLengthHint; refine wpAny_bind (wpAny_specialOf hT PySem.F.slot_str_len.lookup ?_)
  generalize hid : ("str.__len__" : String) = id0; wp_delta
  rw [show splitId id0 = some ("str", "__len__") from by subst hid; decide +kernel]; subst hid
  refine wpAny_bind (wpAny_isInstance (T := "str") (b := true) hT (by rw [isSubtype_type]; kernel_rfl) ?_)
  refine wpAny_ite_split (fun hab => absurd hab (by decide)) (fun _ => wpAny_ite_split (fun _ => ?_) (fun hab => absurd (by decide +kernel) hab))
  exact wpAny_bind (wpAny_typeOf hT (wpAny_pure h))
theorem extend_txt {R : Result → Shared → Prop} (hh : A.handled = none) (x : Str) (t : Tok) (S : Addr) (res : Value) (c₀ : Nat) (hS : s.heap.get? S = some { cls := .type "list", data := .seq #[] c₀ }) (hn : x.cps.size ≤ sizeLine)
    (hR : ∀ h' tk acc' c', (∀ b o, b ≠ S → s.heap.get? b = some o → h'.get? b = some o) → h'.get? S = some { cls := .type "list", dict := none, data := .seq acc' c', slots := #[] } → ItemsOf (SignAt x) acc' x.cps.size → R (.ok (.ret res)) { s with heap := h', toks := tk }) :
    wpAny (model prog w) A.in1 (Builtin.List.listExtendWith (.ref S) (.str x t) res)
      (fun fin s' => match fin with | .done f => R (.ok f) s' | .again c' => c'.quiet = true ∧ codeAny (model prog w) A c' R s') (fun e s' => R (.error e) s') s := by
  have hSI : S ≠ s.heap.objs.size := Nat.ne_of_lt (Heap.lt_size hS); have hSf : S ∉ [s.heap.objs.size] := fun hm => hSI (List.mem_singleton.mp hm)
  unfold Builtin.List.listExtendWith; refine wpAny_bind (wpAny_typeOf (T := "str") (v := .str x t) (typeIs_str s x t) ?_)
  simp only [show Builtin.List.listSameRef (.ref S) (.str x t) = false from rfl, show (Value.type "str" == Value.type "list") = false by decide, show (Value.type "str" == Value.type "tuple") = false by decide, Bool.or_false, Bool.false_eq_true, if_false]
  refine wpAny_bind (wpAny_pyIter_str fun o St W hst => wpAny_bind (wpAny_holding (hint_txt ?_)))
  rw [if_neg (by first | decide | decide +kernel)]
  refine wpAny_pure ⟨plainId_quiet PySem.F.plain_extend_loop _, codeAny_extend_loopS (W A.in1 hh).toS hn _ hSf _ x.cps.size 0 _ _ _ rfl (Nat.zero_le _) hst (Heap.get?_push_of_some _ hS) (ItemsOf.nil _) fun s' acc' c' hm hS' hacc => ?_⟩
  rw [Moved.eq_with hm]
  refine hR s'.heap s'.toks acc' c' (fun b ob hb e => hm.heap b ob (fun hmem => ?_) (Heap.get?_push_of_some _ e)) hS' hacc
  rcases List.mem_cons.mp hmem with e' | hmem; exact hb e'
  exact absurd (Heap.lt_size e) (by rw [List.mem_singleton.mp hmem]; exact Nat.lt_irrefl _)
theorem list_init_txt {R : Result → Shared → Prop} (hh : A.handled = none) (x : Str) (t : Tok) (S : Addr) (hS : s.heap.get? S = some { cls := .type "list", data := .seq #[] }) (hn : x.cps.size ≤ sizeLine)
    (hR : ∀ h' tk acc' c', (∀ b o, b ≠ S → s.heap.get? b = some o → h'.get? b = some o) → h'.get? S = some { cls := .type "list", dict := none, data := .seq acc' c', slots := #[] } → ItemsOf (SignAt x) acc' x.cps.size → R (.ok (.ret .none)) { s with heap := h', toks := tk }) :
    wpAny (model prog w) A.in1 (Builtin.«list.__init__» ⟨[.ref S, .str x t], []⟩)
      (fun fin s' => match fin with | .done f => R (.ok f) s' | .again c' => c'.quiet = true ∧ codeAny (model prog w) A c' R s') (fun e s' => R (.error e) s') s := by
  show wpAny _ _ (do let old ← Builtin.List.listItems (.ref S); Builtin.List.listUpdate (.ref S) (fun _ => #[]); letGo old.toList.reverse; Builtin.List.listExtendWith (.ref S) (.str x t) .none) _ _ s
  refine wpAny_bind ?_; unfold Builtin.List.listItems
  refine wpAny_bind (wpAny_seqItems hS rfl (wpAny_pure ?_))
  show wpAny _ _ (updateSeq S (fun _ => #[]) >>= fun _ => letGo (#[] : Array Value).toList.reverse >>= fun _ => Builtin.List.listExtendWith (.ref S) (.str x t) .none) _ _ s
  refine wpAny_bind (wpAny_updateSeq hS rfl ?_)
  have hS₂ := Heap.get?_update_self (Obj.mapSeq (fun _ => (#[] : Array Value))) hS rfl; have oth : ∀ b o, b ≠ S → s.heap.get? b = some o → (s.heap.update S (Obj.mapSeq (fun _ => (#[] : Array Value)))).get? b = some o := fun b o hb e => (Heap.get?_update_other _ _ (Ne.symm hb)).trans e
  exact wpAny_bind (wpAny_letGo (extend_txt hh x t S .none _ hS₂ hn fun h' tk acc' c' hk hS' hacc => hR h' tk acc' c' (fun b o hb e => hk b o hb (oth b o hb e)) hS' hacc))
/-- list(text) -/
theorem call_list_txt {x : Str} {t : Tok} {Q : Value → Shared → Prop} (hh : A.handled = none) (hn : x.cps.size ≤ sizeLine)
    (hQ : ∀ h' tk acc' c', (∀ b o, s.heap.get? b = some o → h'.get? b = some o) → h'.get? s.heap.objs.size = some { cls := .type "list", dict := none, data := .seq acc' c', slots := #[] } → ItemsOf (SignAt x) acc' x.cps.size → Q (.ref s.heap.objs.size) { s with heap := h', toks := tk }) :
    wpAny (model prog w) A (call (.type "list") [.str x t]) Q E s := by
  refine callType_codes (Q₁ := fun obj s₁ => obj = .ref s.heap.objs.size ∧ s₁ = { s with heap := s.heap.push { cls := .type "list", data := .seq #[] } }) PySem.F.called_list (PySem.F.typeCall_list_1 _) PySem.F.entry_list_init (code_list_new _ ⟨rfl, rfl⟩) fun obj s₁ h₁ => ?_
  obtain ⟨rfl, rfl⟩ := h₁; have hS : (s.heap.push { cls := .type "list", data := .seq #[] }).get? s.heap.objs.size = some { cls := .type "list", data := .seq #[] } := Heap.get?_push_size _ rfl
  refine ⟨⟨_, hS, rfl⟩, PySem.F.args_list_init_2 _ _, list_init_txt (A := A.in1) hh x t _ hS hn (fun h' tk acc' c' hk hS' hacc => ?_)⟩
  exact ⟨rfl, hQ h' tk acc' c' (fun b o e => hk b o (Nat.ne_of_lt (Heap.lt_size e)) (Heap.get?_push_of_some _ e)) hS' hacc⟩
end
section
variable {X : Cx}
/-- list(text) over the layer -/
def rListT : List V → Hp → VK → Prop := fun xs H Q => ∃ a : Tx, xs = [tx a] ∧ a.length ≤ sizeLine ∧ ∀ p, H p = none → Q (.ref p) (upd H p (.lst (a.map fun c => tx [c])))
theorem call_listT (hc : X.calm = true) : CallR X (.type "list") rListT := by
  intro pins s σ H xs us Q I r h
  obtain ⟨a, rfl, hz, q⟩ := h
  obtain ⟨u, rfl, ru⟩ := vals1 r
  obtain ⟨t, rfl⟩ := (show ∃ t, u = Value.str (stx a) t from ru)
  have hsz : (stx a).cps.size = a.length := by show a.toArray.size = a.length; simp
  refine call_list_txt (I.ok.hd hc) (by rw [hsz]; exact hz) fun h' tk acc c' hk e hi => ?_
  refine ⟨.ref s.heap.objs.size, upd H s.heap.objs.size (.lst (a.map fun c => tx [c])), I.laid hk (Nat.le_refl _) ⟨by rw [List.length_map]; exact hz, acc.toList, c', ?_, by rw [Array.toArray_toList]; exact e⟩, rfl, q _ (I.hok.fresh (Nat.le_refl _))⟩
  refine vals_of_idx _ _ (by rw [List.length_map, Array.length_toList, hi.1, hsz]) fun j u hj => ?_
  obtain ⟨c, t', hc', rfl⟩ := hi.2 j u (by rw [← Array.getElem?_toList]; exact hj)
  have hc2 : a[j]? = some c := by simpa [stx] using hc'
  exact ⟨tx [c], by rw [List.getElem?_map, hc2]; rfl, ⟨_, rfl⟩⟩
end
end RX
end
section
set_option maxRecDepth 100000
set_option maxHeartbeats 4000000
/-! sets of texts: set(list), sorted(set) -/
namespace RX
open PySem PySem.Spec PyProof.Rows L2
def skey (e : Int × Value) : Str := match e.2 with | .str k _ => k | _ => Str.empty
def GoodS (w : World) (e : Int × Value) : Prop := ∃ k tk, e.2 = Value.str k tk ∧ e.1 = hashStr w k
/-- the set of texts at a: S its members, n their number; its table rises and can be walked -/
def SetT (w : World) (h : Heap) (a : Addr) (S : Str → Bool) (n : Nat) : Prop :=
  ∃ o es ep t, h.get? a = some o ∧ o.ExactSet ∧ o.data = .set es ep t ∧ (∀ e ∈ es.toList, GoodS w e) ∧ (es.toList.map skey).Nodup ∧ (∀ k, S k = true ↔ k ∈ es.toList.map skey) ∧ es.size < scanBound ∧ t.fits es.size = true ∧ es.size = n ∧
    Ris t.place.toList ∧ (w.params.followText "set-order" = true ∨ t.led = true)
section
variable {P : Program} {w : World} {h h' : Heap} {a : Addr} {S : Str → Bool} {n : Nat}
theorem SetT.at (R : SetT w h a S n) (k : ∀ o, h.get? a = some o → h'.get? a = some o) : SetT w h' a S n := by obtain ⟨o, es, ep, t, ho, r⟩ := R; exact ⟨o, es, ep, t, k o ho, r⟩
theorem SetT.congr {S' : Str → Bool} {n' : Nat} (R : SetT w h a S n) (e : ∀ k, S k = S' k) (en : n = n') : SetT w h a S' n' := by have q : S = S' := funext e; subst q; subst en; exact R
theorem gs_elems {l : List (Int × Value)} (g : ∀ e ∈ l, GoodS w e) : ElemsOf (PySem.strKind P w) l := fun e he => by
  obtain ⟨k, tk, h1, h2⟩ := g e he; exact ⟨⟨k, by rw [h1]; exact strKind_is P w k tk, h2⟩, by rw [h1] <;> rfl⟩
theorem gs_is {e : Int × Value} (g : GoodS w e) (k : Str) : (PySem.strKind P w).is k e.2 = true ↔ skey e = k := by
  obtain ⟨k0, tk, h1, _⟩ := g
  have e1 : skey e = k0 := by unfold skey; rw [h1]
  rw [e1, h1]
  constructor
  · intro z; exact ((PySem.strKind P w).inj (.str k0 tk) k k0 z (strKind_is P w k0 tk)).symm
  · rintro rfl; exact strKind_is P w k0 tk
theorem gs_mem {l : List (Int × Value)} (g : ∀ e ∈ l, GoodS w e) (k : Str) : k ∈ l.map skey ↔ ∃ e ∈ l, (PySem.strKind P w).is k e.2 = true := by
  rw [List.mem_map]; exact ⟨fun ⟨e, he, q⟩ => ⟨e, he, (gs_is (g e he) k).2 q⟩, fun ⟨e, he, q⟩ => ⟨e, he, (gs_is (g e he) k).1 q⟩⟩
theorem setT_fresh {h : Heap} (w : World) : SetT w (h.push { cls := .type "set", dict := none, data := .set #[] 0 (.fresh 0 0 (!w.params.followText "set-order")) }) h.objs.size (fun _ => false) 0 := by
  refine ⟨_, #[], 0, _, Heap.get?_push_size _ rfl, ⟨rfl, rfl, rfl⟩, rfl, (fun e he => by simp at he), (by simp), (fun k => by simp), (by decide), (by rfl), rfl, List.Pairwise.nil, ?_⟩
  show _ ∨ (!w.params.followText "set-order") = true; cases w.params.followText "set-order"; exact .inr rfl; exact .inl rfl
end
section
variable {P : Program} {w : World} {A : Around} {E : Value → Shared → Prop} {s : Shared} {a : Addr} {S : Str → Bool} {n : Nat}
theorem setT_tail {g : Bool → Sem Unit} (hg : ∀ (b : Bool) (s₁ : Shared) (Q' : Unit → Shared → Prop), Q' () s₁ → wpAny (model P w) A (g b) Q' E s₁)
    {o : Obj} {es : Array (Int × Value)} {ep : Nat} {t : SetTable} (ho : s.heap.get? a = some o) (hex : o.ExactSet) (hd : o.data = .set es ep t)
    {es1 : Array (Int × Value)} {t2 : SetTable} {S' : Str → Bool} (g1 : ∀ e ∈ es1.toList, GoodS w e) (nd1 : (es1.toList.map skey).Nodup) (m1 : ∀ k, S' k = true ↔ k ∈ es1.toList.map skey) (hb1 : es1.size < scanBound) (hf2 : t2.fits es1.size = true)
    (hr : Ris t2.place.toList) (hl : w.params.followText "set-order" = true ∨ t2.led = true) {wasDummy : Bool} {R : Option Bool → Shared → Prop} (hR : ∀ h', Heap.SameBut a s.heap h' → SetT w h' a S' es1.size → R (some true) { s with heap := h' }) :
    wpAny (model P w) A (do storeSet a es1 t2
                            if (!wasDummy && t2.tooFull) = true then do
                                g (relayAll t2 es1 (SetTable.grown es1.size)).2.2
                                storeSet a (relayAll t2 es1 (SetTable.grown es1.size)).1 (relayAll t2 es1 (SetTable.grown es1.size)).2.1
                                pure (some true)
                              else pure (some true)) R E s := by
  have ho1 := store_at (es' := es1) (t' := t2) ho hd; have sb1 := Heap.SameBut.update s.heap a (Obj.putSet es1 t2)
  refine wpAny_bind (wpAny_storeSet_of ho hd ?_ (fits_of_scanBound hb1)); split
  · have pm := relayAll_perm t2 es1 (SetTable.grown es1.size); have hf3 := relayAll_fits t2 es1 (SetTable.grown es1.size); have hr3 := relayAll_ris t2 es1 (SetTable.grown es1.size); have hl3 := relayAll_led t2 es1 (SetTable.grown es1.size)
    generalize relayAll t2 es1 (SetTable.grown es1.size) = Z at pm hf3 hr3 hl3 ⊢; obtain ⟨es2, t3, gave⟩ := Z
    dsimp only at pm hf3 hr3 hl3 ⊢; have hsz : es2.size = es1.size := by rw [← Array.length_toList, pm.length_eq, Array.length_toList]
    have hb2 : es2.size < scanBound := by rw [hsz]; exact hb1
    refine wpAny_bind (hg _ _ _ (wpAny_bind (wpAny_storeSet_of ho1 rfl ?_ (fits_of_scanBound hb2)))); have ho2 := store_at (es' := es2) (t' := t3) ho1 rfl
    exact wpAny_pure (hR _ (sb1.trans (Heap.SameBut.update _ a _)) ⟨_, es2, _, t3, ho2, hex, rfl, fun e he => g1 e (pm.mem_iff.mp he), (pm.map skey).nodup_iff.mpr nd1, fun k => (m1 k).trans (pm.map skey).mem_iff.symm, hb2, hf3, hsz, hr3, hl.imp id fun z => by rw [hl3]; exact z⟩)
  · exact wpAny_pure (hR _ sb1 ⟨_, es1, _, t2, ho1, hex, rfl, g1, nd1, m1, hb1, hf2, rfl, hr, hl⟩)
theorem setT_add {k : Str} {tk : Tok} {Q : Bool → Shared → Prop} (R : SetT w s.heap a S n) (room : n + 1 < scanBound)
    (hQ : ∀ h', Heap.SameBut a s.heap h' → SetT w h' a (fun j => S j || decide (j = k)) (if S k = true then n else n + 1) → Q (!S k) { s with heap := h' }) : wpAny (model P w) A (setAddHashed a (.str k tk) ((PySem.strKind P w).hash k)) Q E s := by
  obtain ⟨o, es, ep, t, ho, hex, hd, g, nd, hm, hb, hf, hn, hr, hl⟩ := R
  have hkey : (PySem.strKind P w).is k (.str k tk) = true := strKind_is P w k tk; have hsc : (Value.str k tk).scannable = true := rfl
  have hel : ElemsOf (PySem.strKind P w) es.toList := gs_elems g
  unfold setAddHashed setAddHashedIn; refine wpAny_holding (wpAny_bind (wpAny_setState_of ho hd hf ?_))
  dsimp only; rw [byScan_of hsc hb hel]
  simp only [↓reduceIte]; unfold setAddByScan
  refine wpAny_bind (wpAny_bind (wpAny_rule (wpAny_bind (wpAny_setScan_of hkey ho hd hf hel ?_))))
  cases hfi : List.findIdx? (fun e => (PySem.strKind P w).is k e.2) es.toList with
  | some j =>
    dsimp only; obtain ⟨hj, pj, _⟩ := List.findIdx?_eq_some_iff_getElem.mp hfi
    have hSk : S k = true := (hm k).2 ((gs_mem (P := P) (w := w) g k).2 ⟨es.toList[j], List.getElem_mem hj, pj⟩)
    refine wpAny_pure (wpAny_pure ?_); have q := hQ s.heap (Heap.SameBut.refl a s.heap) ⟨o, es, ep, t, ho, hex, hd, g, nd, fun i => by
      rw [Bool.or_eq_true, decide_eq_true_eq, ← hm i]; exact ⟨fun z => z.elim id (fun e => e ▸ hSk), .inl⟩, hb, hf, by rw [if_pos hSk]; exact hn, hr, hl⟩
    rw [hSk] at q; exact q
  | none =>
    dsimp only; have hnk : k ∉ es.toList.map skey := fun z => by
      obtain ⟨e, he, q⟩ := (gs_mem (P := P) (w := w) g k).1 z; have c := List.findIdx?_eq_none_iff.mp hfi e he
      rw [q] at c; cases c
    have hSk : S k = false := by cases q : S k with | false => rfl | true => exact absurd ((hm k).1 q) hnk
    have pm := layNew_perm t es ((PySem.strKind P w).hash k) (.str k tk); have hf1 := layNew_fits t es ((PySem.strKind P w).hash k) (.str k tk)
    have hr1 := layNew_ris t es ((PySem.strKind P w).hash k) (.str k tk) hr; have hl1 := layNew_led t es ((PySem.strKind P w).hash k) (.str k tk)
    generalize layNew t es ((PySem.strKind P w).hash k) (.str k tk) = Z at pm hf1 hr1 hl1 ⊢; obtain ⟨es1, t1, wasDummy, gave⟩ := Z
    dsimp only at pm hf1 hr1 hl1 ⊢; rw [Array.toList_push] at pm
    have pc : es1.toList.Perm (((PySem.strKind P w).hash k, Value.str k tk) :: es.toList) := pm.trans (List.perm_append_singleton _ _); have pk : (es1.toList.map skey).Perm (k :: es.toList.map skey) := pc.map skey
    have g1 : ∀ e ∈ es1.toList, GoodS w e := fun e he => by
      rcases List.mem_cons.mp (pc.mem_iff.mp he) with z | z; rw [z]; exact ⟨k, tk, rfl, rfl⟩
      exact g e z
    have nd1 : (es1.toList.map skey).Nodup := pk.nodup_iff.mpr (List.nodup_cons.mpr ⟨hnk, nd⟩); have m1 : ∀ i, (S i || decide (i = k)) = true ↔ i ∈ es1.toList.map skey := fun i => by
      rw [Bool.or_eq_true, decide_eq_true_eq, hm i, pk.mem_iff, List.mem_cons]; exact Or.comm
    have hsz : es1.size = n + 1 := by rw [← Array.length_toList, pc.length_eq, List.length_cons, Array.length_toList, hn]
    have hb1 : es1.size < scanBound := by rw [hsz]; exact room
    have hled : w.params.followText "set-order" = true ∨ t1.led = true := hl.imp id fun z => by rw [hl1]; exact z
    have fin : ∀ h', Heap.SameBut a s.heap h' → SetT w h' a (fun j => S j || decide (j = k)) es1.size → Q true { s with heap := h' } := fun h' sb r => by
      have q := hQ h' sb; rw [hSk] at q; rw [hsz] at r; exact q r
    have hgw : ∀ (b : Bool) (s₁ : Shared) (Q' : Unit → Shared → Prop), Q' () s₁ → wpAny (model P w) A (match b with | true => rule "set.scan.the-table-gave-way" | false => pure ()) Q' E s₁ := fun b s₁ Q' q => by cases b <;> first | exact wpAny_pure q | exact wpAny_rule q
    refine wpAny_bind (hgw _ _ _ ?_); split
    · refine wpAny_bind ?_; rw [hashByValue_scannable 8 hsc]
      refine wpAny_pure (setT_tail ?_ ho hex hd g1 nd1 m1 hb1 ?_ ?_ ?_ ?_)
      · intro b s₁ Q' q; cases b <;> first | exact wpAny_pure q | exact wpAny_rule q
      · first | (split <;> first | exact hf1 | exact SetTable.fits_plain_off hf1) | exact hf1
      · first | (split <;> exact hr1) | exact hr1
      · first | (split <;> exact hled) | exact hled
      · intro h' sb r; dsimp only; exact wpAny_pure (fin h' sb r)
    · refine wpAny_bind (wpAny_pure ?_); simp only [↓reduceIte]
      refine setT_tail ?_ ho hex hd g1 nd1 m1 hb1 hf1 hr1 hled (fun h' sb r => by dsimp only; exact wpAny_pure (fin h' sb r))
      intro b s₁ Q' q; cases b <;> first | exact wpAny_pure q | exact wpAny_rule q
end
end RX
end
section
set_option maxRecDepth 100000
set_option maxHeartbeats 4000000
/-! set(list of texts), sorted of it -/
namespace RX
open PySem PySem.Spec PyProof.Rows L2
/-- the unlike ones of a list, in the order in which they came -/
def metS (xs : List Str) : List Str := xs.foldl (fun m x => if x ∈ m then m else m ++ [x]) []
theorem metS_snoc (xs : List Str) (x : Str) : metS (xs ++ [x]) = if x ∈ metS xs then metS xs else metS xs ++ [x] := by unfold metS; rw [List.foldl_append]; rfl
theorem met_len : ∀ (xs m : List Str), (xs.foldl (fun m x => if x ∈ m then m else m ++ [x]) m).length ≤ m.length + xs.length
  | [], m => Nat.le_refl _
  | x :: xs, m => by
    rw [List.foldl_cons, List.length_cons]
    refine Nat.le_trans (met_len xs _) ?_
    split
    · omega
    · rw [List.length_append]; show m.length + 1 + xs.length ≤ _; omega
theorem met_mem (k : Str) : ∀ (xs m : List Str), k ∈ xs.foldl (fun m x => if x ∈ m then m else m ++ [x]) m ↔ k ∈ m ∨ k ∈ xs
  | [], m => by simp
  | x :: xs, m => by
    rw [List.foldl_cons, met_mem k xs]
    split
    · rename_i h
      rw [List.mem_cons]
      exact ⟨fun z => z.elim .inl fun z => .inr (.inr z), fun z => z.elim .inl fun z => z.elim (fun e => .inl (e ▸ h)) .inr⟩
    · rw [List.mem_append, List.mem_singleton, List.mem_cons, or_assoc]
theorem metS_len (xs : List Str) : (metS xs).length ≤ xs.length := by have := met_len xs []; rw [List.length_nil, Nat.zero_add] at this; exact this
theorem metS_mem (xs : List Str) (k : Str) : k ∈ metS xs ↔ k ∈ xs := (met_mem k xs []).trans ⟨fun z => z.elim (fun q => nomatch q) id, .inr⟩
def metB (xs : List Str) : Str → Bool := fun k => decide (k ∈ metS xs)
section
variable {prog : Program} {w : World} {A : Around} {R : Result → Shared → Prop} {I : Addr} {fp wr : List Addr} {G : Array GenState → Array GenState → Prop} {n : Nat} {P : Nat → Value → Prop} {St : Nat → Shared → Prop}
theorem loopT (W : WalksS prog w A.in1 I fp wr G n P St) (S : Addr) (hSf : S ∉ fp) (xs : List Str) (hsz : xs.length = n) (hb : n + 1 < scanBound) (hval : ∀ i v, P i v → ∃ t, v = .str (xs.getD i Str.empty) t) :
    ∀ (k i : Nat) (s : Shared), n - i = k → i ≤ n → St i s → SetT w s.heap S (metB (xs.take i)) (metS (xs.take i)).length →
      (∀ s', Moved (S :: wr) G s s' → SetT w s'.heap S (metB xs) (metS xs).length → R (.ok (.ret .none)) s') → codeAny (model prog w) A (.builtin "set.update.loop" ⟨[.ref S, .ref I], []⟩) R s := by
  have hSw : S ∉ wr := fun h => hSf (W.sub _ h); have hsub : ∀ b ∈ wr, b ∈ S :: wr := fun b hb => List.mem_cons_of_mem _ hb
  intro k; induction k with
  | zero =>
    intro i s hk hi hst hS hR; have hin : i = n := by omega
    subst hin; refine codeAny_builtin PyProof.Rows.F.entry_set_update_loop ?_
    rw [Around.under_plainId PyProof.Rows.F.plain_set_update_loop _]; show wpAny _ A.in1 (pyNext (.ref I) >>= _) _ _ s
    refine wpAny_bind (W.done s _ _ hst fun s' hm => ?_); show wpAny _ A.in1 (ret Value.none) _ _ s'
    rw [← hsz, List.take_length] at hS
    exact wpAny_pure (hR s' (hm.mono hsub) (hS.at fun o ho => hm.heap S o hSw ho))
  | succ k ih =>
    intro i s hk hi hst hS hR; have hlt : i < n := by omega
    refine codeAny_builtin PyProof.Rows.F.entry_set_update_loop ?_; rw [Around.under_plainId PyProof.Rows.F.plain_set_update_loop _]
    show wpAny _ A.in1 (pyNext (.ref I) >>= _) _ _ s; refine wpAny_bind (W.item i s _ _ hlt hst fun v s' hP hst' hm => ?_)
    obtain ⟨t, rfl⟩ := hval i v hP; have hS' := hS.at fun o ho => hm.heap S o hSw ho
    show wpAny _ A.in1 (holding [Value.str (xs.getD i Str.empty) t] (setAdd S (.str (xs.getD i Str.empty) t)) >>= _) _ _ s'
    refine wpAny_bind (wpAny_holding ?_); unfold setAdd
    refine wpAny_holding (wpAny_bind ((PySem.strKind prog w).pyHash (k := xs.getD i Str.empty) (strKind_is _ _ _ _) ?_))
    have hroom : (metS (xs.take i)).length + 1 < scanBound := by have := metS_len (xs.take i); rw [List.length_take] at this; omega
    refine setT_add (s := { s' with toks := s'.toks + 1 }) hS' hroom fun h' hsb hS2 => ?_
    have ht : xs.take (i + 1) = xs.take i ++ [xs.getD i Str.empty] := by
      have hl : i < xs.length := by omega
      rw [List.take_succ_eq_append_getElem hl, List.getD_eq_getElem?_getD, List.getElem?_eq_getElem hl]; rfl
    have hSi : SetT w h' S (metB (xs.take (i + 1))) (metS (xs.take (i + 1))).length := by
      refine hS2.congr (fun k' => ?_) ?_
      · rw [ht]
        unfold metB
        rw [Bool.eq_iff_iff, Bool.or_eq_true, decide_eq_true_eq, decide_eq_true_eq, decide_eq_true_eq, metS_mem, metS_mem, List.mem_append, List.mem_singleton]
      · rw [ht, metS_snoc]
        unfold metB
        by_cases hx : xs.getD i Str.empty ∈ metS (xs.take i)
        · rw [if_pos hx, if_pos (decide_eq_true hx)]
        · rw [if_neg hx, if_neg (by rw [decide_eq_true_eq]; exact hx), List.length_append]; rfl
    refine wpAny_pure ⟨plainId_quiet PyProof.Rows.F.plain_set_update_loop _, ih (i + 1) _ (by omega) hlt (W.frame _ s' _ _ hst' (Nat.le_succ _) fun b hb o e => ?_) hSi fun s'' hm'' hS'' => ?_⟩
    · rw [hsb.2 b (fun h : b = S => hSf (by rw [← h]; exact hb))]; exact e
    · refine hR s'' (Moved.trans W.gtrans ((hm.mono hsub).then_heap (Nat.le_succ _) fun b o hb e => ?_) hm'') hS''; rw [hsb.2 b (fun h : b = S => hb (by rw [h]; exact List.mem_cons_self))]; exact e
end
section
variable {prog : Program} {w : World} {A : Around} {E : Value → Shared → Prop} {s : Shared}
theorem code_set_new1 (a : Value) {Q₁ : Value → Shared → Prop} (h : Q₁ (.ref s.heap.objs.size) { s with heap := s.heap.push { cls := .type "set", dict := none, data := .set #[] 0 (.fresh 0 0 (!w.params.followText "set-order")) } }) :
    codeAny (model prog w) A (.call (.builtin "set.__new__") ⟨[.type "set", a], []⟩) (wants Q₁ E) s := by
  refine codeAny_of_tree ?_
  show wpAny _ A.in1 (do checkBuiltinCall "set.__new__" ⟨[.type "set", a], []⟩; again (.builtin "set.__new__" ⟨[.type "set", a], []⟩)) _ _ s
  refine wpAny_bind (wpAny_of_eq (PySem.F.newCall_set_1 a) (wpAny_pure ⟨plainId_quiet PySem.F.plain_set_new _, codeAny_builtin PySem.F.entry_set_new ?_⟩)); rw [Around.under_plainId PySem.F.plain_set_new _]
  unfold Builtin.«set.__new__» Builtin.Frozenset.newClass; have hsub := sub_set_self
  obtain ⟨hp, g, d, tk, os⟩ := s; dsimp only
  wp_walk
  refine wpAny_askSetting (wpAny_pure ?_); dsimp only
  simp only [newObj]; exact wpAny_bind (wpAny_alloc (wpAny_pure (wpAny_pure h)))
theorem call_set_listT {l : Addr} {items : Array Value} {xs : List Str} {Q : Value → Shared → Prop} (hh : A.handled = none) (hl : s.heap.IsList l items) (hi : StrsAre items.toList xs) (hb : items.size + 1 < scanBound)
    (h : ∀ (h' : Heap) (tk : Nat), SetT w h' s.heap.objs.size (metB xs) (metS xs).length → (∀ b o, b < s.heap.objs.size → s.heap.get? b = some o → h'.get? b = some o) → Q (.ref s.heap.objs.size) { s with heap := h', toks := tk }) :
    wpAny (model prog w) A (call (.type "set") [.ref l]) Q E s := by
  have hxl : xs.length = items.size := by have := hi.length; rw [Array.length_toList] at this; exact this.symm
  obtain ⟨c, tl, hmro⟩ := PySem.F.called_set.mro; have hmade := PySem.F.called_set.made
  have hsub := PySem.F.called_set.sub; refine wpAny_call (codeAny_of_tree ?_)
  show wpAny _ _ (callAny (.type "set") _) _ _ _; refine wpAny_pure ⟨Code.quiet_builtin _ (by decide +kernel), codeAny_builtin PySem.F.entry_type_call ?_⟩
  rw [Around.under_plain (weight_type_call_type "set" [.ref l] []) rfl]; have h1 := PySem.F.called_set.notType
  have h2 := PySem.F.called_set.canCreate; have hct := PySem.F.typeCall_set_1 (.ref l)
  repeat (any_goals (first | assumption | wp_step))
  have hS0 := setT_fresh (h := s.heap) w
  have hS : (s.heap.push { cls := .type "set", dict := none, data := .set #[] 0 (.fresh 0 0 (!w.params.followText "set-order")) }).get? s.heap.objs.size = some { cls := .type "set", dict := none, data := .set #[] 0 (.fresh 0 0 (!w.params.followText "set-order")) } := Heap.get?_push_size _ rfl
  refine codeAny_mono (code_set_new1 (.ref l) (E := E) (Q₁ := fun obj s₁ => obj = .ref s.heap.objs.size ∧ s₁ = { s with heap := s.heap.push { cls := .type "set", dict := none, data := .set #[] 0 (.fresh 0 0 (!w.params.followText "set-order")) } }) ⟨rfl, rfl⟩) fun r s₁ hr => ?_
  generalize hled : (!w.params.followText "set-order") = led at hS hS0 hr ⊢
  cases r with
  | error e => exact hr
  | ok fl =>
    cases fl with
    | ret obj =>
      obtain ⟨rfl, rfl⟩ := hr
      have hT : Shared.TypeIs { s with heap := s.heap.push { cls := .type "set", dict := none, data := .set #[] 0 (.fresh 0 0 led) } } (.ref s.heap.objs.size) "set" := ⟨_, hS, rfl⟩
      have hli := PySem.F.called_set.init.lookup; have hbi := PySem.F.called_set.init.bind (.ref s.heap.objs.size)
      repeat (any_goals (first | assumption | wp_step))
      refine codeAny_mono (codeAny_call_builtin (R := wants (fun r s₂ => r = .none ∧ ∃ h' tk, s₂ = { s with heap := h', toks := tk } ∧ SetT w h' s.heap.objs.size (metB xs) (metS xs).length ∧ (∀ b o, b < s.heap.objs.size → s.heap.get? b = some o → h'.get? b = some o)) E) PySem.F.called_set.init.plain PySem.F.entry_set_init (PySem.check_set_init_1 hT ?_)) fun r₂ s₂ hr₂ => ?_
      · obtain ⟨ol, hol, hcl, nl, hdl⟩ := hl
        obtain ⟨ocls, odict, odata, oslots⟩ := ol; simp only at hcl hdl
        subst hcl; subst hdl; have hlS : l < s.heap.objs.size := Heap.lt_size hol
        have hol' : (s.heap.push { cls := .type "set", dict := none, data := .set #[] 0 (.fresh 0 0 led) }).get? l = some { cls := .type "list", dict := odict, data := .seq items nl, slots := oslots } := Heap.get?_push_of_some _ hol
        have hsls := PySem.F.sub_list_set; have hslf := PySem.F.sub_list_frozenset
        have hne : (Value.type "list" == Value.type "dict") = false := by decide
        have hl1 : (s.heap.push { cls := .type "set", dict := none, data := .set #[] 0 (.fresh 0 0 led) }).IsList l items := ⟨_, hol', rfl, nl, rfl⟩
        unfold Builtin.«set.__init__» noKeywords Builtin.Frozenset.updateFrom; generalize hPI : pyIter = PI
        wp_walk
        subst hPI
        refine wpAny_pyIter_list hl1 (wpAny_bind (wpAny_runValue ?_)); have hh3 : A.in1.in1.in1.handled = none := by simp [hh]
        have hneI : l ≠ (s.heap.push { cls := .type "set", dict := none, data := .set #[] 0 (.fresh 0 0 led) }).objs.size := by rw [Heap.size_push]; exact Nat.ne_of_lt (Nat.lt_succ_of_lt hlS)
        have hSf : s.heap.objs.size ∉ [(s.heap.push { cls := .type "set", dict := none, data := .set #[] 0 (.fresh 0 0 led) }).objs.size, l] := by
          rw [Heap.size_push]; simp only [List.mem_cons, List.not_mem_nil, or_false, not_or]; exact ⟨Nat.ne_of_lt (Nat.lt_succ_self _), Nat.ne_of_gt hlS⟩
        have hval : ∀ (i : Nat) (v : Value), items[i]? = some v → ∃ t, v = .str (xs.getD i Str.empty) t := fun i v hv => SS.strs_at hi i v (by rw [Array.getElem?_toList]; exact hv)
        refine loopT ((Walks.list hh3 _ l hneI items).toS) s.heap.objs.size hSf xs hxl hb hval (items.size - 0) 0 _ (by omega) (Nat.zero_le _) ⟨⟨_, Heap.get?_push_size _ rfl, rfl, rfl⟩, (hl1.push _)⟩ (hS0.at fun o ho => Heap.get?_push_of_some _ ho) ?_
        intro s' hm hS'; obtain ⟨h', g', d', tk', os'⟩ := s'
        have eg : g' = s.gens := hm.gens; have ed : d' = s.drawn := hm.drawn; have eo : os' = s.os := hm.os
        subst eg; subst ed; subst eo; show wpAny _ _ _ _ _ _
        refine wpAny_pure ?_; show wpAny _ _ (ret Value.none) _ _ _
        refine wpAny_pure ⟨rfl, h', tk', rfl, hS', fun b o hb e => ?_⟩; have hb1 : b ≠ s.heap.objs.size := Nat.ne_of_lt hb
        have hb2 : b ≠ (s.heap.push { cls := .type "set", dict := none, data := .set #[] 0 (.fresh 0 0 led) }).objs.size := by rw [Heap.size_push]; exact Nat.ne_of_lt (Nat.lt_succ_of_lt hb)
        exact hm.heap b o (by simp only [List.mem_cons, List.not_mem_nil, or_false, not_or]; exact ⟨hb1, hb2⟩) (Heap.get?_push_of_some _ (Heap.get?_push_of_some _ e))
      · cases r₂ with
        | error e => exact hr₂
        | ok fl₂ =>
          cases fl₂ with
          | ret r =>
            obtain ⟨rfl, h', tk, rfl, hS', hk'⟩ := hr₂; repeat (any_goals (first | assumption | wp_step))
            exact h _ _ hS' hk'
          | _ => exact hr₂.elim
    | _ => exact hr.elim
theorem strs_of : ∀ (l : List Value), (∀ v ∈ l, ∃ k tk, v = Value.str k tk) → ∃ ss, StrsAre l ss
  | [], _ => ⟨[], .nil⟩
  | v :: l, h => by
    obtain ⟨k, tk, rfl⟩ := h v List.mem_cons_self
    obtain ⟨ss, r⟩ := strs_of l fun u hu => h u (List.mem_cons_of_mem _ hu)
    exact ⟨k :: ss, .cons k tk r⟩
end
end RX
end
section
set_option maxRecDepth 100000
set_option maxHeartbeats 4000000
/-! set(list of texts), sorted(set of texts) over the layer -/
namespace RX
open PySem PySem.Spec PyProof.Rows L2
section
variable {P : Program} {w : World} {A : Around} {E : Value → Shared → Prop} {s : Shared} {a : Addr} {S : Str → Bool} {n : Nat}
theorem sorted_setT {Q : Value → Shared → Prop} (R : SetT w s.heap a S n) (hh : A.handled = none)
    (hQ : ∀ s' p (out : Array Value) (c : Nat) (ss : List Str), (∀ b o, s.heap.get? b = some o → s'.heap.get? b = some o) → s'.gens = s.gens → s'.os = s.os → s.heap.objs.size ≤ p → s'.heap.get? p = some (seqObj "list" out c) →
      StrsAre out.toList ss → sortedS ss = true → ss.Nodup → (∀ k, k ∈ ss ↔ S k = true) → ss.length = n → n < scanBound → Q (.ref p) s') : wpAny (model P w) A (call (.builtin "sorted") [.ref a]) Q E s := by
  obtain ⟨o, es, ep, t, ho, hex, hd, g, nd, hm, hb, hf, hn, hr, hl⟩ := R
  refine Calls.call_function_entry kind_sorted plain_sorted entry_sorted (args_sorted1 _) ?_; unfold Builtin.«sorted»
  refine wpAny_bind (m := checkCount "sorted" 1 1 _) (wpAny_pure (wpAny_bind (collect_set (A := A.in1) hh ⟨o, ho, hex.1, hd⟩ hf hb hr hl fun s1 vs k1 hz g1 o1 pm => ?_)))
  have hvl : vs.length = n := by rw [pm.length_eq, List.length_map, Array.length_toList]; exact hn
  have hg : ∀ v ∈ vs, ∃ k tk, v = Value.str k tk := fun v hv => by
    obtain ⟨e, he, q⟩ := List.mem_map.mp (pm.mem_iff.mp hv); obtain ⟨k, tk, h1, _⟩ := g e he; exact ⟨k, tk, by rw [← q]; exact h1⟩
  obtain ⟨ss, hI⟩ := strs_of vs hg
  have ek : ∀ {vs : List Value} {ss : List Str}, StrsAre vs ss → ss = vs.map fun v => skey (0, v) := fun {vs ss} h => by
    induction h with
    | nil => rfl
    | cons y k r ih => rw [List.map_cons, ← ih]; rfl
  have pk : ss.Perm (es.toList.map skey) := by
    rw [ek hI]
    have q := pm.map (fun v => skey (0, v)); rw [List.map_map] at q
    exact q
  have hlz : vs.length ≤ sizeLine := by rw [hvl, ← hn]; exact fits_of_scanBound hb
  refine wpAny_bind (wpAny_newList ?_ hlz)
  have hoL : (s1.heap.push (seqObj "list" vs.toArray 0)).get? s1.heap.objs.size = some (seqObj "list" vs.toArray 0) := Heap.get?_push_size _ rfl
  refine wpAny_bind (wpAny_holding (wpAny_call_entry slot_list_sort ⟨_, hoL, rfl⟩ entry_list_sort (list_sort_treeKAny strKind_oneLt hoL hI.keysOf (fun v₁ v₂ rest e => keyKind_strs (by rw [← e]; exact hI)) hlz fun st' hp hs => ⟨_, rfl, ?_⟩) (args_list_sort _)))
  obtain ⟨ss', h1, h2, h3⟩ := sorted_out_str hI hp hs
  obtain ⟨c, hc⟩ := sortedHeap_at (vs := vs) (out := (arrOf st').map (·.2)) hoL
  have pn : ss'.Perm (es.toList.map skey) := h2.trans pk
  refine wpAny_pure ⟨_, rfl, hQ _ s1.heap.objs.size _ c ss' (fun b u e => ?_) g1 o1 hz hc h1 h3 (pn.nodup_iff.mpr nd) (fun k => by rw [pn.mem_iff, ← hm k]) (by rw [pn.length_eq, List.length_map, Array.length_toList]; exact hn) (by rw [← hn]; exact hb)⟩
  have q := k1 b u e; have hlt := Heap.lt_size q
  show (sortedHeap (s1.heap.push (seqObj "list" vs.toArray 0)) s1.heap.objs.size vs _).get? b = some u
  rw [sortedHeap_old (Nat.ne_of_lt hlt) (by rw [size_push']; exact Nat.lt_succ_of_lt hlt)]; exact Heap.get?_push_of_some _ q
end
/-- the set of texts at a -/
def SetTO (w : World) (a : Addr) (S : Str → Bool) (n : Nat) : HO := .ext fun h => SetT w h a S n
/-- one-sign texts that rise -/
theorem rise_of : ∀ (cs : List Nat), sortedS (cs.map fun c => stx [c]) = true → (cs.map fun c => stx [c]).Nodup → cs.Pairwise (· < ·) := by
  have go : ∀ (cs : List Nat) (p : Nat), risingS (stx [p]) (cs.map fun c => stx [c]) = true → ((p :: cs).map fun c => stx [c]).Nodup → (p :: cs).Pairwise (· < ·) := by
    intro cs
    induction cs with
    | nil => intro p _ _; exact List.pairwise_singleton _ _
    | cons x r ih =>
      intro p h nd
      have h' : (!ltCps (stx [x]).cps.toList (stx [p]).cps.toList && risingS (stx [x]) (r.map fun c => stx [c])) = true := h
      rw [Bool.and_eq_true] at h'
      rw [List.map_cons, List.nodup_cons] at nd
      have pr := ih x h'.2 nd.2
      have hle : ¬ x < p := by
        have h1 := h'.1
        rw [ltCps_eq, stx_list, stx_list, Bool.not_eq_true', decide_eq_false_iff_not] at h1
        intro z
        exact h1 (List.cons_lt_cons_iff.mpr (.inl z))
      have hne : p ≠ x := fun e => nd.1 (by rw [e, List.map_cons]; exact List.mem_cons_self)
      have hpx : p < x := by omega
      refine List.pairwise_cons.mpr ⟨fun y hy => ?_, pr⟩
      rcases List.mem_cons.mp hy with e | e
      · rw [e]; exact hpx
      · exact Nat.lt_trans hpx ((List.pairwise_cons.mp pr).1 y e)
  intro cs h nd
  cases cs with
  | nil => exact List.Pairwise.nil
  | cons p r => exact go r p h nd
theorem ones_of : ∀ (ss : List Str), (∀ k ∈ ss, ∃ c : Nat, k = stx [c]) → ∃ cs : List Nat, ss = cs.map fun c => stx [c]
  | [], _ => ⟨[], rfl⟩
  | k :: ss, h => by
    obtain ⟨c, rfl⟩ := h k List.mem_cons_self
    obtain ⟨cs, rfl⟩ := ones_of ss fun k hk => h k (List.mem_cons_of_mem _ hk)
    exact ⟨c :: cs, rfl⟩
theorem stx1_inj {c d : Nat} (h : stx [c] = stx [d]) : c = d := by have := stx_inj h; injection this
section
variable {X : Cx}
theorem setTO_new {w : World} {P : Program} {H : Hp} {h : Heap} {a : Addr} {S : Str → Bool} {n : Nat} (R : SetT w h a S n) : ObjOk P w H h a (SetTO w a S n) := by
  have ⟨o, _, _, _, ho, _⟩ := R
  exact ⟨R, ⟨o, ho⟩, fun h1 h2 p k => SetT.at p k⟩
theorem vals_strs : ∀ {ys : List Str} {us : List Value}, Vals (ys.map V.str) us → StrsAre us ys := strsAre_of
/-- set(list of texts) -/
def rSetT (K : PySem.W.Frag) (w : World) : List V → Hp → VK → Prop := fun xs H Q => ∃ (l : Addr) (ss : List Str), xs = [V.ref l] ∧ SqL K H l (ss.map V.str) ∧ ss.length ≤ 4000 ∧ ∀ p, H p = none → Q (.ref p) (upd H p (SetTO w p (metB ss) (metS ss).length))
theorem call_setT (hc : X.calm = true) : CallR X (.type "set") (rSetT X.K X.w) := by
  intro pins s σ H xs us Q I r h
  obtain ⟨l, ss, rfl, hs, hl, q⟩ := h
  obtain ⟨u, rfl, ru⟩ := vals1 r
  cases ru
  obtain ⟨its, rv, pl, hz⟩ := I.list hs
  have hlen : its.toArray.size = ss.length := by rw [List.size_toArray, ← rv.length, List.length_map]
  refine call_set_listT (I.ok.hd hc) pl.isList (by simpa using strsAre_of rv) (by rw [hlen]; unfold scanBound; omega) fun h' tk hS hk => ?_
  exact ⟨.ref _, upd H s.heap.objs.size (SetTO X.w s.heap.objs.size (metB ss) (metS ss).length), I.laid (t' := tk) (fun b u e => hk b u (Heap.lt_size e) e) (Nat.le_refl _) (setTO_new hS), rfl, q _ (I.hok.fresh (Nat.le_refl _))⟩
/-- sorted(set of one-sign texts) -/
def rSortT (w : World) : List V → Hp → VK → Prop := fun vs H Q => ∃ (a : Addr) (S : Str → Bool) (n : Nat), vs = [V.ref a] ∧ H a = some (SetTO w a S n) ∧ (∀ k, S k = true → ∃ c : Nat, k = stx [c]) ∧
  ∀ (cs : List Nat) (p : Addr), cs.Pairwise (· < ·) → (∀ c : Nat, c ∈ cs ↔ S (stx [c]) = true) → H p = none → Q (.ref p) (upd H p (.lst (cs.map fun c => tx [c])))
theorem cr_sortT (hc : X.calm = true) : CallR X (.builtin "sorted") (rSortT X.w) := by
  intro pins s σ H vs us Q I r h
  obtain ⟨a, S, n, rfl, ha, hone, q⟩ := h
  have R : SetT X.w s.heap a S n := (I.hok a _ ha).1
  rw [Vals.ref1 r]
  refine sorted_setT R (I.ok.hd hc) fun s' p out c ss k g o hp hg hi hs nd hm hl hb => ?_
  obtain ⟨cs, rfl⟩ := ones_of ss fun k hk => hone k ((hm k).mp hk)
  have hv : Vals (cs.map fun c => tx [c]) out.toList := by
    have go : ∀ {us : List Value} {ss : List Str}, StrsAre us ss → Vals (ss.map V.str) us := fun {us ss} h => by
      induction h with
      | nil => exact .nil
      | cons y k r ih => exact .cons ⟨k, rfl⟩ ih
    have := go hi
    rw [List.map_map] at this
    exact this
  have hlen : (cs.map fun c => tx [c]).length ≤ sizeLine := by
    rw [List.length_map] at hl ⊢
    rw [hl]; exact fits_of_scanBound hb
  have hn : H p = none := I.hok.fresh hp
  have J : Inv X pins σ (upd H p (.lst (cs.map fun c => tx [c]))) { s with heap := s'.heap, gens := s'.gens, drawn := s'.drawn, toks := s'.toks } :=
    I.call (ch := []) (Un.laid k hp hn) (I.hok.laid k hp ⟨hlen, out.toList, c, hv, hg⟩) (by rw [g]; exact I.bare) (fun _ z => nomatch z)
  have e : s' = { s with heap := s'.heap, gens := s'.gens, drawn := s'.drawn, toks := s'.toks } := by
    cases s'; cases s; cases o; rfl
  rw [e]
  refine ⟨.ref p, _, J, rfl, q cs p (rise_of cs hs nd) (fun c => ?_) hn⟩
  rw [← hm, List.mem_map]
  exact ⟨fun h => ⟨c, h, rfl⟩, fun ⟨d, hd, e⟩ => stx1_inj e ▸ hd⟩
end
end RX
end
section
set_option maxRecDepth 100000
set_option maxHeartbeats 4000000
namespace LW
open PySem L2 RX WM Evl
def top (i : Nat) : Stmt := PySem.Challenge.pw_ringdepth_k13_whole_words_by_letters.main.body.getD i (.Pass ⟨0, 0, 0, 0⟩)
abbrev st_is_integer : Stmt := top 9
theorem sc_is_integer : FnScope ["value"] ["value"] (defScope st_is_integer) := ⟨rfl, rfl, rfl, by decide +kernel, rfl, by decide +kernel, by decide +kernel⟩
abbrev st_is_count : Stmt := top 10
theorem sc_is_count : FnScope ["value"] ["value"] (defScope st_is_count) := ⟨rfl, rfl, rfl, by decide +kernel, rfl, by decide +kernel, by decide +kernel⟩
abbrev st_is_text : Stmt := top 11
theorem sc_is_text : FnScope ["value", "sign"] ["value"] (defScope st_is_text) := ⟨rfl, rfl, rfl, by decide +kernel, rfl, by decide +kernel, by decide +kernel⟩
abbrev st_root_of : Stmt := top 14
theorem sc_root_of : FnScope ["lap", "size"] ["lap"] (defScope st_root_of) := ⟨rfl, rfl, rfl, by decide +kernel, rfl, by decide +kernel, by decide +kernel⟩
abbrev st_plain_of : Stmt := top 15
theorem sc_plain_of : FnScope ["begin", "lap", "root", "same", "cut"] ["begin", "lap"] (defScope st_plain_of) := ⟨rfl, rfl, rfl, by decide +kernel, rfl, by decide +kernel, by decide +kernel⟩
abbrev st_want_number : Stmt := top 16
theorem sc_want_number : FnScope ["number"] ["number"] (defScope st_want_number) := ⟨rfl, rfl, rfl, by decide +kernel, rfl, by decide +kernel, by decide +kernel⟩
/-- small letters -/
def Lets (a : Tx) : Prop := ∀ c ∈ a, 97 ≤ c ∧ c ≤ 122
def small : Tx := [97, 98, 99, 100, 101, 102, 103, 104, 105, 106, 107, 108, 109, 110, 111, 112, 113, 114, 115, 116, 117, 118, 119, 120, 121, 122]
/-- the built-in names are not shadowed; the module's constants -/
structure Bl (mg : Str → Option Value) : Prop where
  n_len : mg "len" = none
  n_int : mg "int" = none
  n_str : mg "str" = none
  n_bool : mg "bool" = none
  n_isinstance : mg "isinstance" = none
  n_all : mg "all" = none
  n_range : mg "range" = none
  n_max : mg "max" = none
  n_min : mg "min" = none
  n_abs : mg "abs" = none
  n_divmod : mg "divmod" = none
  n_repr : mg "repr" = none
  small : ∃ t, mg "SMALL" = some (.str (stx small) t)
theorem small_eq : V.str "abcdefghijklmnopqrstuvwxyz" = tx small := by decide +kernel
theorem mem_small {c : Nat} (h : 97 ≤ c ∧ c ≤ 122) : c ∈ small := by
  obtain ⟨h1, h2⟩ := h
  have : c = 97 ∨ c = 98 ∨ c = 99 ∨ c = 100 ∨ c = 101 ∨ c = 102 ∨ c = 103 ∨ c = 104 ∨ c = 105 ∨ c = 106 ∨ c = 107 ∨ c = 108 ∨ c = 109 ∨ c = 110 ∨ c = 111 ∨ c = 112 ∨ c = 113 ∨ c = 114 ∨ c = 115 ∨ c = 116 ∨ c = 117 ∨ c = 118 ∨ c = 119 ∨ c = 120 ∨ c = 121 ∨ c = 122 := by omega
  simp only [small, List.mem_cons]
  omega
/-- a turn of a comprehension without a test -/
theorem turn_yes {σ : L2.St} {H : Hp} {A B : Hp → Prop} (h : A H) : tYes σ H (fun b H3 => if b = true then A H3 else B H3) := by
  show (if true = true then A H else B H)
  rw [if_pos rfl]
  exact h
def spIsInt : Sp := fun vs H Q _ => ∃ n, vs = [.int n] ∧ Q (.bl true) H
def spIsCount : Sp := fun vs H Q _ => ∃ n, vs = [.int n] ∧ 0 ≤ n ∧ Q (.bl true) H
def spIsText : Sp := fun vs H Q _ => ∃ a, vs = [tx a] ∧ Lets a ∧ a.length ≤ 100000 ∧ ∀ H', Ex H H' → Q (.bl true) H'
def spWant : Sp := fun vs H Q _ => ∃ n, vs = [.int n] ∧ 0 ≤ n ∧ Q .non H
def spRoot : Sp := fun vs H Q _ => ∃ l, vs = [tx l] ∧ 0 < l.length ∧ l.length ≤ 100000 ∧ ∀ s, Root l s → Q (tx (l.take s)) H
def spPlain : Sp := fun vs H Q _ => ∃ b l, vs = [tx b, tx l] ∧ 0 < l.length ∧ l.length ≤ 100000 ∧ b.length ≤ 100000 ∧
  ∀ p B L, H p = none → Plain (om b l) B L → B.length ≤ b.length → L.length ≤ l.length → Q (.ref p) (upd H p (.tup [tx B, tx L]))
section
variable {P : Program} {w : World} {K : PySem.W.Frag} {mg : Str → Option Value} {base : Heap}
theorem ok_is_integer {f : Addr} {fd : FuncData} (F : Fun K "is_integer" "is_integer" st_is_integer f fd) (T : Bl mg) : FnOk P w K mg base CX0 1 f fd ["value"] spIsInt := by
  refine F.ok sc_is_integer (fun vs H Q E h => ?_) (fun cdv A outer s H vs Q E hr h => ?_)
  · obtain ⟨n, rfl, _⟩ := h
    rfl
  · obtain ⟨n, rfl, k⟩ := h
    refine ⟨_, (pss_one (ps_ret (pe_and (pe_callB call_isi rfl T.n_isinstance (by decide +kernel) (pa_cons (pv 0) (pa_cons (pe_bltn (v := .ty "int") (u := .type "int") rfl T.n_int (by decide +kernel) rfl) pa_nil))) (pe_one (pe_not (pe_callB call_isi rfl T.n_isinstance (by decide +kernel) (pa_cons (pv 0) (pa_cons (pe_bltn (v := .ty "bool") (u := .type "bool") rfl T.n_bool (by decide +kernel) rfl) pa_nil)))))))), ?_⟩
    refine ⟨_, rfl, _, _, _, _, true, rfl, .ty "int", .base (.int n), kit_ty (by decide +kernel), true, rfl, iteT ?_⟩
    refine ⟨_, rfl, _, _, _, _, false, rfl, .ty "bool", .base (.int n), kit_ty (by decide +kernel), false, rfl, k⟩
theorem ok_is_count {f f1 : Addr} {fd fd1 : FuncData} (F : Fun K "is_count" "is_count" st_is_count f fd) (T : Bl mg) (G_is_integer : FnOk P w K mg base CX0 1 f1 fd1 ["value"] spIsInt) (m_is_integer : mg "is_integer" = some (.ref f1)) (k_is_integer : PySem.W.keepIn K (.ref f1) = true) (b_is_integer : Binds K fd1 ["value"] []) :
    FnOk P w K mg base CX0 2 f fd ["value"] spIsCount := by
  refine F.ok sc_is_count (fun vs H Q E h => ?_) (fun cdv A outer s H vs Q E hr h => ?_)
  · obtain ⟨n, rfl, _⟩ := h
    rfl
  · obtain ⟨n, rfl, hn, k⟩ := h
    have hr_is_integer := hr
    refine ⟨_, (pss_one (ps_ret (pe_and (pe_call G_is_integer hr_is_integer rfl m_is_integer k_is_integer b_is_integer .nil pass0 (pa_cons (pv 0) pa_nil)) (pe_one (pe_cmpR op_ge (pv 0) pe_int (nomark _)))))), ?_⟩
    refine ⟨_, rfl, n, rfl, true, rfl, iteT ⟨_, rfl, _, _, rfl, rfl, ?_⟩⟩
    show Q (.bl (decide (0 ≤ n))) H
    rw [decide_eq_true hn]
    exact k
theorem ok_want {f f1 : Addr} {fd fd1 : FuncData} (F : Fun K "want_number" "want_number" st_want_number f fd) (T : Bl mg) (G_is_count : FnOk P w K mg base CX0 2 f1 fd1 ["value"] spIsCount) (m_is_count : mg "is_count" = some (.ref f1)) (k_is_count : PySem.W.keepIn K (.ref f1) = true) (b_is_count : Binds K fd1 ["value"] []) :
    FnOk P w K mg base CX0 3 f fd ["number"] spWant := by
  refine F.ok sc_want_number (fun vs H Q E h => ?_) (fun cdv A outer s H vs Q E hr h => ?_)
  · obtain ⟨n, rfl, _⟩ := h
    rfl
  · obtain ⟨n, rfl, hn, k⟩ := h
    have hr_is_count := hr
    refine ⟨_, (pss_one (ps_if (pt_not (pt_val (pe_call G_is_count hr_is_count rfl m_is_count k_is_count b_is_count .nil pass0 (pa_cons (pv 0) pa_nil)))) (pss_one ps_never) pss_nil)), ?_⟩
    exact ⟨_, rfl, n, rfl, hn, true, rfl, iteF k⟩
theorem ok_is_text {f : Addr} {fd : FuncData} (F : Fun K "is_text" "is_text" st_is_text f fd) (T : Bl mg) : FnOk P w K mg base CX0 1 f fd ["value"] spIsText := by
  obtain ⟨tk, m_SMALL⟩ := T.small
  refine F.ok sc_is_text (fun vs H Q E h => ?_) (fun cdv A outer s H vs Q E hr h => ?_)
  · obtain ⟨n, rfl, _⟩ := h
    rfl
  · obtain ⟨a, rfl, ha, hl, k⟩ := h
    refine ⟨_, (pss_one (ps_ret (pe_and (pe_callB call_isi rfl T.n_isinstance (by decide +kernel) (pa_cons (pv 0) (pa_cons (pe_bltn (v := .ty "str") (u := .type "str") rfl T.n_str (by decide +kernel) rfl) pa_nil))) (pe_one (pe_callB (cr_all rfl) rfl T.n_all (by decide +kernel) (pa_cons (pe_lc (own := [("sign", 1)]) (g := gName 1) rfl sc_is_text.nd (pi_str (pv 0)) (blkOk_by (own := [("sign", 1)]) (N := ["value", "sign"]) (sc := defScope st_is_text) (by decide +kernel)) (fun _ _ _ _ _ => (pg_name (i := 1) sc_is_text.nd rfl (Or.inl rfl))) (fun _ _ _ _ _ => pts_nil) (fun _ _ _ _ _ => (pe_cmpR op_inT (pv 1) (pe_glob (v := tx small) rfl m_SMALL ⟨_, rfl⟩) rfl))) pa_nil)))))), ?_⟩
    refine ⟨_, rfl, _, _, _, _, true, rfl, .ty "str", .base (.str _), kit_ty (by decide +kernel), true, rfl, iteT ?_⟩
    refine ⟨_, rfl, _, rfl, fun D hD => lc_it walk_str (fun i H1 => i ≤ a.length ∧ H1 = upd H D (.lst (List.replicate i (.bl true)))) ⟨Nat.zero_le _, rfl⟩ (fun _ _ _ _ => trivial) ?_ ?_⟩
    · rintro i x H1 H2 hi ⟨h1, rfl⟩ ⟨rfl, c, hc, rfl⟩
      have hc' : a[i]? = some c := by simpa [stx] using hc
      have hm : c ∈ small := mem_small (ha c (List.mem_of_getElem? hc'))
      have hi' : i < a.length := (List.getElem?_eq_some_iff.mp hc').1
      refine ⟨rfl, turn_yes ?_⟩
      refine ⟨_, rfl, c, small, rfl, rfl, ?_⟩
      rw [decide_eq_true hm]
      refine ⟨_, upd_same, by rw [List.length_replicate]; exact Nat.lt_of_lt_of_le hi' (sz_of hl), by omega, ?_⟩
      rw [upd_upd, List.replicate_succ']
    · rintro H1 ⟨_, rfl⟩
      refine ⟨D, List.replicate _ true, rfl, by rw [List.map_replicate]; exact SqL.of upd_same, ?_⟩
      have e : (List.replicate (stx a).cps.size true).all id = true := by simp
      rw [e]
      exact k _ (Ex.new hD)
end
end LW
end
section
set_option maxRecDepth 100000
set_option maxHeartbeats 4000000
namespace LW
open PySem L2 RX WM Evl
theorem root_take {l : Tx} (hl : 0 < l.length) {s : Nat} (h1 : s ≤ l.length) (hC : IsRoot l s) (hb : ∀ d, 0 < d → d < s → ¬ IsRoot l d) : Root l s :=
  ⟨hC, fun d hd => Classical.byContradiction fun z => hb d hd.1 (by omega) hd⟩
theorem repT_iff {l : Tx} {s : Nat} (h0 : 0 < s) (hs : s ≤ l.length) (hd : l.length % s = 0) : repT (l.take s) (l.length / s) = l ↔ IsRoot l s := isRoot_iff h0 hs (Nat.dvd_of_mod_eq_zero hd)
theorem bl_t {p : Prop} [Decidable p] (h : p) : V.bl (decide p) = V.bl true := by rw [decide_eq_true h]
theorem bl_f {p : Prop} [Decidable p] (h : ¬ p) : V.bl (decide p) = V.bl false := by rw [decide_eq_false h]
theorem bl_nt {p : Prop} [Decidable p] (h : ¬ p) : V.bl (!decide p) = V.bl true := by rw [decide_eq_false h]; rfl
theorem bl_nf {p : Prop} [Decidable p] (h : p) : V.bl (!decide p) = V.bl false := by rw [decide_eq_true h]; rfl
section
variable {P : Program} {w : World} {K : PySem.W.Frag} {mg : Str → Option Value} {base : Heap}
theorem ok_root_of {f : Addr} {fd : FuncData} (F : Fun K "root_of" "root_of" st_root_of f fd) (T : Bl mg) : FnOk P w K mg base CX0 1 f fd ["lap"] spRoot := by
  refine F.ok sc_root_of (fun vs H Q E h => ?_) (fun cdv A outer s H vs Q E hr h => ?_)
  · obtain ⟨n, rfl, _⟩ := h
    rfl
  · obtain ⟨l, rfl, h0, hl, k⟩ := h
    have hz : l.length ≤ sizeLine := sz_of hl
    refine ⟨_, (pss_cons (ps_for PassesOwn.never rfl (pi_range2 rfl T.n_range (pa_cons pe_int (pa_cons (pe_callB call_lenT rfl T.n_len PySem.boot_len (pa_cons (pv 0) pa_nil)) pa_nil))) (pg_name (i := 1) sc_root_of.nd rfl (Or.inl rfl)) (pss_one (ps_if (PW.pt (pw_and (pt_cmpR op_eq (pe_op op_mod (pe_callB call_lenT rfl T.n_len PySem.boot_len (pa_cons (pv 0) pa_nil)) (pv 1)) pe_int (nomark _)) (pw_and1 (pt_cmpR op_eqT (pe_op op_mulT (pe_slice sl_T (pv 0) po_none (po_some (pv 1))) (pe_op op_fdiv (pe_callB call_lenT rfl T.n_len PySem.boot_len (pa_cons (pv 0) pa_nil)) (pv 1))) (pv 0) (nomark _))))) (pss_one (ps_ret (pe_slice sl_T (pv 0) po_none (po_some (pv 1))))) pss_nil)))
      (pss_one (ps_ret (pv 0)))), ?_⟩
    refine ⟨_, rfl, l, rfl, hz, 1, (l.length : Int), rfl, ⟨by decide, by decide, by omega, by omega⟩, for_range (lo := 1) (n := ((l.length : Int) - 1).toNat) (fun i σ H1 => H1 = H ∧ (∃ v, σ = [some (tx l), v]) ∧ ∀ d, 0 < d → d < i + 1 → ¬ IsRoot l d)
      ⟨rfl, ⟨none, rfl⟩, fun d h1 h2 => absurd h1 (by omega)⟩ ?_ ?_⟩
    · rintro i σ H1 hi ⟨rfl, ⟨v, rfl⟩, hb⟩
      have hi' : i + 1 < l.length := by omega
      rw [show (1 + (i : Int)) = ((i + 1 : Nat) : Int) by omega]
      have em : (l.length : Int) % ((i + 1 : Nat) : Int) = ((l.length % (i + 1) : Nat) : Int) := by omega
      have next : ¬ IsRoot l (i + 1) → ∀ d, 0 < d → d < i + 1 + 1 → ¬ IsRoot l d := fun hn d h1 h2 => by
        by_cases e : d = i + 1
        · rw [e]; exact hn
        · exact hb d h1 (by omega)
      by_cases hd : l.length % (i + 1) = 0
      · refine ⟨_, rfl, l, rfl, hz, _, rfl, _, _, rfl, rfl, (by omega), rfl, true, bl_t (by show V.int _ = V.int 0; rw [em, hd]; rfl), iteT ?_⟩
        have el : (l.take (i + 1)).length = i + 1 := by rw [List.length_take]; omega
        have ed : (l.length : Int) / ((i + 1 : Nat) : Int) = ((l.length / (i + 1) : Nat) : Int) := by rw [Int.natCast_ediv]
        have hq : l.length / (i + 1) ≤ l.length := Nat.div_le_self _ _
        have hm : (i + 1) * (l.length / (i + 1)) ≤ l.length := Nat.mul_div_le _ _
        by_cases hr' : repT (l.take (i + 1)) (l.length / (i + 1)) = l
        · refine ⟨_, rfl, _, rfl, _, rfl, l, rfl, hz, _, rfl, l, rfl, hz, _, rfl, _, _, rfl, rfl, ⟨by omega, by omega⟩, l.take (i + 1), l.length / (i + 1), by rw [cutT_to], by show V.int _ = V.int _; rw [ed], by omega, by rw [el]; omega, _, rfl, _, l, rfl, rfl, true, bl_t hr', iteT ⟨_, rfl, _, rfl, _, rfl, l, rfl, hz, ?_⟩⟩
          rw [cutT_to]
          exact k (i + 1) (root_take h0 (by omega) ((repT_iff (by omega) (by omega) hd).mp hr') hb)
        · exact ⟨_, rfl, _, rfl, _, rfl, l, rfl, hz, _, rfl, l, rfl, hz, _, rfl, _, _, rfl, rfl, ⟨by omega, by omega⟩, l.take (i + 1), l.length / (i + 1), by rw [cutT_to], by show V.int _ = V.int _; rw [ed], by omega, by rw [el]; omega, _, rfl, _, l, rfl, rfl, false, bl_f hr',
            iteF ⟨rfl, ⟨_, rfl⟩, next fun z => hr' ((repT_iff (by omega) (by omega) hd).mpr z)⟩⟩
      · exact ⟨_, rfl, l, rfl, hz, _, rfl, _, _, rfl, rfl, (by omega), rfl, false, bl_f (by show ¬ V.int _ = V.int 0; rw [em]; intro e; injection e with e; omega), iteF (iteF ⟨rfl, ⟨_, rfl⟩, next fun z => hd (Nat.mod_eq_zero_of_dvd z.2.1)⟩)⟩
    · rintro σ H1 ⟨rfl, ⟨v, rfl⟩, hb⟩
      refine ⟨_, rfl, ?_⟩
      have := k l.length (root_take h0 (Nat.le_refl _) (isRoot_self h0) fun d h1 h2 => hb d h1 (by omega))
      rw [List.take_length] at this
      exact this
end
end LW
end
section
set_option maxRecDepth 100000
set_option maxHeartbeats 4000000
namespace LW
open PySem L2 RX WM Evl
theorem mod_ix {s : Nat} (hs : 0 < s) (z : Int) : ∃ i : Nat, z % (s : Int) = (i : Int) ∧ i < s ∧ ∀ c : Int, 0 ≤ c → z = (s : Int) - 1 - c → (i + c.toNat + 1) % s = 0 := by
  have h1 := Int.emod_nonneg z (show (s : Int) ≠ 0 by omega)
  have h2 := Int.emod_lt_of_pos z (show (0 : Int) < s by omega)
  refine ⟨(z % s).toNat, by omega, by omega, fun c hc e => ?_⟩
  have h3 : ((z % s) + c + 1) % s = 0 := by
    rw [Int.add_assoc, Int.emod_add_emod, e]
    rw [show (s : Int) - 1 - c + (c + 1) = s by omega, Int.emod_self]
  have h4 : (((z % s).toNat + c.toNat + 1 : Nat) : Int) = (z % s) + c + 1 := by omega
  have h5 : ((((z % s).toNat + c.toNat + 1) % s : Nat) : Int) = 0 := by rw [Int.natCast_emod, h4, h3]
  omega
theorem mod_uniq {s i j c : Nat} (hi : i < s) (hj : j < s) (h1 : (i + c + 1) % s = 0) (h2 : (j + c + 1) % s = 0) : i = j := by
  obtain ⟨a, ha⟩ := Nat.dvd_of_mod_eq_zero h1
  obtain ⟨b, hb⟩ := Nat.dvd_of_mod_eq_zero h2
  have key : ∀ {x y : Nat}, x < y → s * x + s ≤ s * y := fun {x y} h => by
    have := Nat.mul_le_mul_left s (show x + 1 ≤ y from h)
    rw [Nat.mul_add, Nat.mul_one] at this
    exact this
  rcases Nat.lt_trichotomy a b with h | h | h
  · have := key h; omega
  · subst h; omega
  · have := key h; omega
theorem cutT_len (a : Tx) (lo hi : Option Int) : (cutT a lo hi).length ≤ a.length := by
  unfold cutT
  rw [List.length_take, List.length_drop]
  omega
theorem cut_sum (a : Tx) (x y : Option Int) (h : a.length ≤ 100000) : (cutT a x none).length + (cutT a none y).length ≤ sizeLine := by
  have h1 := cutT_len a x none
  have h2 := cutT_len a none y
  exact Nat.le_trans (show _ ≤ 200000 by omega) (by decide)
theorem get_of {l : Tx} {i : Nat} (h : i < l.length) : l[i]? = some (l.getD i 0) := by
  rw [List.getD_eq_getElem?_getD, List.getElem?_eq_getElem h]
  rfl
section
variable {P : Program} {w : World} {K : PySem.W.Frag} {mg : Str → Option Value} {base : Heap}
theorem ok_plain_of {f f1 : Addr} {fd fd1 : FuncData} (F : Fun K "plain_of" "plain_of" st_plain_of f fd) (T : Bl mg) (G_root_of : FnOk P w K mg base CX0 1 f1 fd1 ["lap"] spRoot) (m_root_of : mg "root_of" = some (.ref f1)) (k_root_of : PySem.W.keepIn K (.ref f1) = true) (b_root_of : Binds K fd1 ["lap"] []) :
    FnOk P w K mg base CX0 2 f fd ["begin", "lap"] spPlain := by
  refine F.ok sc_plain_of (fun vs H Q E h => ?_) (fun cdv A outer s H vs Q E hr h => ?_)
  · obtain ⟨b, l, rfl, _⟩ := h
    rfl
  · obtain ⟨b, l, rfl, h0, hl, hb, k⟩ := h
    have hr_root_of := hr
    have hzl : l.length ≤ sizeLine := sz_of hl
    have hzb : b.length ≤ sizeLine := sz_of hb
    refine ⟨_, (pss_cons (ps_set (i := 2) sc_plain_of.nd rfl (Or.inl rfl) (pe_call G_root_of hr_root_of rfl m_root_of k_root_of b_root_of .nil pass0 (pa_cons (pv 1) pa_nil)))
      (pss_cons (ps_set (i := 3) sc_plain_of.nd rfl (Or.inl rfl) pe_int)
      (pss_cons (ps_while PassesOwn.never (PW.pt (pw_and (pt_cmpR op_lt (pv 3) (pe_callB call_lenT rfl T.n_len PySem.boot_len (pa_cons (pv 0) pa_nil)) (nomark _)) (pw_and1 (pt_cmpR op_eqT (pe_ix ix_T (pv 0) (pe_op op_sub (pe_op op_sub (pe_callB call_lenT rfl T.n_len PySem.boot_len (pa_cons (pv 0) pa_nil)) pe_int) (pv 3)) (fun _ _ => rfl)) (pe_ix ix_T (pv 2) (pe_op op_mod (pe_callTy call_int1 rfl T.n_int (by decide +kernel) (pa_cons (pe_op op_sub (pe_op op_sub (pe_callB call_lenT rfl T.n_len PySem.boot_len (pa_cons (pv 2) pa_nil)) pe_int) (pv 3)) pa_nil)) (pe_callB call_lenT rfl T.n_len PySem.boot_len (pa_cons (pv 2) pa_nil))) (fun _ _ => rfl)) (nomark _))))) (pss_one (ps_set (i := 3) sc_plain_of.nd rfl (Or.inl rfl) (pe_op op_add (pv 3) pe_int))))
      (pss_cons (ps_set (i := 4) sc_plain_of.nd rfl (Or.inl rfl) (pe_op op_mod (pe_callTy call_int1 rfl T.n_int (by decide +kernel) (pa_cons (pe_op op_sub (pe_callB call_lenT rfl T.n_len PySem.boot_len (pa_cons (pv 2) pa_nil)) (pv 3)) pa_nil)) (pe_callB call_lenT rfl T.n_len PySem.boot_len (pa_cons (pv 2) pa_nil))))
      (pss_one (ps_ret (pe_tup (pa_cons (pe_slice sl_T (pv 0) po_none (po_some (pe_op op_sub (pe_callB call_lenT rfl T.n_len PySem.boot_len (pa_cons (pv 0) pa_nil)) (pv 3)))) (pa_cons (pe_op op_addT (pe_slice sl_T (pv 2) (po_some (pv 4)) po_none) (pe_slice sl_T (pv 2) po_none (po_some (pv 4)))) pa_nil))))))))), ?_⟩
    refine ⟨_, rfl, l, rfl, h0, hl, fun s R => ?_⟩
    have hs := R.is.le h0
    have s0 := R.is.1
    have el : (l.take s).length = s := by rw [List.length_take]; omega
    have hzr : (l.take s).length ≤ sizeLine := by omega
    refine ⟨fun m σ H1 => H1 = H ∧ ∃ c : Nat, m = b.length - c ∧ c ≤ b.length ∧ σ = [some (tx b), some (tx l), some (tx (l.take s)), some (.int c), none] ∧ ∀ j i, j < c → i < s → (i + j + 1) % s = 0 → b.getD (b.length - 1 - j) 0 = l.getD i 0,
      ⟨_, rfl, 0, rfl, Nat.zero_le _, rfl, fun j i hj => absurd hj (by omega)⟩, ?_⟩
    rintro m σ H1 ⟨rfl, c, rfl, hc, rfl, same⟩
    obtain ⟨i, ei, hi, hmod⟩ := mod_ix s0 (((l.take s).length : Int) - 1 - (c : Int))
    have hmod := hmod c (by omega) (by rw [el])
    rw [Int.toNat_natCast] at hmod
    have gr : (l.take s)[i]? = some (l.getD i 0) := by rw [get_of (by omega), take_getD hi]
    by_cases hgo : c < b.length ∧ b.getD (b.length - 1 - c) 0 = l.getD i 0
    · obtain ⟨hlt, heq⟩ := hgo
      have gb : b[b.length - 1 - c]? = some (b.getD (b.length - 1 - c) 0) := get_of (by omega)
      refine ⟨_, rfl, _, rfl, b, rfl, hzb, _, _, rfl, rfl, true, bl_t (by show (c : Int) < b.length; omega), iteT ⟨_, rfl, _, rfl, b, rfl, hzb, _, _, rfl, rfl, _, rfl, _, _, rfl, rfl, b, b.length - 1 - c, _, rfl, by show V.int _ = V.int _; congr 1; omega, hzb, gb, ?_⟩⟩
      refine ⟨_, rfl, _, rfl, l.take s, rfl, hzr, _, _, rfl, rfl, _, rfl, _, _, rfl, rfl, .inl ⟨_, rfl, ?_⟩⟩
      refine ⟨_, rfl, l.take s, rfl, hzr, _, _, rfl, rfl, by omega, l.take s, i, _, rfl, by show V.int _ = V.int _; congr 1; rw [← ei, el], hzr, gr, _, _, rfl, rfl, true, bl_t (by rw [heq]), iteT ?_⟩
      refine ⟨_, fun _ _ z => z, _, rfl, _, _, rfl, rfl, b.length - (c + 1), by omega, rfl, c + 1, rfl, hlt, rfl, ?_⟩
      intro j i' hj hi' hm
      by_cases e : j = c
      · subst e
        rw [mod_uniq hi' hi hm hmod]
        exact heq
      · exact same j i' (by omega) hi' hm
    · have stop : c < b.length → ∀ i, i < s → (i + c + 1) % s = 0 → b.getD (b.length - 1 - c) 0 ≠ l.getD i 0 := fun hlt i' hi' hm z => hgo ⟨hlt, by rw [← mod_uniq hi' hi hm hmod]; exact z⟩
      obtain ⟨cut, ec, hcut, -⟩ := mod_ix s0 (((l.take s).length : Int) - (c : Int))
      have hz : (c + cut) % s = 0 := by
        have e1 : ((c : Int) + (((l.take s).length : Int) - (c : Int)) % (s : Int)) % (s : Int) = 0 := by
          rw [Int.add_emod_emod, show (c : Int) + (((l.take s).length : Int) - (c : Int)) = s by rw [el]; omega, Int.emod_self]
        rw [ec] at e1
        have e2 : (((c + cut) % s : Nat) : Int) = 0 := by rw [Int.natCast_emod, Int.natCast_add]; exact e1
        omega
      have fin := plain_found h0 R hc hcut hz same stop
      have main : ∀ p, H1 p = none → Q (.ref p) (upd H1 p (.tup [tx (cutT b none (some ((b.length : Int) - (c : Int)))), tx (cutT (l.take s) (some ((((l.take s).length : Int) - (c : Int)) % ((l.take s).length : Int))) none ++ cutT (l.take s) none (some ((((l.take s).length : Int) - (c : Int)) % ((l.take s).length : Int))))])) := by
        intro p hp
        have ec' : ((((l.take s).length : Int) - (c : Int)) % ((l.take s).length : Int)) = (cut : Int) := by rw [← ec, el]
        rw [ec', show ((b.length : Int) - (c : Int)) = ((b.length - c : Nat) : Int) by omega, cutT_to, cutT_to, cutT_from]
        exact k p _ _ hp fin (by rw [List.length_take]; omega) (by rw [rot_len (by omega)]; omega)
      by_cases hlt : c < b.length
      · have gb : b[b.length - 1 - c]? = some (b.getD (b.length - 1 - c) 0) := get_of (by omega)
        refine ⟨_, rfl, _, rfl, b, rfl, hzb, _, _, rfl, rfl, true, bl_t (by show (c : Int) < b.length; omega), iteT ⟨_, rfl, _, rfl, b, rfl, hzb, _, _, rfl, rfl, _, rfl, _, _, rfl, rfl, b, b.length - 1 - c, _, rfl, by show V.int _ = V.int _; congr 1; omega, hzb, gb, ?_⟩⟩
        refine ⟨_, rfl, _, rfl, l.take s, rfl, hzr, _, _, rfl, rfl, _, rfl, _, _, rfl, rfl, .inl ⟨_, rfl, ?_⟩⟩
        refine ⟨_, rfl, l.take s, rfl, hzr, _, _, rfl, rfl, by omega, l.take s, i, _, rfl, by show V.int _ = V.int _; congr 1; rw [← ei, el], hzr, gr, _, _, rfl, rfl, false, bl_f (by intro z; injection z with z; exact hgo ⟨hlt, z⟩), iteF ?_⟩
        refine ⟨_, rfl, l.take s, rfl, hzr, _, rfl, _, _, rfl, rfl, .inl ⟨_, rfl, _, rfl, l.take s, rfl, hzr, _, _, rfl, rfl, by omega, ?_⟩⟩
        exact ⟨_, rfl, _, rfl, b, rfl, hzb, _, rfl, _, _, rfl, rfl, _, rfl, b, rfl, hzb, _, rfl, _, rfl, _, rfl, l.take s, rfl, hzr, _, rfl, _, rfl, _, rfl, l.take s, rfl, hzr, _, _, rfl, rfl, cut_sum _ _ _ (by omega), by show 2 ≤ sizeLine; decide, main⟩
      · refine ⟨_, rfl, _, rfl, b, rfl, hzb, _, _, rfl, rfl, false, bl_f (by show ¬ (c : Int) < b.length; omega), iteF (iteF ?_)⟩
        refine ⟨_, rfl, l.take s, rfl, hzr, _, rfl, _, _, rfl, rfl, .inl ⟨_, rfl, _, rfl, l.take s, rfl, hzr, _, _, rfl, rfl, by omega, ?_⟩⟩
        exact ⟨_, rfl, _, rfl, b, rfl, hzb, _, rfl, _, _, rfl, rfl, _, rfl, b, rfl, hzb, _, rfl, _, rfl, _, rfl, l.take s, rfl, hzr, _, rfl, _, rfl, _, rfl, l.take s, rfl, hzr, _, _, rfl, rfl, cut_sum _ _ _ (by omega), by show 2 ≤ sizeLine; decide, main⟩
end
end LW
end
section
set_option maxRecDepth 100000
set_option maxHeartbeats 4000000
namespace LW
open PySem L2 RX WM Evl
abbrev st_Word___init__ : Stmt := inClass (top 17) 1
theorem sc_Word___init__ : FnScope ["self", "begin", "lap", "plain"] ["self", "begin", "lap"] (defScope st_Word___init__) := ⟨rfl, rfl, rfl, by decide +kernel, rfl, by decide +kernel, by decide +kernel⟩
abbrev st_Word_letter_at : Stmt := inClass (top 17) 5
theorem sc_Word_letter_at : FnScope ["self", "number"] ["self", "number"] (defScope st_Word_letter_at) := ⟨rfl, rfl, rfl, by decide +kernel, rfl, by decide +kernel, by decide +kernel⟩
abbrev st_Word___getitem__ : Stmt := inClass (top 17) 6
theorem sc_Word___getitem__ : FnScope ["self", "number"] ["self", "number"] (defScope st_Word___getitem__) := ⟨rfl, rfl, rfl, by decide +kernel, rfl, by decide +kernel, by decide +kernel⟩
abbrev st_Word___radd__ : Stmt := inClass (top 17) 9
theorem sc_Word___radd__ : FnScope ["self", "text"] ["self", "text"] (defScope st_Word___radd__) := ⟨rfl, rfl, rfl, by decide +kernel, rfl, by decide +kernel, by decide +kernel⟩
abbrev st_Word___eq__ : Stmt := inClass (top 17) 10
theorem sc_Word___eq__ : FnScope ["self", "other"] ["self", "other"] (defScope st_Word___eq__) := ⟨rfl, rfl, rfl, by decide +kernel, rfl, by decide +kernel, by decide +kernel⟩
abbrev st_Word___repr__ : Stmt := inClass (top 17) 11
theorem sc_Word___repr__ : FnScope ["self"] ["self"] (defScope st_Word___repr__) := ⟨rfl, rfl, rfl, by decide +kernel, rfl, by decide +kernel, by decide +kernel⟩
abbrev st_Word_first : Stmt := inClass (top 17) 12
theorem sc_Word_first : FnScope ["self", "number", "place"] ["self", "number"] (defScope st_Word_first) := ⟨rfl, rfl, rfl, by decide +kernel, rfl, by decide +kernel, by decide +kernel⟩
abbrev st_Word_behind : Stmt := inClass (top 17) 13
theorem sc_Word_behind : FnScope ["self", "number", "cut"] ["self", "number"] (defScope st_Word_behind) := ⟨rfl, rfl, rfl, by decide +kernel, rfl, by decide +kernel, by decide +kernel⟩
abbrev st_Word_common : Stmt := inClass (top 17) 16
theorem sc_Word_common : FnScope ["self", "other"] ["self", "other"] (defScope st_Word_common) := ⟨rfl, rfl, rfl, by decide +kernel, rfl, by decide +kernel, by decide +kernel⟩
theorem str_nil : V.str "" = tx [] := by decide +kernel
/-! ### mathematics of letters -/
theorem om_drop {B L : Tx} {n : Nat} (h : n ≤ B.length) (k : Nat) : om (B.drop n) L k = om B L (k + n) := by
  by_cases hk : k < B.length - n
  · rw [om_lt (by rw [List.length_drop]; exact hk), om_lt (by omega)]
    simp [List.getD_eq_getElem?_getD, Nat.add_comm]
  · rw [om_ge (by rw [List.length_drop]; omega), om_ge (by omega), List.length_drop]
    congr 1
    omega
theorem om_rot {B L : Tx} {n : Nat} (h0 : 0 < L.length) (h : B.length ≤ n) (k : Nat) : om [] (L.drop ((n - B.length) % L.length) ++ L.take ((n - B.length) % L.length)) k = om B L (k + n) := by
  rw [om_ge (Nat.zero_le _), om_ge (by omega), rot_lp (Nat.mod_lt _ h0)]
  unfold lp
  rw [List.length_nil, Nat.sub_zero, Nat.add_mod_mod]
  congr 2
  omega
theorem om_app {t B L : Tx} (n : Nat) : om (t ++ B) L n = if n < t.length then t.getD n 0 else om B L (n - t.length) := by
  by_cases h : n < t.length
  · rw [if_pos h, om_lt (by rw [List.length_append]; omega)]
    simp [List.getD_eq_getElem?_getD, List.getElem?_append_left h]
  · rw [if_neg h]
    by_cases h2 : n < t.length + B.length
    · rw [om_lt (by rw [List.length_append]; exact h2), om_lt (by omega)]
      simp [List.getD_eq_getElem?_getD, List.getElem?_append_right (Nat.not_lt.mp h)]
    · rw [om_ge (by rw [List.length_append]; omega), om_ge (by omega), List.length_append]
      congr 1
      omega
/-- a word of small letters -/
def LetW (w : Nat → Nat) : Prop := ∀ n, 97 ≤ w n ∧ w n ≤ 122
theorem getD_mem {l : Tx} {i : Nat} (h : i < l.length) : l.getD i 0 ∈ l := List.mem_of_getElem? (get_of h)
theorem letW_om {b l : Tx} (h0 : 0 < l.length) (hb : Lets b) (hl : Lets l) : LetW (om b l) := fun n => by
  by_cases h : n < b.length
  · rw [om_lt h]
    exact hb _ (getD_mem h)
  · rw [om_ge (Nat.not_lt.mp h)]
    exact hl _ (getD_mem (Nat.mod_lt _ h0))
theorem plain_lets {w : Nat → Nat} {B L : Tx} (h : Plain w B L) (hw : LetW w) : Lets B ∧ Lets L := by
  constructor
  · intro c hc
    obtain ⟨i, hi, e⟩ := List.getElem_of_mem hc
    have := h.rep i
    rw [om_lt hi, List.getD_eq_getElem?_getD, List.getElem?_eq_getElem hi] at this
    have e2 : B[i] = w i := this
    rw [← e, e2]
    exact hw i
  · intro c hc
    obtain ⟨i, hi, e⟩ := List.getElem_of_mem hc
    have := h.rep (B.length + i)
    rw [om_ge (by omega), show B.length + i - B.length = i by omega] at this
    unfold lp at this
    rw [Nat.mod_eq_of_lt hi, List.getD_eq_getElem?_getD, List.getElem?_eq_getElem hi] at this
    have e2 : L[i] = w (B.length + i) := this
    rw [← e, e2]
    exact hw _
/-! ### the class as the top has made it -/
structure Txt (K : PySem.W.Frag) (mg : Str → Option Value) (C : Addr) : Prop extends Bl mg where
  cl : Cls K C
  nB : NoAttr K C "own_begin"
  nL : NoAttr K C "own_lap"
  m_Word : mg "Word" = some (.ref C)
  most : ∃ mc u, ClX.CRead K C mc ∧ ClX.CVal K C mc "MOST_LETTERS" (.int 8000) u
  ha : PySem.W.findIn K (.ref C) "__class__" = some (some (.builtin "object.__class__"))
  hn : PySem.W.specialIn K (.builtin "object.__class__") "__get__" = some (some (.builtin "getset_descriptor.__get__"))
  htk : PySem.W.takesIn K (.builtin "object.__class__") = some true
  hm : PySem.W.mroIn K C (.type "object") = some true
  kit : PySem.W.kitOne K (.ref C) (.ref C) = some true
/-- a def of the module, with its promise -/
def Df (P : Program) (w : World) (K : PySem.W.Frag) (mg : Str → Option Value) (base : Heap) (k : Nat) (x : Str) (ps : List Str) (sp : Sp) : Prop :=
  ∃ f fd, FnOk P w K mg base CX0 k f fd ps sp ∧ mg x = some (.ref f) ∧ PySem.W.keepIn K (.ref f) = true ∧ Binds K fd ps []
/-- a method of the class at C, with its promise -/
def Dm (P : Program) (w : World) (K : PySem.W.Frag) (mg : Str → Option Value) (base : Heap) (C : Addr) (k : Nat) (x : Str) (ps : List Str) (sp : Sp) : Prop :=
  ∃ f fd, FnOk P w K mg base CX0 k f fd ps sp ∧ Meth K C x f ∧ Binds K fd ps []
/-- a word's attributes -/
def wf (B L : Tx) : List (Str × V) := [("own_begin", tx B), ("own_lap", tx L)]
theorem bl_ne : ¬ (("own_begin" : Str) = "own_lap") := by decide +kernel
theorem wf_begin (B L : Tx) : (wf B L).lookup ("own_begin" : Str) = some (tx B) := by
  unfold wf
  rw [List.lookup_cons]
  simp
theorem wf_lap (B L : Tx) : (wf B L).lookup ("own_lap" : Str) = some (tx L) := by
  unfold wf
  rw [List.lookup_cons, List.lookup_cons]
  have : (("own_lap" : Str) == "own_begin") = false := by decide +kernel
  rw [this]
  simp
theorem wf_no {B L : Tx} {m : Str} (h1 : (m == ("own_begin" : Str)) = false) (h2 : (m == ("own_lap" : Str)) = false) : (wf B L).lookup m = none := by
  unfold wf
  rw [List.lookup_cons, List.lookup_cons, h1, h2]
  rfl
theorem wf_put (B L : Tx) : putF "own_lap" (tx L) (putF "own_begin" (tx B) []) = wf B L := by
  show (if ("own_begin" : Str) = "own_lap" then [(("own_begin" : Str), tx L)] else (("own_begin" : Str), tx B) :: putF "own_lap" (tx L) []) = _
  rw [if_neg bl_ne]
  rfl
/-- the word (B, L) stands at a -/
def WAt (C : Addr) (H : Hp) (a : Addr) (B L : Tx) : Prop := ∃ dx, H a = some (.ins C dx (wf B L))
theorem WAt.ex {C : Addr} {H H' : Hp} {a : Addr} {B L : Tx} (h : WAt C H a B L) (e : Ex H H') : WAt C H' a B L := let ⟨dx, h⟩ := h; ⟨dx, e _ _ h⟩
/-- it is a word that may stand -/
structure WOk (B L : Tx) : Prop where
  pos : 0 < L.length
  bB : B.length ≤ 8000
  bL : L.length ≤ 8000
  lB : Lets B
  lL : Lets L
theorem WOk.letW {B L : Tx} (h : WOk B L) : LetW (om B L) := letW_om h.pos h.lB h.lL
/-! ### promises -/
def spInit (C : Addr) : Sp := fun vs H Q _ => ∃ p dx b l, vs = [.ref p, tx b, tx l] ∧ H p = some (.ins C dx []) ∧ WOk b l ∧
  ∀ H' B L, WAt C H' p B L → Plain (om b l) B L → B.length ≤ b.length → L.length ≤ l.length → WOk B L → (∀ c o, H c = some o → c ≠ p → H' c = some o) → Q .non H'
def spLetter (C : Addr) : Sp := fun vs H Q _ => ∃ p B L n, vs = [.ref p, .int n] ∧ 0 ≤ n ∧ WAt C H p B L ∧ WOk B L ∧ Q (tx [om B L n.toNat]) H
def spEq (C : Addr) : Sp := fun vs H Q _ => ∃ p q B L B' L', vs = [.ref p, .ref q] ∧ WAt C H p B L ∧ WAt C H q B' L' ∧ Q (.bl (decide (B = B') && decide (L = L'))) H
/-- how a word is told -/
def told (B L : Tx) : Str := ((((Str.empty ++ Str.ofString "Word(") ++ reprText (stx B)) ++ Str.ofString ", ") ++ reprText (stx L)) ++ Str.ofString ")"
def spRepr (C : Addr) : Sp := fun vs H Q _ => ∃ p B L, vs = [.ref p] ∧ WAt C H p B L ∧ WOk B L ∧ Q (.str (told B L)) H
def spFirst (C : Addr) : Sp := fun vs H Q _ => ∃ p B L n, vs = [.ref p, .int n] ∧ 0 ≤ n ∧ n ≤ 8000 ∧ WAt C H p B L ∧ WOk B L ∧ ∀ H', Ex H H' → Q (tx ((List.range n.toNat).map (om B L))) H'
/-- a new word of w, its begin of at most m letters, its lap of at most k -/
def NewW (C : Addr) (w : Nat → Nat) (m k : Nat) (H : Hp) (Q : VK) : Prop := ∀ q H' B L, H q = none → Ex H H' → WAt C H' q B L → WOk B L → Plain w B L → B.length ≤ m → L.length ≤ k → Q (.ref q) H'
def spBehind (C : Addr) : Sp := fun vs H Q _ => ∃ p B L n, vs = [.ref p, .int n] ∧ 0 ≤ n ∧ WAt C H p B L ∧ WOk B L ∧ NewW C (fun k => om B L (k + n.toNat)) (B.length - n.toNat) L.length H Q
def spRadd (C : Addr) : Sp := fun vs H Q _ => ∃ p B L t, vs = [.ref p, tx t] ∧ Lets t ∧ t.length + B.length ≤ 8000 ∧ WAt C H p B L ∧ WOk B L ∧ NewW C (om (t ++ B) L) (t.length + B.length) L.length H Q
def spCommon (C : Addr) : Sp := fun vs H Q _ => ∃ p q B L B' L', vs = [.ref p, .ref q] ∧ WAt C H p B L ∧ WAt C H q B' L' ∧ WOk B L ∧ WOk B' L' ∧ Plain (om B L) B L ∧ Plain (om B' L') B' L' ∧
  ((∀ n, om B L n = om B' L' n) → Q .non H) ∧ ∀ d : Nat, (∀ n, n < d → om B L n = om B' L' n) → om B L d ≠ om B' L' d → Q (.int d) H
section
variable {P : Program} {w : World} {K : PySem.W.Frag} {mg : Str → Option Value} {base : Heap} {C_Word : Addr}
theorem ok_init {f : Addr} {fd : FuncData} (F : Fun K "__init__" "Word.__init__" st_Word___init__ f fd) (T : Txt K mg C_Word) (D1 : Df P w K mg base 1 "is_text" ["value"] spIsText) (D2 : Df P w K mg base 2 "plain_of" ["begin", "lap"] spPlain) :
    FnOk P w K mg base CX0 3 f fd ["self", "begin", "lap"] (spInit C_Word) := by
  obtain ⟨f1, fd1, G_is_text, m_is_text, k_is_text, b_is_text⟩ := D1
  obtain ⟨f2, fd2, G_plain_of, m_plain_of, k_plain_of, b_plain_of⟩ := D2
  have m_Word := T.m_Word
  refine F.ok sc_Word___init__ (fun vs H Q E h => ?_) (fun cdv A outer s H vs Q E hr h => ?_)
  · obtain ⟨p, dx, b, l, rfl, _⟩ := h
    rfl
  · obtain ⟨p, dx, b, l, rfl, hp, ok, k⟩ := h
    have hr_plain_of := hr
    have hr_is_text := hr.mono (show 1 ≤ 2 by decide)
    obtain ⟨h0, hb, hl, lb, ll⟩ := id ok
    have zb : b.length ≤ sizeLine := sz_of (by omega)
    have zl : l.length ≤ sizeLine := sz_of (by omega)
    obtain ⟨mc, u, hrd, hcv⟩ := T.most
    refine ⟨_, (pss_cons (ps_if (pt_not (pt_val (pe_call G_is_text hr_is_text rfl m_is_text k_is_text b_is_text .nil pass0 (pa_cons (pv 1) pa_nil)))) (pss_one ps_never) pss_nil)
      (pss_cons (ps_if (PW.pt (pw_or (pt_not (pt_val (pe_call G_is_text hr_is_text rfl m_is_text k_is_text b_is_text .nil pass0 (pa_cons (pv 2) pa_nil)))) (pw_or1 (pt_cmpR op_eqT (pv 2) pe_str (nomark _))))) (pss_one ps_never) pss_nil)
      (pss_cons (ps_if (pt_cmpR op_gt (pe_callB (call_max2 rfl) rfl T.n_max (by decide +kernel) (pa_cons (pe_callB call_lenT rfl T.n_len PySem.boot_len (pa_cons (pv 1) pa_nil)) (pa_cons (pe_callB call_lenT rfl T.n_len PySem.boot_len (pa_cons (pv 2) pa_nil)) pa_nil))) (ClX.pe_cval (pe_glob (v := .ref C_Word) rfl m_Word rfl)) (nomark _)) (pss_one ps_never) pss_nil)
      (pss_cons (ps_set (i := 3) sc_Word___init__.nd rfl (Or.inl rfl) (pe_call G_plain_of hr_plain_of rfl m_plain_of k_plain_of b_plain_of .nil pass0 (pa_cons (pv 1) (pa_cons (pv 2) pa_nil))))
      (pss_cons (ps_fld (pv 0) (pe_ix ix_tup (pv 3) pe_int (fun _ _ => rfl)) rfl)
      (pss_one (ps_fld (pv 0) (pe_ix ix_tup (pv 3) pe_int (fun _ _ => rfl)) rfl))))))), ?_⟩
    refine ⟨_, rfl, b, rfl, lb, by omega, fun H1 e1 => ⟨true, rfl, iteF ?_⟩⟩
    refine ⟨_, rfl, l, rfl, ll, by omega, fun H2 e2 => ⟨true, rfl, iteF ⟨_, rfl, l, [], rfl, str_nil, false, bl_f (by intro z; rw [z] at h0; exact absurd h0 (by decide)), iteF ?_⟩⟩⟩
    refine ⟨_, rfl, b, rfl, zb, _, rfl, l, rfl, zl, _, _, rfl, _, mc, _, u, rfl, hrd, hcv, _, _, rfl, rfl, false, bl_f (by
      show ¬ ((8000 : Int) < if (l.length : Int) > (b.length : Int) then (l.length : Int) else (b.length : Int))
      split <;> omega), iteF ?_⟩
    refine ⟨_, rfl, _, rfl, b, l, rfl, h0, by omega, by omega, fun t B L ht pl hB hL => ?_⟩
    have hp2 : H2 p = some (.ins C_Word dx []) := e2 _ _ (e1 _ _ hp)
    have npt : p ≠ t := ne_of_none hp2 ht
    refine ⟨_, rfl, t, _, 0, tx B, rfl, rfl, SqT.of upd_same, atI_nat (j := 0) rfl, _, rfl, p, C_Word, dx, [], rfl, by rw [upd_ne npt]; exact hp2, T.cl, T.nB, by show 0 < 1000; decide, ?_⟩
    refine ⟨_, rfl, t, [tx B, tx L], 1, tx L, rfl, rfl, SqT.of (by rw [upd_ne npt.symm, upd_same]), atI_nat (j := 1) rfl, _, rfl, p, C_Word, dx, _, rfl, upd_same, T.cl, T.nL, by show 1 < 1000; decide, ?_⟩
    have lets := plain_lets pl ok.letW
    refine k _ B L ⟨dx, by rw [wf_put]; exact upd_same⟩ pl hB hL ⟨pl.pos, by omega, by omega, lets.1, lets.2⟩ fun c o e hc => ?_
    have ec : H2 c = some o := e2 _ _ (e1 _ _ e)
    rw [upd_ne hc, upd_ne hc, upd_ne (ne_of_none ec ht)]
    exact ec
theorem ok_letter {f : Addr} {fd : FuncData} (F : Fun K "letter_at" "Word.letter_at" st_Word_letter_at f fd) (T : Txt K mg C_Word) : FnOk P w K mg base CX0 1 f fd ["self", "number"] (spLetter C_Word) := by
  refine F.ok sc_Word_letter_at (fun vs H Q E h => ?_) (fun cdv A outer s H vs Q E hr h => ?_)
  · obtain ⟨p, B, L, n, rfl, _⟩ := h
    rfl
  · obtain ⟨p, B, L, n, rfl, hn, ⟨dx, hp⟩, ok, k⟩ := h
    obtain ⟨h0, hb, hl, lb, ll⟩ := id ok
    have zb : B.length ≤ sizeLine := sz_of (by omega)
    have zl : L.length ≤ sizeLine := sz_of (by omega)
    refine ⟨_, (pss_cons (ps_if (pt_cmpR op_lt (pv 1) (pe_callB call_lenT rfl T.n_len PySem.boot_len (pa_cons (pe_fld (pv 0) rfl) pa_nil)) (nomark _)) (pss_one (ps_ret (pe_ix ix_T (pe_fld (pv 0) rfl) (pv 1) (fun _ _ => rfl)))) pss_nil)
      (pss_one (ps_ret (pe_ix ix_T (pe_fld (pv 0) rfl) (pe_op op_mod (pe_callTy call_int1 rfl T.n_int (by decide +kernel) (pa_cons (pe_op op_sub (pv 1) (pe_callB call_lenT rfl T.n_len PySem.boot_len (pa_cons (pe_fld (pv 0) rfl) pa_nil))) pa_nil)) (pe_callB call_lenT rfl T.n_len PySem.boot_len (pa_cons (pe_fld (pv 0) rfl) pa_nil))) (fun _ _ => rfl))))), ?_⟩
    by_cases hlt : n < (B.length : Int)
    · refine ⟨_, rfl, _, rfl, p, C_Word, dx, _, _, rfl, hp, T.cl, T.nB, wf_begin _ _, B, rfl, zb, _, _, rfl, rfl, true, bl_t hlt, iteT ?_⟩
      refine ⟨_, rfl, p, C_Word, dx, _, _, rfl, hp, T.cl, T.nB, wf_begin _ _, _, rfl, B, n.toNat, _, rfl, by congr 1; omega, zb, get_of (by omega), ?_⟩
      rw [om_lt (by omega)] at k
      exact k
    · refine ⟨_, rfl, _, rfl, p, C_Word, dx, _, _, rfl, hp, T.cl, T.nB, wf_begin _ _, B, rfl, zb, _, _, rfl, rfl, false, bl_f hlt, iteF ?_⟩
      have em : ((n - (B.length : Int)) % (L.length : Int)) = (((n.toNat - B.length) % L.length : Nat) : Int) := by
        rw [Int.natCast_emod]
        congr 1
        omega
      refine ⟨_, rfl, p, C_Word, dx, _, _, rfl, hp, T.cl, T.nL, wf_lap _ _, _, rfl, _, rfl, p, C_Word, dx, _, _, rfl, hp, T.cl, T.nB, wf_begin _ _, B, rfl, zb, _, _, rfl, rfl, .inl ⟨_, rfl, ?_⟩⟩
      refine ⟨_, rfl, p, C_Word, dx, _, _, rfl, hp, T.cl, T.nL, wf_lap _ _, L, rfl, zl, _, _, rfl, rfl, by omega, L, (n.toNat - B.length) % L.length, _, rfl, by show V.int _ = V.int _; rw [em], zl, get_of (Nat.mod_lt _ h0), ?_⟩
      rw [om_ge (by omega)] at k
      exact k
theorem ok_getitem {f : Addr} {fd : FuncData} (F : Fun K "__getitem__" "Word.__getitem__" st_Word___getitem__ f fd) (T : Txt K mg C_Word) (D1 : Df P w K mg base 3 "want_number" ["number"] spWant) (D2 : Dm P w K mg base C_Word 1 "letter_at" ["self", "number"] (spLetter C_Word)) :
    FnOk P w K mg base CX0 4 f fd ["self", "number"] (spLetter C_Word) := by
  obtain ⟨f1, fd1, G_want_number, m_want_number, k_want_number, b_want_number⟩ := D1
  obtain ⟨f2, fd2, G_letter_at, M_letter_at, b_letter_at⟩ := D2
  refine F.ok sc_Word___getitem__ (fun vs H Q E h => ?_) (fun cdv A outer s H vs Q E hr h => ?_)
  · obtain ⟨p, B, L, n, rfl, _⟩ := h
    rfl
  · obtain ⟨p, B, L, n, rfl, hn, ⟨dx, hp⟩, ok, k⟩ := h
    have hr_want_number := hr
    have hr_letter_at := hr.mono (show 1 ≤ 3 by decide)
    refine ⟨_, (pss_cons (ps_expr (pe_call G_want_number hr_want_number rfl m_want_number k_want_number b_want_number .nil pass0 (pa_cons (pv 1) pa_nil)))
      (pss_one (ps_ret (pe_meth (pv 0) T.cl M_letter_at G_letter_at hr_letter_at b_letter_at .nil pass0 (pa_cons (pv 1) pa_nil))))), ?_⟩
    refine ⟨_, rfl, n, rfl, hn, ?_⟩
    exact ⟨_, rfl, p, dx, _, rfl, hp, wf_no (by decide +kernel) (by decide +kernel), _, rfl, p, B, L, n, rfl, hn, ⟨dx, hp⟩, ok, k⟩
theorem ok_eq {f : Addr} {fd : FuncData} (F : Fun K "__eq__" "Word.__eq__" st_Word___eq__ f fd) (T : Txt K mg C_Word) : FnOk P w K mg base CX0 1 f fd ["self", "other"] (spEq C_Word) := by
  have m_Word := T.m_Word
  refine F.ok sc_Word___eq__ (fun vs H Q E h => ?_) (fun cdv A outer s H vs Q E hr h => ?_)
  · obtain ⟨p, q, B, L, B', L', rfl, _⟩ := h
    rfl
  · obtain ⟨p, q, B, L, B', L', rfl, ⟨dx, hp⟩, ⟨dy, hq⟩, k⟩ := h
    refine ⟨_, (pss_one (ps_ret (pe_and (pe_callB call_isi rfl T.n_isinstance (by decide +kernel) (pa_cons (pv 1) (pa_cons (pe_glob (v := .ref C_Word) rfl m_Word rfl) pa_nil))) (pe_and (pe_cmpR op_eqT (pe_fld (pv 0) rfl) (pe_fld (pv 1) rfl) (nomark _)) (pe_one (pe_cmpR op_eqT (pe_fld (pv 0) rfl) (pe_fld (pv 1) rfl) (nomark _))))))), ?_⟩
    refine ⟨_, rfl, _, _, _, _, true, rfl, .own C_Word, .base (.ins hq T.cl T.ha T.hn T.htk T.hm), T.kit, true, rfl, iteT ?_⟩
    by_cases hB : B = B'
    · refine ⟨_, rfl, p, C_Word, dx, _, _, rfl, hp, T.cl, T.nB, wf_begin _ _, _, rfl, q, C_Word, dy, _, _, rfl, hq, T.cl, T.nB, wf_begin _ _, B, B', rfl, rfl, true, bl_t hB, iteT ?_⟩
      refine ⟨_, rfl, p, C_Word, dx, _, _, rfl, hp, T.cl, T.nL, wf_lap _ _, _, rfl, q, C_Word, dy, _, _, rfl, hq, T.cl, T.nL, wf_lap _ _, L, L', rfl, rfl, ?_⟩
      rw [decide_eq_true hB, Bool.true_and] at k
      exact k
    · refine ⟨_, rfl, p, C_Word, dx, _, _, rfl, hp, T.cl, T.nB, wf_begin _ _, _, rfl, q, C_Word, dy, _, _, rfl, hq, T.cl, T.nB, wf_begin _ _, B, B', rfl, rfl, false, bl_f hB, iteF ?_⟩
      rw [decide_eq_false hB, Bool.false_and] at k
      exact k
end
end LW
end
section
set_option maxRecDepth 100000
set_option maxHeartbeats 4000000
namespace LW
open PySem L2 RX WM Evl
/-- what a repr of a text is long at most -/
theorem repr_lets {a : Tx} (h : Lets a) : (reprText (stx a)).length ≤ 10 * a.length + 2 := by
  have := StrLaws.reprText_len (stx a) (fun c hc => by
    rw [stx_list] at hc
    have := (h c hc).2
    exact Nat.lt_of_le_of_lt this (by decide))
  rw [stx_len] at this
  exact this
structure TxtE (K : PySem.W.Frag) (mg : Str → Option Value) (C fE : Addr) : Prop extends Txt K mg C where
  sEq : PySem.W.findIn K (.ref C) "__eq__" = some (some (.ref fE))
  fEq : PySem.W.isFn K (.ref fE) = true
section
variable {P : Program} {w : World} {K : PySem.W.Frag} {mg : Str → Option Value} {base : Heap} {C_Word : Addr}
theorem ok_repr {f : Addr} {fd : FuncData} (F : Fun K "__repr__" "Word.__repr__" st_Word___repr__ f fd) (T : Txt K mg C_Word) : FnOk P w K mg base CX0 1 f fd ["self"] (spRepr C_Word) := by
  refine F.ok sc_Word___repr__ (fun vs H Q E h => ?_) (fun cdv A outer s H vs Q E hr h => ?_)
  · obtain ⟨p, B, L, rfl, _⟩ := h
    rfl
  · obtain ⟨p, B, L, rfl, ⟨dx, hp⟩, ok, k⟩ := h
    refine ⟨_, (pss_one (ps_ret (pe_joined (PJ.cons pe_str (PJ.cons (pe_fmtR (pe_fld (pv 0) rfl)) (PJ.cons pe_str (PJ.cons (pe_fmtR (pe_fld (pv 0) rfl)) (PJ.cons pe_str PJ.nil)))))))), ?_⟩
    have rB := repr_lets ok.lB
    have rL := repr_lets ok.lL
    have sz : ∀ n : Nat, n ≤ 200000 → n ≤ sizeLine := fun n h => Nat.le_trans h (by decide)
    have bB := ok.bB
    have bL := ok.bL
    have l0 : (Str.empty ++ Str.ofString "Word(").length = 5 := by decide +kernel
    have l2 : (Str.ofString ", ").length = 2 := by decide +kernel
    have l3 : (Str.ofString ")").length = 1 := by decide +kernel
    have e1 : (Str.empty ++ Str.ofString "Word(" ++ reprText (stx B)).length = 5 + (reprText (stx B)).length := by rw [strLen_append, l0]
    have e2 : (Str.empty ++ Str.ofString "Word(" ++ reprText (stx B) ++ Str.ofString ", ").length = 7 + (reprText (stx B)).length := by rw [strLen_append, e1, l2]; omega
    have e3 : (Str.empty ++ Str.ofString "Word(" ++ reprText (stx B) ++ Str.ofString ", " ++ reprText (stx L)).length = 7 + (reprText (stx B)).length + (reprText (stx L)).length := by rw [strLen_append, e2]
    have e4 : (told B L).length = 8 + (reprText (stx B)).length + (reprText (stx L)).length := by unfold told; rw [strLen_append, e3, l3]; omega
    exact ⟨_, rfl, sz _ (by omega), _, rfl, p, C_Word, dx, _, _, rfl, hp, T.cl, T.nB, wf_begin _ _, .inl ⟨_, rfl, sz _ (by omega), _, rfl, sz _ (by omega), _, rfl, sz _ (by omega), _, rfl, p, C_Word, dx, _, _, rfl, hp, T.cl, T.nL, wf_lap _ _,
      .inl ⟨_, rfl, sz _ (by omega), _, rfl, sz _ (by omega), _, rfl, sz _ (by unfold told at e4; omega), k⟩⟩⟩
theorem ok_first {f : Addr} {fd : FuncData} (F : Fun K "first" "Word.first" st_Word_first f fd) (T : Txt K mg C_Word) (D1 : Df P w K mg base 3 "want_number" ["number"] spWant) (D2 : Dm P w K mg base C_Word 1 "letter_at" ["self", "number"] (spLetter C_Word)) :
    FnOk P w K mg base CX0 4 f fd ["self", "number"] (spFirst C_Word) := by
  obtain ⟨f1, fd1, G_want_number, m_want_number, k_want_number, b_want_number⟩ := D1
  obtain ⟨f2, fd2, G_letter_at, M_letter_at, b_letter_at⟩ := D2
  have m_Word := T.m_Word
  obtain ⟨mc, u, hrd, hcv⟩ := T.most
  refine F.ok sc_Word_first (fun vs H Q E h => ?_) (fun cdv A outer s H vs Q E hr h => ?_)
  · obtain ⟨p, B, L, n, rfl, _⟩ := h
    rfl
  · obtain ⟨p, B, L, n, rfl, hn, h8, ⟨dx, hp⟩, ok, k⟩ := h
    have hr_want_number := hr
    have hr_letter_at := hr.mono (show 1 ≤ 3 by decide)
    refine ⟨_, (pss_cons (ps_expr (pe_call G_want_number hr_want_number rfl m_want_number k_want_number b_want_number .nil pass0 (pa_cons (pv 1) pa_nil)))
      (pss_cons (ps_if (pt_cmpR op_gt (pv 1) (ClX.pe_cval (pe_glob (v := .ref C_Word) rfl m_Word rfl)) (nomark _)) (pss_one ps_never) pss_nil)
      (pss_one (ps_ret (pe_joinT pe_str (pe_lc (own := [("place", 2)]) (g := gName 2) rfl sc_Word_first.nd (pi_range1 rfl T.n_range (pa_cons (pv 1) pa_nil)) (blkOk_by (own := [("place", 2)]) (N := ["self", "number", "place"]) (sc := defScope st_Word_first) (by decide +kernel)) (fun _ _ _ _ _ => (pg_name (i := 2) sc_Word_first.nd rfl (Or.inl rfl))) (fun _ _ _ _ _ => pts_nil) (fun _ _ _ _ _ => (pe_meth (pv 0) T.cl M_letter_at G_letter_at hr_letter_at b_letter_at .nil pass0 (pa_cons (pv 2) pa_nil))))))))), ?_⟩
    refine ⟨_, rfl, n, rfl, hn, ?_⟩
    refine ⟨_, rfl, _, mc, _, u, rfl, hrd, hcv, _, _, rfl, rfl, false, bl_f (by show ¬ (8000 < n); omega), iteF ?_⟩
    refine ⟨⟨_, rfl⟩, _, rfl, n, rfl, by omega, by omega, fun D hD => lc_range (lo := 0) (n := n.toNat) (fun i H1 => i ≤ n.toNat ∧ H1 = upd H D (.lst ((List.range i).map fun j => tx [om B L j]))) ⟨Nat.zero_le _, rfl⟩ ?_ ?_⟩
    · rintro i H1 hi ⟨_, rfl⟩
      have npd : p ≠ D := ne_of_none hp hD
      refine ⟨rfl, turn_yes ?_⟩
      refine ⟨_, rfl, p, dx, _, rfl, by rw [upd_ne npd]; exact hp, wf_no (by decide +kernel) (by decide +kernel), _, rfl, p, B, L, (i : Int), by rw [show (0 : Int) + (i : Int) = (i : Int) by omega]; rfl, by omega, ⟨dx, by rw [upd_ne npd]; exact hp⟩, ok, ?_⟩
      refine ⟨_, upd_same, by rw [List.length_map, List.length_range]; exact sz_lt (by omega), by omega, ?_⟩
      rw [upd_upd, List.range_succ, List.map_append, Int.toNat_natCast]
      rfl
    · rintro H1 ⟨_, rfl⟩
      have efl : ((List.range n.toNat).map fun j => [om B L j]).flatten = (List.range n.toNat).map (om B L) := by
        generalize List.range n.toNat = r
        induction r with
        | nil => rfl
        | cons a r ih => rw [List.map_cons, List.flatten_cons, ih, List.map_cons]; rfl
      refine ⟨D, (List.range n.toNat).map fun j => [om B L j], str_nil, rfl, by rw [List.map_map]; exact SqL.of upd_same, by rw [efl, List.length_map, List.length_range]; omega, ?_⟩
      rw [efl]
      exact k _ (Ex.new hD)
theorem made_ex {H H1 : Hp} {x dx C : Addr} (nx : H x = none) (nd : H dx = none) (k : ∀ b o, (upd (upd H dx (.own x)) x (.ins C dx [])) b = some o → b ≠ x → H1 b = some o) : Ex H H1 := Same.made nx nd k
theorem ok_behind {f fI : Addr} {fd fdI : FuncData} (F : Fun K "behind" "Word.behind" st_Word_behind f fd) (T : Txt K mg C_Word) (D1 : Df P w K mg base 3 "want_number" ["number"] spWant) (MK_Word : Mk K C_Word fI) (G_Word_init : FnOk P w K mg base CX0 3 fI fdI ["self", "begin", "lap"] (spInit C_Word)) (b_Word_init : Binds K fdI ["self", "begin", "lap"] []) :
    FnOk P w K mg base CX0 5 f fd ["self", "number"] (spBehind C_Word) := by
  obtain ⟨f1, fd1, G_want_number, m_want_number, k_want_number, b_want_number⟩ := D1
  have m_Word := T.m_Word
  refine F.ok sc_Word_behind (fun vs H Q E h => ?_) (fun cdv A outer s H vs Q E hr h => ?_)
  · obtain ⟨p, B, L, n, rfl, _⟩ := h
    rfl
  · obtain ⟨p, B, L, n, rfl, hn, ⟨dx, hp⟩, ok, k⟩ := h
    obtain ⟨h0, hb, hl, lb, ll⟩ := id ok
    have zb : B.length ≤ sizeLine := sz_of (by omega)
    have zl : L.length ≤ sizeLine := sz_of (by omega)
    have hr_want_number := hr.mono (show 3 ≤ 4 by decide)
    have hr_Word := hr
    refine ⟨_, (pss_cons (ps_expr (pe_call G_want_number hr_want_number rfl m_want_number k_want_number b_want_number .nil pass0 (pa_cons (pv 1) pa_nil)))
      (pss_cons (ps_if (pt_cmpR op_le (pv 1) (pe_callB call_lenT rfl T.n_len PySem.boot_len (pa_cons (pe_fld (pv 0) rfl) pa_nil)) (nomark _)) (pss_one (ps_ret (pe_make MK_Word G_Word_init hr_Word rfl m_Word b_Word_init .nil pass0 (pa_cons (pe_slice sl_T (pe_fld (pv 0) rfl) (po_some (pv 1)) po_none) (pa_cons (pe_fld (pv 0) rfl) pa_nil))))) pss_nil)
      (pss_cons (ps_set (i := 2) sc_Word_behind.nd rfl (Or.inl rfl) (pe_op op_mod (pe_callTy call_int1 rfl T.n_int (by decide +kernel) (pa_cons (pe_op op_sub (pv 1) (pe_callB call_lenT rfl T.n_len PySem.boot_len (pa_cons (pe_fld (pv 0) rfl) pa_nil))) pa_nil)) (pe_callB call_lenT rfl T.n_len PySem.boot_len (pa_cons (pe_fld (pv 0) rfl) pa_nil))))
      (pss_one (ps_ret (pe_make MK_Word G_Word_init hr_Word rfl m_Word b_Word_init .nil pass0 (pa_cons pe_str (pa_cons (pe_op op_addT (pe_slice sl_T (pe_fld (pv 0) rfl) (po_some (pv 2)) po_none) (pe_slice sl_T (pe_fld (pv 0) rfl) po_none (po_some (pv 2)))) pa_nil)))))))), ?_⟩
    refine ⟨_, rfl, n, rfl, hn, ?_⟩
    by_cases hle : n ≤ (B.length : Int)
    · refine ⟨_, rfl, _, rfl, p, C_Word, dx, _, _, rfl, hp, T.cl, T.nB, wf_begin _ _, B, rfl, zb, _, _, rfl, rfl, true, bl_t hle, iteT ?_⟩
      refine ⟨_, rfl, p, C_Word, dx, _, _, rfl, hp, T.cl, T.nB, wf_begin _ _, _, rfl, _, rfl, B, rfl, zb, _, rfl, p, C_Word, dx, _, _, rfl, hp, T.cl, T.nL, wf_lap _ _, fun x dy nx ndy nex => ?_⟩
      have ec : cutT B (some n) none = B.drop n.toNat := by
        have := cutT_from B n.toNat
        rw [show ((n.toNat : Nat) : Int) = n by omega] at this
        exact this
      refine ⟨x, dy, B.drop n.toNat, L, by rw [← ec]; rfl, upd_same, ⟨h0, by rw [List.length_drop]; omega, hl, fun c hc => lb c (List.mem_of_mem_drop hc), ll⟩, fun H' B' L' hat pl hB hL ok' keep => ⟨rfl, ?_⟩⟩
      refine k x H' B' L' nx (made_ex nx ndy keep) hat ok' (pl.congr fun j => om_drop (by omega) j) ?_ hL
      rw [List.length_drop] at hB
      exact hB
    · refine ⟨_, rfl, _, rfl, p, C_Word, dx, _, _, rfl, hp, T.cl, T.nB, wf_begin _ _, B, rfl, zb, _, _, rfl, rfl, false, bl_f hle, iteF ?_⟩
      have em : ((n - (B.length : Int)) % (L.length : Int)) = (((n.toNat - B.length) % L.length : Nat) : Int) := by
        rw [Int.natCast_emod]
        congr 1
        omega
      refine ⟨_, rfl, _, rfl, p, C_Word, dx, _, _, rfl, hp, T.cl, T.nB, wf_begin _ _, B, rfl, zb, _, _, rfl, rfl, .inl ⟨_, rfl, _, rfl, p, C_Word, dx, _, _, rfl, hp, T.cl, T.nL, wf_lap _ _, L, rfl, zl, _, _, rfl, rfl, by omega, ?_⟩⟩
      refine ⟨_, rfl, p, C_Word, dx, _, _, rfl, hp, T.cl, T.nL, wf_lap _ _, _, rfl, _, rfl, L, rfl, zl, _, rfl, p, C_Word, dx, _, _, rfl, hp, T.cl, T.nL, wf_lap _ _, _, rfl, _, rfl, L, rfl, zl, _, _, rfl, rfl, cut_sum _ _ _ (by omega), fun x dy nx ndy nex => ?_⟩
      have hcut : (n.toNat - B.length) % L.length < L.length := Nat.mod_lt _ h0
      refine ⟨x, dy, [], L.drop ((n.toNat - B.length) % L.length) ++ L.take ((n.toNat - B.length) % L.length), ?_, upd_same, ⟨by rw [rot_len hcut]; exact h0, by show 0 ≤ 8000; decide, by rw [rot_len hcut]; exact hl, fun c hc => (nomatch hc), fun c hc => ?_⟩, fun H' B' L' hat pl hB hL ok' keep => ⟨rfl, ?_⟩⟩
      · rw [← cutT_from, ← cutT_to, ← em, ← str_nil]
        rfl
      · rcases List.mem_append.mp hc with z | z
        · exact ll c (List.mem_of_mem_drop z)
        · exact ll c (List.mem_of_mem_take z)
      · refine k x H' B' L' nx (made_ex nx ndy keep) hat ok' (pl.congr fun j => om_rot h0 (by omega) j) ?_ (by rw [rot_len hcut] at hL; exact hL)
        have : B'.length ≤ 0 := hB
        omega
theorem ok_radd {f fI : Addr} {fd fdI : FuncData} (F : Fun K "__radd__" "Word.__radd__" st_Word___radd__ f fd) (T : Txt K mg C_Word) (D1 : Df P w K mg base 1 "is_text" ["value"] spIsText) (MK_Word : Mk K C_Word fI) (G_Word_init : FnOk P w K mg base CX0 3 fI fdI ["self", "begin", "lap"] (spInit C_Word)) (b_Word_init : Binds K fdI ["self", "begin", "lap"] []) :
    FnOk P w K mg base CX0 5 f fd ["self", "text"] (spRadd C_Word) := by
  obtain ⟨f1, fd1, G_is_text, m_is_text, k_is_text, b_is_text⟩ := D1
  have m_Word := T.m_Word
  refine F.ok sc_Word___radd__ (fun vs H Q E h => ?_) (fun cdv A outer s H vs Q E hr h => ?_)
  · obtain ⟨p, B, L, t, rfl, _⟩ := h
    rfl
  · obtain ⟨p, B, L, t, rfl, lt, ht, ⟨dx, hp⟩, ok, k⟩ := h
    obtain ⟨h0, hb, hl, lb, ll⟩ := id ok
    have hr_is_text := hr.mono (show 1 ≤ 4 by decide)
    have hr_Word := hr
    refine ⟨_, (pss_cons (ps_if (pt_not (pt_val (pe_call G_is_text hr_is_text rfl m_is_text k_is_text b_is_text .nil pass0 (pa_cons (pv 1) pa_nil)))) (pss_one ps_never) pss_nil)
      (pss_one (ps_ret (pe_make MK_Word G_Word_init hr_Word rfl m_Word b_Word_init .nil pass0 (pa_cons (pe_op op_addT (pv 1) (pe_fld (pv 0) rfl)) (pa_cons (pe_fld (pv 0) rfl) pa_nil)))))), ?_⟩
    refine ⟨_, rfl, t, rfl, lt, by omega, fun H1 e1 => ⟨true, rfl, iteF ?_⟩⟩
    have hp1 := e1 _ _ hp
    refine ⟨_, rfl, _, rfl, p, C_Word, dx, _, _, rfl, hp1, T.cl, T.nB, wf_begin _ _, t, B, rfl, rfl, sz_of (by omega), _, rfl, p, C_Word, dx, _, _, rfl, hp1, T.cl, T.nL, wf_lap _ _, fun x dy nx ndy nex => ?_⟩
    refine ⟨x, dy, t ++ B, L, rfl, upd_same, ⟨h0, by rw [List.length_append]; exact ht, hl, fun c hc => (List.mem_append.mp hc).elim (lt c) (lb c), ll⟩, fun H' B' L' hat pl hB hL ok' keep => ⟨rfl, ?_⟩⟩
    refine k x H' B' L' (fresh_back e1 nx) (e1.trans (made_ex nx ndy keep)) hat ok' pl ?_ hL
    rw [List.length_append] at hB
    exact hB
end
end LW
end
section
set_option maxRecDepth 100000
set_option maxHeartbeats 4000000
namespace LW
open PySem L2 RX WM Evl
abbrev st__law_pot : Stmt := top 19
theorem sc__law_pot : FnScope ["_law_script", "_law_k", "_law_start_here"] ["_law_script", "_law_k"] (defScope st__law_pot) := ⟨rfl, rfl, rfl, by decide +kernel, rfl, by decide +kernel, by decide +kernel⟩
abbrev st__law_draw : Stmt := top 20
theorem sc__law_draw : FnScope ["_law_pot_here", "_law_many", "_law_digit"] ["_law_pot_here", "_law_many"] (defScope st__law_draw) := ⟨rfl, rfl, rfl, by decide +kernel, rfl, by decide +kernel, by decide +kernel⟩
abbrev st__law_pick : Stmt := top 21
theorem sc__law_pick : FnScope ["_law_pot_here", "_law_some"] ["_law_pot_here", "_law_some"] (defScope st__law_pick) := ⟨rfl, rfl, rfl, by decide +kernel, rfl, by decide +kernel, by decide +kernel⟩
abbrev st__law_text : Stmt := top 22
theorem sc__law_text : FnScope ["_law_pot_here", "_law_signs", "_law_most", "_law_turn"] ["_law_pot_here", "_law_signs", "_law_most"] (defScope st__law_text) := ⟨rfl, rfl, rfl, by decide +kernel, rfl, by decide +kernel, by decide +kernel⟩
/-- a pot stands at p -/
def PotAt (H : Hp) (p : Addr) : Prop := ∃ x y : Int, H p = some (.lst [.int x, .int y]) ∧ 0 ≤ y ∧ y < 4294967296
/-- the pot at p may have turned, all else is as it was -/
structure Mv (p : Addr) (H H' : Hp) : Prop where
  pot : PotAt H' p
  kp : ∀ a o, a ≠ p → H a = some o → H' a = some o
theorem Mv.refl {p : Addr} {H : Hp} (h : PotAt H p) : Mv p H H := ⟨h, fun _ _ _ e => e⟩
theorem Mv.trans {p : Addr} {H H1 H2 : Hp} (a : Mv p H H1) (b : Mv p H1 H2) : Mv p H H2 := ⟨b.pot, fun c o n e => b.kp c o n (a.kp c o n e)⟩
theorem Mv.ex {p : Addr} {H H1 H2 : Hp} (a : Mv p H H1) (b : Ex H1 H2) : Mv p H H2 := ⟨let ⟨x, y, h, r⟩ := a.pot; ⟨x, y, b _ _ h, r⟩, fun c o n e => b c o (a.kp c o n e)⟩
theorem Mv.new {p : Addr} {H H1 : Hp} {q : Addr} {o : HO} (a : Mv p H H1) (h : H1 q = none) : Mv p H (upd H1 q o) := a.ex (Ex.new h)
theorem PotAt.ne {H : Hp} {p a : Addr} (h : PotAt H p) (n : H a = none) : a ≠ p := by
  rintro rfl
  obtain ⟨x, y, e, _⟩ := h
  rw [n] at e
  cases e
/-- what is new there was new here -/
theorem Mv.fresh {p : Addr} {H H1 : Hp} (a : Mv p H H1) {q : Addr} (h : H1 q = none) : H q = none := by
  cases e : H q with
  | none => rfl
  | some o =>
    rw [a.kp q o (a.pot.ne h) e] at h
    cases h
theorem PotAt.no {H : Hp} {p a : Addr} (h : PotAt H p) {o : HO} (e : H a = some o) (n : ∀ x y, o ≠ .lst [.int x, .int y]) : a ≠ p := by
  rintro rfl
  obtain ⟨x, y, e', _⟩ := h
  rw [e'] at e
  cases e
  exact n x y rfl
def spPot (K : PySem.W.Frag) : Sp := fun vs H Q _ => ∃ (a : Addr) (k : Int) (ns : List Int), vs = [.ref a, .int k] ∧ 0 ≤ k ∧ SqL K H a (ns.map V.int) ∧ ∀ p H', H p = none → Ex H H' → PotAt H' p → Q (.ref p) H'
def spDraw : Sp := fun vs H Q _ => ∃ (p : Addr) (m : Int), vs = [.ref p, .int m] ∧ PotAt H p ∧ 0 < m ∧ m < 1073741824 ∧ ∀ (d : Nat) H', (d : Int) < m → Mv p H H' → Q (.int d) H'
def spPick : Sp := fun vs H Q _ => ∃ (p : Addr) (a : Tx), vs = [.ref p, tx a] ∧ PotAt H p ∧ 0 < a.length ∧ a.length ≤ 100000 ∧ ∀ c H', c ∈ a → Mv p H H' → Q (tx [c]) H'
def spPickL : Sp := fun vs H Q _ => ∃ (p l : Addr) (xs : List V), vs = [.ref p, .ref l] ∧ PotAt H p ∧ l ≠ p ∧ H l = some (.lst xs) ∧ 0 < xs.length ∧ xs.length ≤ 100000 ∧ ∀ x H', x ∈ xs → Mv p H H' → Q x H'
def spText : Sp := fun vs H Q _ => ∃ (p : Addr) (a : Tx) (m : Int), vs = [.ref p, tx a, .int m] ∧ PotAt H p ∧ 0 < a.length ∧ a.length ≤ 100000 ∧ 0 ≤ m ∧ m ≤ 10000 ∧ ∀ t H', (∀ c ∈ t, c ∈ a) → (t.length : Int) ≤ m → Mv p H H' → Q (tx t) H'
section
variable {P : Program} {w : World} {K : PySem.W.Frag} {mg : Str → Option Value} {base : Heap}
theorem ok_pot {f : Addr} {fd : FuncData} (F : Fun K "_law_pot" "_law_pot" st__law_pot f fd) (T : Bl mg) : FnOk P w K mg base CX0 1 f fd ["_law_script", "_law_k"] (spPot K) := by
  refine F.ok sc__law_pot (fun vs H Q E h => ?_) (fun cdv A outer s H vs Q E hr h => ?_)
  · obtain ⟨a, k, ns, rfl, _⟩ := h
    rfl
  · obtain ⟨a, k, ns, rfl, hk, hS, go⟩ := h
    refine ⟨_, (pss_cons (ps_set (i := 2) sc__law_pot.nd rfl (Or.inl rfl) (pe_op op_add (pe_op op_mul pe_int (pv 1)) pe_int))
      (pss_cons (ps_if (pt_cmpR op_lt (pv 1) (pe_callB call_len_seq rfl T.n_len PySem.boot_len (pa_cons (pv 0) pa_nil)) (nomark _)) (pss_one (ps_set (i := 2) sc__law_pot.nd rfl (Or.inl rfl) (pe_callB call_abs rfl T.n_abs (by decide +kernel) (pa_cons (pe_ix ix_list (pv 0) (pv 1) (fun _ _ => rfl)) pa_nil)))) pss_nil)
      (pss_one (ps_ret (pe_lst (pa_cons (pe_callB (call_max2 rfl) rfl T.n_max (by decide +kernel) (pa_cons pe_int (pa_cons (pe_op op_sub (pv 2) (pe_op op_pow pe_int pe_int)) pa_nil))) (pa_cons (pe_op op_add (pe_op op_mod (pe_callTy call_int1 rfl T.n_int (by decide +kernel) (pa_cons (pe_op op_add (pe_op op_add (pe_op op_mul (pe_op op_mod (pe_callTy call_int1 rfl T.n_int (by decide +kernel) (pa_cons (pv 2) pa_nil)) pe_int) pe_int) (pe_op op_mul pe_int (pv 1))) pe_int) pa_nil)) pe_int) pe_int) pa_nil))))))), ?_⟩
    refine ⟨_, rfl, _, _, rfl, rfl, .inl ⟨by decide, by decide⟩, _, _, rfl, rfl, ?_⟩
    by_cases hlt : k < ((ns.map V.int).length : Int)
    case' pos =>
      have hl : k.toNat < ns.length := by rw [List.length_map] at hlt; omega
      refine ⟨_, rfl, _, rfl, a, _, rfl, .inl hS, _, _, rfl, rfl, true, bl_t hlt, iteT ?_⟩
      refine ⟨_, rfl, _, rfl, a, _, k, .int (ns[k.toNat]'hl), rfl, rfl, hS, at_of (j := k.toNat) (by omega) (by rw [List.getElem?_map, List.getElem?_eq_getElem hl]; rfl), _, rfl, ?_⟩
    case' neg => refine ⟨_, rfl, _, rfl, a, _, rfl, .inl hS, _, _, rfl, rfl, false, bl_f hlt, iteF ?_⟩
    all_goals
      refine ⟨_, rfl, _, _, rfl, rfl, ⟨by decide, by decide, by decide⟩, _, _, rfl, rfl, _, _, rfl, ?_⟩
      refine ⟨_, rfl, .inl ⟨_, rfl, _, _, rfl, rfl, by show (0 : Int) < (_ : Int); decide, _, _, rfl, rfl, .inr ⟨by decide, by decide⟩, _, rfl, _, _, rfl, rfl, .inl ⟨by decide, by decide⟩, _, _, rfl, rfl, _, _, rfl, rfl, .inl ⟨_, rfl, _, _, rfl, rfl, by show (0 : Int) < (_ : Int); decide, _, _, rfl, rfl, by show 2 ≤ sizeLine; decide, fun p hp => ?_⟩⟩⟩
      refine go p _ hp (Ex.new hp) ⟨_, _, upd_same, ?_, ?_⟩
      · exact Int.add_nonneg (Int.emod_nonneg _ (by decide)) (by decide)
      · exact Int.lt_of_lt_of_le (Int.add_lt_add_right (Int.emod_lt_of_pos _ (by decide)) _) (by decide)
theorem ok_draw {f : Addr} {fd : FuncData} (F : Fun K "_law_draw" "_law_draw" st__law_draw f fd) (T : Bl mg) : FnOk P w K mg base CX0 1 f fd ["_law_pot_here", "_law_many"] spDraw := by
  refine F.ok sc__law_draw (fun vs H Q E h => ?_) (fun cdv A outer s H vs Q E hr h => ?_)
  · obtain ⟨p, m, rfl, _⟩ := h
    rfl
  · obtain ⟨p, m, rfl, ⟨x, y, hp, hy0, hy1⟩, hm0, hm1, k⟩ := h
    refine ⟨_, (pss_cons (ps_if (pt_cmpR op_gt (pe_ix ix_list (pv 0) pe_int (fun _ _ => rfl)) pe_int (nomark _)) (pss_cons (ps_asg (pe_callB call_divmod rfl T.n_divmod (by decide +kernel) (pa_cons (pe_ix ix_list (pv 0) pe_int (fun _ _ => rfl)) (pa_cons (pv 1) pa_nil))) (pg_tup rfl (pgs_cons (pg_sub (pv 0) pe_int set_list) (pgs_cons (pg_name (i := 2) sc__law_draw.nd rfl (Or.inl rfl)) pgs_nil))))
      (pss_one (ps_ret (pv 2)))) pss_nil)
      (pss_cons (ps_asg (pe_op op_mod (pe_callTy call_int1 rfl T.n_int (by decide +kernel) (pa_cons (pe_op op_add (pe_op op_mul (pe_ix ix_list (pv 0) pe_int (fun _ _ => rfl)) pe_int) pe_int) pa_nil)) pe_int) (pg_sub (pv 0) pe_int set_list))
      (pss_one (ps_ret (pe_op op_mod (pe_callTy call_int1 rfl T.n_int (by decide +kernel) (pa_cons (pe_op op_fdiv (pe_op op_mod (pe_callTy call_int1 rfl T.n_int (by decide +kernel) (pa_cons (pe_op op_mul (pe_ix ix_list (pv 0) pe_int (fun _ _ => rfl)) (pe_ix ix_list (pv 0) pe_int (fun _ _ => rfl))) pa_nil)) pe_int) pe_int) pa_nil)) (pv 1)))))), ?_⟩
    have fin : ∀ (e : Int) H', Mv p H H' → Q (.int (e % m)) H' := fun e H' mv => by
      have h1 := Int.emod_nonneg e (show m ≠ 0 by omega)
      have h2 := Int.emod_lt_of_pos e hm0
      have := k (e % m).toNat H' (by omega) mv
      rw [show (((e % m).toNat : Nat) : Int) = e % m by omega] at this
      exact this
    have at0 : ∀ {x y : V}, atI [x, y] 0 = some x := atI_nat (j := 0) rfl
    have at1 : ∀ {x y : V}, atI [x, y] 1 = some y := atI_nat (j := 1) rfl
    by_cases hx : 0 < x
    · refine ⟨_, rfl, p, _, 0, _, rfl, rfl, SqL.of hp, at0, _, _, rfl, rfl, true, bl_t hx, iteT ?_⟩
      refine ⟨_, rfl, p, _, 0, _, rfl, rfl, SqL.of hp, at0, _, rfl, x, m, rfl, ⟨hm0, hm1⟩, fun t ht => ?_⟩
      have npt : p ≠ t := ne_of_none hp ht
      refine ⟨t, _, rfl, SqT.of upd_same, rfl, _, _, rfl, ?_⟩
      refine ⟨_, rfl, p, _, 0, 0, rfl, rfl, by rw [upd_ne npt]; exact hp, rfl, _, _, rfl, rfl, _, rfl, ?_⟩
      exact fin _ _ ⟨⟨_, _, upd_same, hy0, hy1⟩, fun a o na e => by rw [upd_ne na, upd_ne (ne_of_none e ht)]; exact e⟩
    · refine ⟨_, rfl, p, _, 0, _, rfl, rfl, SqL.of hp, at0, _, _, rfl, rfl, false, bl_f hx, iteF ?_⟩
      refine ⟨_, rfl, p, _, 1, _, rfl, rfl, SqL.of hp, at1, _, _, rfl, rfl, .inr ⟨by decide, by decide⟩, _, _, rfl, rfl, .inl ⟨_, rfl, _, _, rfl, rfl, by show (0 : Int) < (_ : Int); decide, ?_⟩⟩
      refine ⟨_, rfl, p, _, 1, 1, rfl, rfl, hp, rfl, ?_⟩
      have hq : ∀ v, upd H p (HO.lst ([V.int x, V.int y].set 1 v)) p = some (.lst [.int x, v]) := fun v => upd_same
      refine ⟨_, rfl, p, _, 1, _, rfl, rfl, SqL.of (hq _), at1, _, rfl, p, _, 1, _, rfl, rfl, SqL.of (hq _), at1, _, _, rfl, rfl, .inl ⟨by omega, by omega⟩, .inl ⟨_, rfl, _, _, rfl, rfl, by show (0 : Int) < (_ : Int); decide, _, _, rfl, rfl, ⟨by decide, by decide⟩, .inl ⟨_, rfl, _, rfl, _, _, rfl, rfl, hm0, ?_⟩⟩⟩
      exact fin _ _ ⟨⟨_, _, hq _, by omega, by omega⟩, fun a o na e => by rw [upd_ne na]; exact e⟩
theorem ok_pickT {f : Addr} {fd : FuncData} (F : Fun K "_law_pick" "_law_pick" st__law_pick f fd) (T : Bl mg) (D1 : Df P w K mg base 1 "_law_draw" ["_law_pot_here", "_law_many"] spDraw) : FnOk P w K mg base CX0 2 f fd ["_law_pot_here", "_law_some"] spPick := by
  obtain ⟨f1, fd1, G__law_draw, m__law_draw, k__law_draw, b__law_draw⟩ := D1
  refine F.ok sc__law_pick (fun vs H Q E h => ?_) (fun cdv A outer s H vs Q E hr h => ?_)
  · obtain ⟨p, a, rfl, _⟩ := h
    rfl
  · obtain ⟨p, a, rfl, hp, h0, hl, k⟩ := h
    have hr__law_draw := hr
    refine ⟨_, (pss_one (ps_ret (pe_ix ix_T (pv 1) (pe_call G__law_draw hr__law_draw rfl m__law_draw k__law_draw b__law_draw .nil pass0 (pa_cons (pv 0) (pa_cons (pe_callB call_lenT rfl T.n_len PySem.boot_len (pa_cons (pv 1) pa_nil)) pa_nil))) (fun _ _ => rfl)))), ?_⟩
    refine ⟨_, rfl, _, rfl, _, rfl, a, rfl, sz_of hl, p, _, rfl, hp, by omega, by omega, fun d H' hd mv => ?_⟩
    have hd' : d < a.length := by omega
    exact ⟨a, d, _, rfl, rfl, sz_of hl, get_of hd', k _ H' (getD_mem hd') mv⟩
theorem ok_pickL {f : Addr} {fd : FuncData} (F : Fun K "_law_pick" "_law_pick" st__law_pick f fd) (T : Bl mg) (D1 : Df P w K mg base 1 "_law_draw" ["_law_pot_here", "_law_many"] spDraw) : FnOk P w K mg base CX0 2 f fd ["_law_pot_here", "_law_some"] spPickL := by
  obtain ⟨f1, fd1, G__law_draw, m__law_draw, k__law_draw, b__law_draw⟩ := D1
  refine F.ok sc__law_pick (fun vs H Q E h => ?_) (fun cdv A outer s H vs Q E hr h => ?_)
  · obtain ⟨p, a, xs, rfl, _⟩ := h
    rfl
  · obtain ⟨p, l, xs, rfl, hp, npl, hL, h0, hl, k⟩ := h
    have hr__law_draw := hr
    refine ⟨_, (pss_one (ps_ret (pe_ix ix_list (pv 1) (pe_call G__law_draw hr__law_draw rfl m__law_draw k__law_draw b__law_draw .nil pass0 (pa_cons (pv 0) (pa_cons (pe_callB call_len_seq rfl T.n_len PySem.boot_len (pa_cons (pv 1) pa_nil)) pa_nil))) (fun _ _ => rfl)))), ?_⟩
    refine ⟨_, rfl, _, rfl, _, rfl, l, xs, rfl, .inl (SqL.of hL), p, _, rfl, hp, by omega, by omega, fun d H' hd mv => ?_⟩
    have hd' : d < xs.length := by omega
    exact ⟨l, xs, d, xs[d], rfl, rfl, SqL.of (mv.kp _ _ npl hL), atI_nat (List.getElem?_eq_getElem hd'), k _ H' (List.getElem_mem hd') mv⟩
theorem ok_text {f : Addr} {fd : FuncData} (F : Fun K "_law_text" "_law_text" st__law_text f fd) (T : Bl mg) (D1 : Df P w K mg base 1 "_law_draw" ["_law_pot_here", "_law_many"] spDraw) (D2 : Df P w K mg base 2 "_law_pick" ["_law_pot_here", "_law_some"] spPick) : FnOk P w K mg base CX0 3 f fd ["_law_pot_here", "_law_signs", "_law_most"] spText := by
  obtain ⟨f1, fd1, G__law_draw, m__law_draw, k__law_draw, b__law_draw⟩ := D1
  obtain ⟨f2, fd2, G__law_pick, m__law_pick, k__law_pick, b__law_pick⟩ := D2
  refine F.ok sc__law_text (fun vs H Q E h => ?_) (fun cdv A outer s H vs Q E hr h => ?_)
  · obtain ⟨p, a, m, rfl, _⟩ := h
    rfl
  · obtain ⟨p, a, m, rfl, hp, h0, hl, hm0, hm1, k⟩ := h
    have hr__law_pick := hr
    have hr__law_draw := hr.mono (show 1 ≤ 2 by decide)
    refine ⟨_, (pss_one (ps_ret (pe_joinT pe_str (pe_lc (own := [("_law_turn", 3)]) (g := gName 3) rfl sc__law_text.nd (pi_range1 rfl T.n_range (pa_cons (pe_call G__law_draw hr__law_draw rfl m__law_draw k__law_draw b__law_draw .nil pass0 (pa_cons (pv 0) (pa_cons (pe_op op_add (pv 2) pe_int) pa_nil))) pa_nil)) (blkOk_by (own := [("_law_turn", 3)]) (N := ["_law_pot_here", "_law_signs", "_law_most", "_law_turn"]) (sc := defScope st__law_text) (by decide +kernel)) (fun _ _ _ _ _ => (pg_name (i := 3) sc__law_text.nd rfl (Or.inl rfl))) (fun _ _ _ _ _ => pts_nil) (fun _ _ _ _ _ => (pe_call G__law_pick hr__law_pick rfl m__law_pick k__law_pick b__law_pick .nil pass0 (pa_cons (pv 0) (pa_cons (pv 1) pa_nil)))))))), ?_⟩
    refine ⟨⟨_, rfl⟩, _, rfl, _, rfl, _, _, rfl, rfl, p, _, rfl, hp, by omega, by omega, fun d H1 hd mv => ?_⟩
    refine ⟨(d : Int), rfl, by omega, by omega, fun D hD => lc_range (lo := 0) (n := (d : Int).toNat) (fun i H2 => ∃ t : Tx, t.length = i ∧ (∀ c ∈ t, c ∈ a) ∧ H2 D = some (.lst ((t.map fun c => [c]).map tx)) ∧ Mv p H H2) ?_ ?_ ?_⟩
    · exact ⟨[], rfl, fun c hc => (nomatch hc), upd_same, mv.new hD⟩
    · rintro i H2 hi ⟨t, ht, hta, hD2, mv2⟩
      refine ⟨rfl, turn_yes ?_⟩
      have nDp : D ≠ p := mv.pot.ne hD
      refine ⟨_, rfl, _, rfl, p, a, rfl, mv2.pot, h0, hl, fun c H3 hc mv3 => ?_⟩
      refine ⟨_, mv3.kp _ _ nDp hD2, by rw [List.length_map, List.length_map]; exact sz_lt (by omega), t ++ [c], by rw [List.length_append, ht]; rfl, ?_, ?_, ?_⟩
      · intro x hx
        rcases List.mem_append.mp hx with z | z
        · exact hta x z
        · rw [List.mem_singleton.mp z]
          exact hc
      · rw [upd_same, List.map_append, List.map_append]
        rfl
      · refine ⟨let ⟨x, y, h1, h2⟩ := mv3.pot; ⟨x, y, by rw [upd_ne nDp.symm]; exact h1, h2⟩, fun b o nb e => ?_⟩
        have := (mv2.trans mv3).kp b o nb e
        have hbD : b ≠ D := by
          intro z
          rw [z] at e nb
          rw [mv.fresh hD] at e
          cases e
        rw [upd_ne hbD]
        exact this
    · rintro H2 ⟨t, ht, hta, hD2, mv2⟩
      have efl : (t.map fun c => [c]).flatten = t := by
        clear ht hta hD2
        induction t with
        | nil => rfl
        | cons c t ih => rw [List.map_cons, List.flatten_cons, ih]; rfl
      refine ⟨D, t.map fun c => [c], str_nil, rfl, SqL.of hD2, by rw [efl]; omega, ?_⟩
      rw [efl]
      exact k t H2 hta (by omega) mv2
end
end LW
end
section
set_option maxRecDepth 100000
set_option maxHeartbeats 4000000
namespace LW
open PySem L2 RX WM Evl
abbrev st_rising : Stmt := top 13
theorem sc_rising : FnScope ["text", "sign"] ["text"] (defScope st_rising) := ⟨rfl, rfl, rfl, by decide +kernel, rfl, by decide +kernel, by decide +kernel⟩
abbrev st_Word_begin : Stmt := inClass (top 17) 3
theorem sc_Word_begin : FnScope ["self"] ["self"] (defScope st_Word_begin) := ⟨rfl, rfl, rfl, by decide +kernel, rfl, by decide +kernel, by decide +kernel⟩
abbrev st_Word_lap : Stmt := inClass (top 17) 4
theorem sc_Word_lap : FnScope ["self"] ["self"] (defScope st_Word_lap) := ⟨rfl, rfl, rfl, by decide +kernel, rfl, by decide +kernel, by decide +kernel⟩
abbrev st_Word___contains__ : Stmt := inClass (top 17) 8
theorem sc_Word___contains__ : FnScope ["self", "value"] ["self", "value"] (defScope st_Word___contains__) := ⟨rfl, rfl, rfl, by decide +kernel, rfl, by decide +kernel, by decide +kernel⟩
abbrev st_Word_coming : Stmt := inClass (top 17) 14
theorem sc_Word_coming : FnScope ["self"] ["self"] (defScope st_Word_coming) := ⟨rfl, rfl, rfl, by decide +kernel, rfl, by decide +kernel, by decide +kernel⟩
abbrev st_Word_again : Stmt := inClass (top 17) 15
theorem sc_Word_again : FnScope ["self"] ["self"] (defScope st_Word_again) := ⟨rfl, rfl, rfl, by decide +kernel, rfl, by decide +kernel, by decide +kernel⟩
def ris (a : Tx) : Tx := small.filter fun c => decide (c ∈ a)
theorem flat1 (l : Tx) : (l.map fun c => [c]).flatten = l := by
  induction l with
  | nil => rfl
  | cons a l ih => rw [List.map_cons, List.flatten_cons, ih]; rfl
def spRising : Sp := fun vs H Q _ => ∃ a : Tx, vs = [tx a] ∧ ∀ H', Ex H H' → Q (tx (ris a)) H'
def spComing (C : Addr) : Sp := fun vs H Q _ => ∃ p B L, vs = [.ref p] ∧ WAt C H p B L ∧ WOk B L ∧ ∀ H', Ex H H' → Q (tx (ris (B ++ L))) H'
def spAgain (C : Addr) : Sp := fun vs H Q _ => ∃ p B L, vs = [.ref p] ∧ WAt C H p B L ∧ ∀ H', Ex H H' → Q (tx (ris L)) H'
/-- x in a word of the letters B, L: the answer r -/
def Has (K : PySem.W.Frag) (H : Hp) (B L : Tx) (x : V) (r : Bool) : Prop :=
  (∃ c, x = tx [c] ∧ r = decide (c ∈ B ++ L)) ∨ (∃ t : Tx, x = tx t ∧ t.length ≠ 1 ∧ t.length ≤ 100000 ∧ r = false) ∨ ∃ t, TyX K H x (.type t) ∧ kitB t "str" = some false ∧ r = false
def spHas (C : Addr) (K : PySem.W.Frag) : Sp := fun vs H Q _ => ∃ p x B L r, vs = [.ref p, x] ∧ WAt C H p B L ∧ WOk B L ∧ Has K H B L x r ∧ Q (.bl r) H
def spBegin (C : Addr) : Sp := fun vs H Q _ => ∃ p B L, vs = [.ref p] ∧ WAt C H p B L ∧ Q (tx B) H
def spLap (C : Addr) : Sp := fun vs H Q _ => ∃ p B L, vs = [.ref p] ∧ WAt C H p B L ∧ Q (tx L) H
section
variable {P : Program} {w : World} {K : PySem.W.Frag} {mg : Str → Option Value} {base : Heap} {C_Word : Addr}
theorem ok_rising {f : Addr} {fd : FuncData} (F : Fun K "rising" "rising" st_rising f fd) (T : Bl mg) : FnOk P w K mg base CX0 1 f fd ["text"] spRising := by
  obtain ⟨tk, m_SMALL⟩ := T.small
  refine F.ok sc_rising (fun vs H Q E h => ?_) (fun cdv A outer s H vs Q E hr h => ?_)
  · obtain ⟨a, rfl, _⟩ := h
    rfl
  · obtain ⟨a, rfl, k⟩ := h
    refine ⟨_, (pss_one (ps_ret (pe_joinT pe_str (pe_lc (own := [("sign", 1)]) (g := gName 1) rfl sc_rising.nd (pi_str (pe_glob (v := tx small) rfl m_SMALL ⟨_, rfl⟩)) (blkOk_by (own := [("sign", 1)]) (N := ["text", "sign"]) (sc := defScope st_rising) (by decide +kernel)) (fun _ _ _ _ _ => (pg_name (i := 1) sc_rising.nd rfl (Or.inl rfl))) (fun _ _ _ _ _ => (pts_one (pt_cmpR op_inT (pv 1) (pv 0) rfl))) (fun _ _ _ _ _ => (pv 1)))))), ?_⟩
    refine ⟨⟨_, rfl⟩, _, rfl, fun D hD => lc_it walk_str (fun i H1 => i ≤ 26 ∧ H1 = upd H D (.lst (((small.take i).filter fun c => decide (c ∈ a)).map fun c => tx [c]))) ⟨Nat.zero_le _, rfl⟩ (fun _ _ _ _ => trivial) ?_ ?_⟩
    · rintro i x H1 H2 hi ⟨h1, rfl⟩ ⟨rfl, c, hc, rfl⟩
      have hc' : small[i]? = some c := by simpa [stx] using hc
      have hi' : i < small.length := (List.getElem?_eq_some_iff.mp hc').1
      have hi26 : i < 26 := hi'
      have ht : small.take (i + 1) = small.take i ++ [c] := by
        rw [List.take_succ_eq_append_getElem hi']
        congr 2
        exact (List.getElem?_eq_some_iff.mp hc').2
      refine ⟨rfl, ?_⟩
      by_cases hm : c ∈ a
      · refine ⟨_, rfl, _, rfl, c, a, rfl, rfl, true, bl_t hm, iteT ?_⟩
        refine ⟨_, rfl, _, upd_same, by rw [List.length_map]; exact sz_lt (Nat.lt_of_le_of_lt (Nat.le_trans (List.length_filter_le _ _) (by rw [List.length_take]; exact Nat.min_le_left _ _)) (by omega)), by omega, ?_⟩
        rw [upd_upd, ht, List.filter_append, List.map_append]
        simp [hm]
        rfl
      · refine ⟨_, rfl, _, rfl, c, a, rfl, rfl, false, bl_f hm, iteF ⟨by omega, ?_⟩⟩
        rw [ht, List.filter_append]
        simp [hm]
    · rintro H1 ⟨_, rfl⟩
      refine ⟨D, (ris a).map fun c => [c], str_nil, rfl, by rw [List.map_map]; exact SqL.of upd_same, ?_, ?_⟩
      · rw [flat1]
        exact Nat.le_trans (List.length_filter_le _ _) (by decide)
      · rw [flat1]
        exact k _ (Ex.new hD)
theorem ok_begin {f : Addr} {fd : FuncData} (F : Fun K "begin" "Word.begin" st_Word_begin f fd) (T : Txt K mg C_Word) : FnOk P w K mg base CX0 1 f fd ["self"] (spBegin C_Word) := by
  refine F.ok sc_Word_begin (fun vs H Q E h => ?_) (fun cdv A outer s H vs Q E hr h => ?_)
  · obtain ⟨p, B, L, rfl, _⟩ := h
    rfl
  · obtain ⟨p, B, L, rfl, ⟨dx, hp⟩, k⟩ := h
    refine ⟨_, (pss_one (ps_ret (pe_fld (pv 0) rfl))), ?_⟩
    exact ⟨_, rfl, p, C_Word, dx, _, _, rfl, hp, T.cl, T.nB, wf_begin _ _, k⟩
theorem ok_lap {f : Addr} {fd : FuncData} (F : Fun K "lap" "Word.lap" st_Word_lap f fd) (T : Txt K mg C_Word) : FnOk P w K mg base CX0 1 f fd ["self"] (spLap C_Word) := by
  refine F.ok sc_Word_lap (fun vs H Q E h => ?_) (fun cdv A outer s H vs Q E hr h => ?_)
  · obtain ⟨p, B, L, rfl, _⟩ := h
    rfl
  · obtain ⟨p, B, L, rfl, ⟨dx, hp⟩, k⟩ := h
    refine ⟨_, (pss_one (ps_ret (pe_fld (pv 0) rfl))), ?_⟩
    exact ⟨_, rfl, p, C_Word, dx, _, _, rfl, hp, T.cl, T.nL, wf_lap _ _, k⟩
theorem ok_coming {f : Addr} {fd : FuncData} (F : Fun K "coming" "Word.coming" st_Word_coming f fd) (T : Txt K mg C_Word) (D1 : Df P w K mg base 1 "rising" ["text"] spRising) : FnOk P w K mg base CX0 2 f fd ["self"] (spComing C_Word) := by
  obtain ⟨f1, fd1, G_rising, m_rising, k_rising, b_rising⟩ := D1
  refine F.ok sc_Word_coming (fun vs H Q E h => ?_) (fun cdv A outer s H vs Q E hr h => ?_)
  · obtain ⟨p, B, L, rfl, _⟩ := h
    rfl
  · obtain ⟨p, B, L, rfl, ⟨dx, hp⟩, ok, k⟩ := h
    have hr_rising := hr
    have zB := ok.bB
    have zL := ok.bL
    refine ⟨_, (pss_one (ps_ret (pe_call G_rising hr_rising rfl m_rising k_rising b_rising .nil pass0 (pa_cons (pe_op op_addT (pe_fld (pv 0) rfl) (pe_fld (pv 0) rfl)) pa_nil)))), ?_⟩
    exact ⟨_, rfl, p, C_Word, dx, _, _, rfl, hp, T.cl, T.nB, wf_begin _ _, _, rfl, p, C_Word, dx, _, _, rfl, hp, T.cl, T.nL, wf_lap _ _, B, L, rfl, rfl, sz_of (by omega), B ++ L, rfl, k⟩
theorem ok_again {f : Addr} {fd : FuncData} (F : Fun K "again" "Word.again" st_Word_again f fd) (T : Txt K mg C_Word) (D1 : Df P w K mg base 1 "rising" ["text"] spRising) : FnOk P w K mg base CX0 2 f fd ["self"] (spAgain C_Word) := by
  obtain ⟨f1, fd1, G_rising, m_rising, k_rising, b_rising⟩ := D1
  refine F.ok sc_Word_again (fun vs H Q E h => ?_) (fun cdv A outer s H vs Q E hr h => ?_)
  · obtain ⟨p, B, L, rfl, _⟩ := h
    rfl
  · obtain ⟨p, B, L, rfl, ⟨dx, hp⟩, k⟩ := h
    have hr_rising := hr
    refine ⟨_, (pss_one (ps_ret (pe_call G_rising hr_rising rfl m_rising k_rising b_rising .nil pass0 (pa_cons (pe_fld (pv 0) rfl) pa_nil)))), ?_⟩
    exact ⟨_, rfl, p, C_Word, dx, _, _, rfl, hp, T.cl, T.nL, wf_lap _ _, L, rfl, k⟩
theorem ok_has {f : Addr} {fd : FuncData} (F : Fun K "__contains__" "Word.__contains__" st_Word___contains__ f fd) (T : Txt K mg C_Word) : FnOk P w K mg base CX0 1 f fd ["self", "value"] (spHas C_Word K) := by
  refine F.ok sc_Word___contains__ (fun vs H Q E h => ?_) (fun cdv A outer s H vs Q E hr h => ?_)
  · obtain ⟨p, x, B, L, r, rfl, _⟩ := h
    rfl
  · obtain ⟨p, x, B, L, r, rfl, ⟨dx, hp⟩, ok, hx, k⟩ := h
    refine ⟨_, (pss_one (ps_ret (pe_and (pe_callB call_isi rfl T.n_isinstance (by decide +kernel) (pa_cons (pv 1) (pa_cons (pe_bltn (v := .ty "str") (u := .type "str") rfl T.n_str (by decide +kernel) rfl) pa_nil))) (pe_and (pe_cmpR op_eq (pe_callB call_lenT rfl T.n_len PySem.boot_len (pa_cons (pv 1) pa_nil)) pe_int (nomark _)) (pe_one (pe_or (pe_cmpR op_inT (pv 1) (pe_fld (pv 0) rfl) rfl) (pe_one (pe_cmpR op_inT (pv 1) (pe_fld (pv 0) rfl) rfl)))))))), ?_⟩
    rcases hx with ⟨c, rfl, rfl⟩ | ⟨t, rfl, h1, h2, rfl⟩ | ⟨t, ty, hk, rfl⟩
    · refine ⟨_, rfl, _, _, _, _, true, rfl, .ty "str", .base (.str _), kit_ty (by decide +kernel), true, rfl, iteT ?_⟩
      refine ⟨_, rfl, [c], rfl, by show 1 ≤ sizeLine; decide, rfl, true, bl_t rfl, iteT ?_⟩
      by_cases hB : c ∈ B
      · refine ⟨_, rfl, _, rfl, p, C_Word, dx, _, _, rfl, hp, T.cl, T.nB, wf_begin _ _, c, B, rfl, rfl, true, bl_t hB, iteT ?_⟩
        rw [decide_eq_true (List.mem_append_left _ hB)] at k
        exact k
      · refine ⟨_, rfl, _, rfl, p, C_Word, dx, _, _, rfl, hp, T.cl, T.nB, wf_begin _ _, c, B, rfl, rfl, false, bl_f hB, iteF ?_⟩
        refine ⟨_, rfl, _, rfl, p, C_Word, dx, _, _, rfl, hp, T.cl, T.nL, wf_lap _ _, c, L, rfl, rfl, ?_⟩
        rw [show decide (c ∈ B ++ L) = decide (c ∈ L) by rw [Bool.eq_iff_iff, decide_eq_true_eq, decide_eq_true_eq, List.mem_append]; exact ⟨fun z => z.resolve_left hB, .inr⟩] at k
        exact k
    · refine ⟨_, rfl, _, _, _, _, true, rfl, .ty "str", .base (.str _), kit_ty (by decide +kernel), true, rfl, iteT ?_⟩
      exact ⟨_, rfl, t, rfl, sz_of h2, rfl, false, bl_f (by intro z; injection z with z; omega), iteF k⟩
    · exact ⟨_, rfl, _, _, _, _, false, rfl, .ty "str", ty, kit_ty hk, false, rfl, iteF k⟩
end
end LW
end
section
set_option maxRecDepth 100000
set_option maxHeartbeats 4000000
namespace LW
open PySem L2 RX WM Evl
abbrev st__law_sign : Stmt := top 23
theorem sc__law_sign : FnScope ["_law_begin", "_law_lap", "_law_place"] ["_law_begin", "_law_lap", "_law_place"] (defScope st__law_sign) := ⟨rfl, rfl, rfl, by decide +kernel, rfl, by decide +kernel, by decide +kernel⟩
abbrev st__law_start : Stmt := top 24
theorem sc__law_start : FnScope ["_law_begin", "_law_lap", "_law_size", "_law_place"] ["_law_begin", "_law_lap", "_law_size"] (defScope st__law_start) := ⟨rfl, rfl, rfl, by decide +kernel, rfl, by decide +kernel, by decide +kernel⟩
abbrev st__law_is : Stmt := top 25
theorem sc__law_is : FnScope ["_law_word", "_law_begin", "_law_lap", "_law_far"] ["_law_word", "_law_begin", "_law_lap"] (defScope st__law_is) := ⟨rfl, rfl, rfl, by decide +kernel, rfl, by decide +kernel, by decide +kernel⟩
abbrev st__law_rest : Stmt := top 26
theorem sc__law_rest : FnScope ["_law_begin", "_law_lap", "_law_number", "_law_cut"] ["_law_begin", "_law_lap", "_law_number"] (defScope st__law_rest) := ⟨rfl, rfl, rfl, by decide +kernel, rfl, by decide +kernel, by decide +kernel⟩
abbrev st__law_numbers : Stmt := top 27
theorem sc__law_numbers : FnScope ["_law_pot_here", "_law_found", "_law_turn"] ["_law_pot_here"] (defScope st__law_numbers) := ⟨rfl, rfl, rfl, by decide +kernel, rfl, by decide +kernel, by decide +kernel⟩
structure T13 (K : PySem.W.Frag) (mg : Str → Option Value) (C fE fA fG fP fH : Addr) : Prop extends TxtE K mg C fE where
  sNe : PySem.W.findIn K (.ref C) "__ne__" = some (some (.builtin "object.__ne__"))
  sOb : PySem.W.subIn K (.ref C) (.type "object") = some true
  sF : PySem.W.selfFirst K C = true
  nAdd : PySem.W.findIn K (.ref C) (PySem.dunder "add") = some none
  sRadd : PySem.W.findIn K (.ref C) (dunderR "add") = some (some (.ref fA))
  fRadd : PySem.W.isFn K (.ref fA) = true
  sGet : PySem.W.findIn K (.ref C) "__getitem__" = some (some (.ref fG))
  fGet : PySem.W.isFn K (.ref fG) = true
  fnGet : PySem.W.fnIn K fG = true
  sRepr : PySem.W.findIn K (.ref C) "__repr__" = some (some (.ref fP))
  fRepr : PySem.W.isFn K (.ref fP) = true
  sHas : PySem.W.findIn K (.ref C) "__contains__" = some (some (.ref fH))
  fHas : PySem.W.isFn K (.ref fH) = true
  n_list : mg "list" = none
  n_set : mg "set" = none
  n_sorted : mg "sorted" = none
  n_any : mg "any" = none
/-- a method of the class at C, with its promise; called by its place or by its one name -/
def Dk (P : Program) (w : World) (K : PySem.W.Frag) (mg : Str → Option Value) (base : Heap) (C : Addr) (k : Nat) (x : Str) (ps : List Str) (y : Str) (sp : Sp) : Prop :=
  ∃ f fd, FnOk P w K mg base CX0 k f fd ps sp ∧ Meth K C x f ∧ Binds K fd ps [] ∧ KBn K fd ps 1 [y] (fun us ws => us ++ ws) (fun us ws => us ++ ws)
/-- the class Word, with all its methods' promises -/
structure W13 (P : Program) (w : World) (K : PySem.W.Frag) (mg : Str → Option Value) (base : Heap) (C fI fE fA fG fP fH pB gB pL gL : Addr) (fdI fdE fdA fdG fdP fdH fdB fdL : FuncData) : Prop extends T13 K mg C fE fA fG fP fH where
  mkW : Mk K C fI
  gI : FnOk P w K mg base CX0 3 fI fdI ["self", "begin", "lap"] (spInit C)
  bI : Binds K fdI ["self", "begin", "lap"] []
  gE : FnOk P w K mg base CX0 1 fE fdE ["self", "other"] (spEq C)
  bE : Binds K fdE ["self", "other"] []
  gA : FnOk P w K mg base CX0 5 fA fdA ["self", "text"] (spRadd C)
  bA : Binds K fdA ["self", "text"] []
  gG : FnOk P w K mg base CX0 4 fG fdG ["self", "number"] (spLetter C)
  bG : Binds K fdG ["self", "number"] []
  gP : FnOk P w K mg base CX0 1 fP fdP ["self"] (spRepr C)
  bP : Binds K fdP ["self"] []
  gH : FnOk P w K mg base CX0 1 fH fdH ["self", "value"] (spHas C K)
  bH : Binds K fdH ["self", "value"] []
  p_begin : PropOf K C "begin" pB gB
  g_begin : FnOk P w K mg base CX0 1 gB fdB ["self"] (spBegin C)
  b_begin : Binds K fdB ["self"] []
  p_lap : PropOf K C "lap" pL gL
  g_lap : FnOk P w K mg base CX0 1 gL fdL ["self"] (spLap C)
  b_lap : Binds K fdL ["self"] []
  first : Dk P w K mg base C 4 "first" ["self", "number"] "number" (spFirst C)
  behind : Dk P w K mg base C 5 "behind" ["self", "number"] "number" (spBehind C)
  coming : Dm P w K mg base C 2 "coming" ["self"] (spComing C)
  again : Dm P w K mg base C 2 "again" ["self"] (spAgain C)
/-- the tuple (begin, lap) stands at u -/
def TAt (H : Hp) (u : Addr) (b l : Tx) : Prop := H u = some (.tup [tx b, tx l])
/-- a begin and a lap that may be -/
structure GP (b l : Tx) : Prop where
  pos : 0 < l.length
  bb : b.length ≤ 1000
  bl : l.length ≤ 1000
  lb : Lets b
  ll : Lets l
theorem GP.wok {b l : Tx} (g : GP b l) : WOk b l := ⟨g.pos, by have := g.bb; omega, by have := g.bl; omega, g.lb, g.ll⟩
theorem two : (2 : Nat) ≤ sizeLine := by decide
theorem lets_nil : Lets [] := fun c hc => nomatch hc
theorem noF (B L : Tx) : (wf B L).lookup ("first" : Str) = none := wf_no (by decide +kernel) (by decide +kernel)
theorem noB (B L : Tx) : (wf B L).lookup ("behind" : Str) = none := wf_no (by decide +kernel) (by decide +kernel)
theorem Mv.mut {p : Addr} {H H1 : Hp} {D : Addr} {o : HO} (mv : Mv p H H1) (hD : H D = none) (n : D ≠ p) : Mv p H (upd H1 D o) :=
  ⟨let ⟨x, y, h, r⟩ := mv.pot; ⟨x, y, by rw [upd_ne n.symm]; exact h, r⟩, fun a u na e => by rw [upd_ne (ne_of_none e hD)]; exact mv.kp a u na e⟩
def spSign : Sp := fun vs H Q _ => ∃ (n : Int) (b l : Tx), vs = [tx b, tx l, .int n] ∧ 0 ≤ n ∧ 0 < l.length ∧ b.length ≤ 100000 ∧ l.length ≤ 100000 ∧ Q (tx [om b l n.toNat]) H
def spStart : Sp := fun vs H Q _ => ∃ (n : Int) (b l : Tx), vs = [tx b, tx l, .int n] ∧ 0 ≤ n ∧ n ≤ 50000 ∧ 0 < l.length ∧ b.length ≤ 100000 ∧ l.length ≤ 100000 ∧ ∀ H', Ex H H' → Q (tx ((List.range n.toNat).map (om b l))) H'
def spIs (C : Addr) : Sp := fun vs H Q _ => ∃ (p : Addr) (b l B L : Tx), vs = [.ref p, tx b, tx l] ∧ WAt C H p B L ∧ WOk B L ∧ (∀ n, om B L n = om b l n) ∧ 0 < l.length ∧ b.length + l.length + B.length + L.length ≤ 7000 ∧ ∀ H', Ex H H' → Q (.bl true) H'
def spRest : Sp := fun vs H Q _ => ∃ (n : Int) (b l : Tx), vs = [tx b, tx l, .int n] ∧ 0 ≤ n ∧ GP b l ∧ ∀ u b2 l2, H u = none → GP b2 l2 → b2.length ≤ b.length → l2.length = l.length → (∀ k, om b2 l2 k = om b l (k + n.toNat)) → Q (.ref u) (upd H u (.tup [tx b2, tx l2]))
def spNums : Sp := fun vs H Q _ => ∃ (p : Addr), vs = [.ref p] ∧ PotAt H p ∧ ∀ D (ns : List Int) H', H D = none → Mv p H H' → H' D = some (.lst (ns.map V.int)) → (∀ n ∈ ns, 0 ≤ n) → Q (.ref D) H'
section
variable {P : Program} {w : World} {K : PySem.W.Frag} {mg : Str → Option Value} {base : Heap} {C_Word : Addr}
theorem ok_sign {f : Addr} {fd : FuncData} (F : Fun K "_law_sign" "_law_sign" st__law_sign f fd) (T : Bl mg) : FnOk P w K mg base CX0 1 f fd ["_law_begin", "_law_lap", "_law_place"] spSign := by
  refine F.ok sc__law_sign (fun vs H Q E h => ?_) (fun cdv A outer s H vs Q E hr h => ?_)
  · obtain ⟨n, b, l, rfl, _⟩ := h
    rfl
  · obtain ⟨n, b, l, rfl, hn, h0, hb, hl, k⟩ := h
    have zb : b.length ≤ sizeLine := sz_of hb
    have zl : l.length ≤ sizeLine := sz_of hl
    refine ⟨_, (pss_cons (ps_if (pt_cmpR op_lt (pv 2) (pe_callB call_lenT rfl T.n_len PySem.boot_len (pa_cons (pv 0) pa_nil)) (nomark _)) (pss_one (ps_ret (pe_ix ix_T (pv 0) (pv 2) (fun _ _ => rfl)))) pss_nil)
      (pss_one (ps_ret (pe_ix ix_T (pv 1) (pe_op op_mod (pe_callTy call_int1 rfl T.n_int (by decide +kernel) (pa_cons (pe_op op_sub (pv 2) (pe_callB call_lenT rfl T.n_len PySem.boot_len (pa_cons (pv 0) pa_nil))) pa_nil)) (pe_callB call_lenT rfl T.n_len PySem.boot_len (pa_cons (pv 1) pa_nil))) (fun _ _ => rfl))))), ?_⟩
    by_cases hlt : n < (b.length : Int)
    · refine ⟨_, rfl, _, rfl, b, rfl, zb, _, _, rfl, rfl, true, bl_t hlt, iteT ?_⟩
      refine ⟨_, rfl, _, rfl, b, n.toNat, _, rfl, by congr 1; omega, zb, get_of (by omega), ?_⟩
      rw [om_lt (by omega)] at k
      exact k
    · refine ⟨_, rfl, _, rfl, b, rfl, zb, _, _, rfl, rfl, false, bl_f hlt, iteF ?_⟩
      have em : ((n - (b.length : Int)) % (l.length : Int)) = (((n.toNat - b.length) % l.length : Nat) : Int) := by
        rw [Int.natCast_emod]
        congr 1
        omega
      refine ⟨_, rfl, _, rfl, _, rfl, b, rfl, zb, _, _, rfl, rfl, .inl ⟨_, rfl, _, rfl, l, rfl, zl, _, _, rfl, rfl, by show (0 : Int) < (_ : Int); omega, l, (n.toNat - b.length) % l.length, _, rfl, by show V.int _ = V.int _; rw [em], zl, get_of (Nat.mod_lt _ h0), ?_⟩⟩
      rw [om_ge (by omega)] at k
      exact k
theorem ok_start {f : Addr} {fd : FuncData} (F : Fun K "_law_start" "_law_start" st__law_start f fd) (T : Bl mg) (D1 : Df P w K mg base 1 "_law_sign" ["_law_begin", "_law_lap", "_law_place"] spSign) : FnOk P w K mg base CX0 2 f fd ["_law_begin", "_law_lap", "_law_size"] spStart := by
  obtain ⟨f1, fd1, G__law_sign, m__law_sign, k__law_sign, b__law_sign⟩ := D1
  refine F.ok sc__law_start (fun vs H Q E h => ?_) (fun cdv A outer s H vs Q E hr h => ?_)
  · obtain ⟨n, b, l, rfl, _⟩ := h
    rfl
  · obtain ⟨n, b, l, rfl, hn, hn5, h0, hb, hl, k⟩ := h
    have hr__law_sign := hr
    refine ⟨_, (pss_one (ps_ret (pe_joinT pe_str (pe_lc (own := [("_law_place", 3)]) (g := gName 3) rfl sc__law_start.nd (pi_range1 rfl T.n_range (pa_cons (pv 2) pa_nil)) (blkOk_by (own := [("_law_place", 3)]) (N := ["_law_begin", "_law_lap", "_law_size", "_law_place"]) (sc := defScope st__law_start) (by decide +kernel)) (fun _ _ _ _ _ => (pg_name (i := 3) sc__law_start.nd rfl (Or.inl rfl))) (fun _ _ _ _ _ => pts_nil) (fun _ _ _ _ _ => (pe_call G__law_sign hr__law_sign rfl m__law_sign k__law_sign b__law_sign .nil pass0 (pa_cons (pv 0) (pa_cons (pv 1) (pa_cons (pv 3) pa_nil))))))))), ?_⟩
    refine ⟨⟨_, rfl⟩, _, rfl, n, rfl, by omega, by omega, fun D hD => lc_range (lo := 0) (n := n.toNat) (fun i H1 => i ≤ n.toNat ∧ H1 = upd H D (.lst ((List.range i).map fun j => tx [om b l j]))) ⟨Nat.zero_le _, rfl⟩ ?_ ?_⟩
    · rintro i H1 hi ⟨_, rfl⟩
      refine ⟨rfl, turn_yes ?_⟩
      refine ⟨_, rfl, _, rfl, _, rfl, (i : Int), b, l, by rw [show (0 : Int) + (i : Int) = (i : Int) by omega]; rfl, by omega, h0, hb, hl, ?_⟩
      refine ⟨_, upd_same, by rw [List.length_map, List.length_range]; exact sz_lt (by omega), by omega, ?_⟩
      rw [upd_upd, List.range_succ, List.map_append, Int.toNat_natCast]
      rfl
    · rintro H1 ⟨_, rfl⟩
      have efl : ((List.range n.toNat).map fun j => [om b l j]).flatten = (List.range n.toNat).map (om b l) := by
        have := flat1 ((List.range n.toNat).map (om b l))
        rw [List.map_map] at this
        exact this
      refine ⟨D, (List.range n.toNat).map fun j => [om b l j], str_nil, rfl, by rw [List.map_map]; exact SqL.of upd_same, by rw [efl, List.length_map, List.length_range]; omega, ?_⟩
      rw [efl]
      exact k _ (Ex.new hD)
theorem ok_is {f fI fE fA fG fP fH pB gB pL gL : Addr} {fd fdI fdE fdA fdG fdP fdH fdB fdL : FuncData} (F : Fun K "_law_is" "_law_is" st__law_is f fd) (T : W13 P w K mg base C_Word fI fE fA fG fP fH pB gB pL gL fdI fdE fdA fdG fdP fdH fdB fdL)
    (D1 : Df P w K mg base 2 "_law_start" ["_law_begin", "_law_lap", "_law_size"] spStart) : FnOk P w K mg base CX0 5 f fd ["_law_word", "_law_begin", "_law_lap"] (spIs C_Word) := by
  obtain ⟨f1, fd1, G__law_start, m__law_start, k__law_start, b__law_start⟩ := D1
  obtain ⟨f4, fd4, G_first, M_first, b_first, kb_first⟩ := T.first
  refine F.ok sc__law_is (fun vs H Q E h => ?_) (fun cdv A outer s H vs Q E hr h => ?_)
  · obtain ⟨p, b, l, B, L, rfl, _⟩ := h
    rfl
  · obtain ⟨p, b, l, B, L, rfl, ⟨dx, hp⟩, ok, eq, h0, hz, k⟩ := h
    have hr__law_start := hr.mono (show 2 ≤ 4 by decide)
    have hr_prop := hr.mono (show 2 ≤ 4 by decide)
    have hr_first := hr
    refine ⟨_, (pss_cons (ps_set (i := 3) sc__law_is.nd rfl (Or.inl rfl) (pe_op op_add (pe_op op_add (pe_op op_add (pe_callB call_lenT rfl T.n_len PySem.boot_len (pa_cons (pe_prop (pv 0) T.cl T.p_begin T.g_begin hr_prop T.b_begin .nil pass0 rfl) pa_nil)) (pe_callB call_lenT rfl T.n_len PySem.boot_len (pa_cons (pe_prop (pv 0) T.cl T.p_lap T.g_lap hr_prop T.b_lap .nil pass0 rfl) pa_nil))) (pe_callB call_lenT rfl T.n_len PySem.boot_len (pa_cons (pv 1) pa_nil))) (pe_callB call_lenT rfl T.n_len PySem.boot_len (pa_cons (pv 2) pa_nil))))
      (pss_one (ps_ret (pe_and (pe_cmpR op_eqT (pe_meth (pv 0) T.cl M_first G_first hr_first b_first .nil pass0 (pa_cons (pv 3) pa_nil)) (pe_call G__law_start hr__law_start rfl m__law_start k__law_start b__law_start .nil pass0 (pa_cons (pv 1) (pa_cons (pv 2) (pa_cons (pv 3) pa_nil)))) (nomark _)) (pe_one (pe_cmpR op_eqT (pe_meth (pv 0) T.cl M_first G_first hr_first b_first .nil pass0 (pa_cons (pe_op op_add (pv 3) pe_int) pa_nil)) (pe_call G__law_start hr__law_start rfl m__law_start k__law_start b__law_start .nil pass0 (pa_cons (pv 1) (pa_cons (pv 2) (pa_cons (pe_op op_add (pv 3) pe_int) pa_nil)))) (nomark _))))))), ?_⟩
    refine ⟨_, rfl, p, dx, _, rfl, hp, p, B, L, rfl, ⟨dx, hp⟩, B, rfl, sz_of (by omega), _, rfl, p, dx, _, rfl, hp, p, B, L, rfl, ⟨dx, hp⟩, L, rfl, sz_of (by omega), _, _, rfl, rfl, _, rfl, b, rfl, sz_of (by omega), _, _, rfl, rfl, _, rfl, l, rfl, sz_of (by omega), _, _, rfl, rfl, ?_⟩
    refine ⟨_, rfl, p, dx, _, rfl, hp, noF _ _, _, rfl, p, B, L, _, rfl, by omega, by omega, ⟨dx, hp⟩, ok, fun H1 e1 => ?_⟩
    refine ⟨_, rfl, _, rfl, _, rfl, _, b, l, rfl, by omega, by omega, h0, by omega, by omega, fun H2 e2 => ⟨_, _, rfl, rfl, true, bl_t (List.map_congr_left fun n _ => eq n), iteT ?_⟩⟩
    have hp2 := e2 _ _ (e1 _ _ hp)
    refine ⟨_, rfl, p, dx, _, rfl, hp2, noF _ _, _, rfl, _, _, rfl, rfl, p, B, L, _, rfl, by omega, by omega, ⟨dx, hp2⟩, ok, fun H3 e3 => ?_⟩
    refine ⟨_, rfl, _, rfl, _, rfl, _, _, rfl, rfl, _, b, l, rfl, by omega, by omega, h0, by omega, by omega, fun H4 e4 => ⟨_, _, rfl, rfl, ?_⟩⟩
    rw [decide_eq_true (List.map_congr_left fun n _ => eq n)]
    exact k _ (e1.trans (e2.trans (e3.trans e4)))
end
end LW
end
section
set_option maxRecDepth 100000
set_option maxHeartbeats 4000000
namespace LW
open PySem L2 RX WM Evl
theorem lets_take {a : Tx} (h : Lets a) (n : Nat) : Lets (a.take n) := fun c hc => h c (List.mem_of_mem_take hc)
theorem lets_drop {a : Tx} (h : Lets a) (n : Nat) : Lets (a.drop n) := fun c hc => h c (List.mem_of_mem_drop hc)
theorem lets_app {a b : Tx} (h : Lets a) (h' : Lets b) : Lets (a ++ b) := fun c hc => (List.mem_append.mp hc).elim (h c) (h' c)
section
variable {P : Program} {w : World} {K : PySem.W.Frag} {mg : Str → Option Value} {base : Heap} {C_Word : Addr}
theorem ok_rest {f : Addr} {fd : FuncData} (F : Fun K "_law_rest" "_law_rest" st__law_rest f fd) (T : Bl mg) : FnOk P w K mg base CX0 1 f fd ["_law_begin", "_law_lap", "_law_number"] spRest := by
  refine F.ok sc__law_rest (fun vs H Q E h => ?_) (fun cdv A outer s H vs Q E hr h => ?_)
  · obtain ⟨n, b, l, rfl, _⟩ := h
    rfl
  · obtain ⟨n, b, l, rfl, hn, g, k⟩ := h
    obtain ⟨h0, hb, hl, lb, ll⟩ := id g
    have zb : b.length ≤ sizeLine := sz_of (by omega)
    have zl : l.length ≤ sizeLine := sz_of (by omega)
    refine ⟨_, (pss_cons (ps_if (pt_cmpR op_le (pv 2) (pe_callB call_lenT rfl T.n_len PySem.boot_len (pa_cons (pv 0) pa_nil)) (nomark _)) (pss_one (ps_ret (pe_tup (pa_cons (pe_slice sl_T (pv 0) (po_some (pv 2)) po_none) (pa_cons (pv 1) pa_nil))))) pss_nil)
      (pss_cons (ps_set (i := 3) sc__law_rest.nd rfl (Or.inl rfl) (pe_op op_mod (pe_callTy call_int1 rfl T.n_int (by decide +kernel) (pa_cons (pe_op op_sub (pv 2) (pe_callB call_lenT rfl T.n_len PySem.boot_len (pa_cons (pv 0) pa_nil))) pa_nil)) (pe_callB call_lenT rfl T.n_len PySem.boot_len (pa_cons (pv 1) pa_nil))))
      (pss_one (ps_ret (pe_tup (pa_cons pe_str (pa_cons (pe_op op_addT (pe_slice sl_T (pv 1) (po_some (pv 3)) po_none) (pe_slice sl_T (pv 1) po_none (po_some (pv 3)))) pa_nil))))))), ?_⟩
    by_cases hle : n ≤ (b.length : Int)
    · refine ⟨_, rfl, _, rfl, b, rfl, zb, _, _, rfl, rfl, true, bl_t hle, iteT ?_⟩
      refine ⟨_, rfl, _, rfl, _, rfl, b, rfl, zb, _, rfl, two, fun u hu => ?_⟩
      have ec : cutT b (some n) none = b.drop n.toNat := by
        have := cutT_from b n.toNat
        rw [show ((n.toNat : Nat) : Int) = n by omega] at this
        exact this
      rw [ec]
      exact k u _ _ hu ⟨h0, by rw [List.length_drop]; omega, hl, lets_drop lb _, ll⟩ (by rw [List.length_drop]; omega) rfl fun j => om_drop (by omega) j
    · refine ⟨_, rfl, _, rfl, b, rfl, zb, _, _, rfl, rfl, false, bl_f hle, iteF ?_⟩
      have em : ((n - (b.length : Int)) % (l.length : Int)) = (((n.toNat - b.length) % l.length : Nat) : Int) := by
        rw [Int.natCast_emod]
        congr 1
        omega
      refine ⟨_, rfl, _, rfl, b, rfl, zb, _, _, rfl, rfl, .inl ⟨_, rfl, _, rfl, l, rfl, zl, _, _, rfl, rfl, by omega, ?_⟩⟩
      refine ⟨_, rfl, _, rfl, _, rfl, l, rfl, zl, _, rfl, _, rfl, _, rfl, l, rfl, zl, _, _, rfl, rfl, cut_sum _ _ _ (by omega), two, fun u hu => ?_⟩
      have hcut : (n.toNat - b.length) % l.length < l.length := Nat.mod_lt _ h0
      have z := k u [] (l.drop ((n.toNat - b.length) % l.length) ++ l.take ((n.toNat - b.length) % l.length)) hu ⟨by rw [rot_len hcut]; exact h0, by show 0 ≤ 1000; decide, by rw [rot_len hcut]; exact hl, lets_nil, lets_app (lets_drop ll _) (lets_take ll _)⟩ (Nat.zero_le _) (rot_len hcut) fun j => om_rot h0 (by omega) j
      rw [← cutT_from, ← cutT_to, ← em, ← str_nil] at z
      exact z
theorem ok_numbers {f fE fA fG fP fH : Addr} {fd : FuncData} (F : Fun K "_law_numbers" "_law_numbers" st__law_numbers f fd) (T : T13 K mg C_Word fE fA fG fP fH) (D1 : Df P w K mg base 1 "_law_draw" ["_law_pot_here", "_law_many"] spDraw) : FnOk P w K mg base CX0 2 f fd ["_law_pot_here"] spNums := by
  obtain ⟨f1, fd1, G__law_draw, m__law_draw, k__law_draw, b__law_draw⟩ := D1
  refine F.ok sc__law_numbers (fun vs H Q E h => ?_) (fun cdv A outer s H vs Q E hr h => ?_)
  · obtain ⟨p, rfl, _⟩ := h
    rfl
  · obtain ⟨p, rfl, hp, k⟩ := h
    have hr__law_draw := hr
    refine ⟨_, (pss_cons (ps_set (i := 1) sc__law_numbers.nd rfl (Or.inl rfl) (pe_op op_cat (pe_listRg rfl rfl T.n_list (prg_1 rfl T.n_range pe_int)) (pe_lst (pa_cons (pe_op op_pow pe_int pe_int) (pa_cons (pe_op op_add (pe_op op_pow pe_int pe_int) pe_int) (pa_cons pe_int (pa_cons pe_int pa_nil)))))))
      (pss_cons (ps_for PassesOwn.never rfl (pi_range1 rfl T.n_range (pa_cons pe_int pa_nil)) (pg_name (i := 2) sc__law_numbers.nd rfl (Or.inl rfl)) (pss_cons (ps_expr (pe_bm PySem.F.plainAttrs_list PySem.F.slot_list_append PySem.F.type_list_append mt_append (pv 1) (pa_cons (pe_call G__law_draw hr__law_draw rfl m__law_draw k__law_draw b__law_draw .nil pass0 (pa_cons (pv 0) (pa_cons pe_int pa_nil))) pa_nil)))
      (pss_one (ps_expr (pe_bm PySem.F.plainAttrs_list PySem.F.slot_list_append PySem.F.type_list_append mt_append (pv 1) (pa_cons (pe_op op_add (pe_op op_mul (pe_op op_pow pe_int pe_int) (pe_call G__law_draw hr__law_draw rfl m__law_draw k__law_draw b__law_draw .nil pass0 (pa_cons (pv 0) (pa_cons pe_int pa_nil)))) (pe_call G__law_draw hr__law_draw rfl m__law_draw k__law_draw b__law_draw .nil pass0 (pa_cons (pv 0) (pa_cons (pe_op op_pow pe_int pe_int) pa_nil)))) pa_nil))))))
      (pss_one (ps_ret (pv 1))))), ?_⟩
    refine ⟨12, rfl, RgOk.of_le (by decide) (by decide) (by decide) (by decide), fun q0 hq0 => ?_⟩
    refine ⟨_, _, rfl, rfl, ⟨by decide, by decide, by decide⟩, _, _, rfl, rfl, ⟨by decide, by decide, by decide⟩, _, _, rfl, rfl, by show 4 ≤ sizeLine; decide, fun q1 hq1 => ?_⟩
    have a0 := Ex.new hq1 (o := .lst [.int ((10 : Int) ^ (29 : Int).toNat), .int ((10 : Int) ^ (29 : Int).toNat + 1), .int 999, .int 123456789]) q0 _ (upd_same (H := H) (a := q0) (o := .lst (rgV 0 12)))
    refine ⟨q0, q1, _, _, rfl, rfl, a0, upd_same, by show 16 ≤ sizeLine; decide, fun D hD => ?_⟩
    obtain ⟨ns, hns, hpos, hlen⟩ : ∃ ns : List Int, rgV 0 12 ++ [.int ((10 : Int) ^ (29 : Int).toNat), .int ((10 : Int) ^ (29 : Int).toNat + 1), .int 999, .int 123456789] = ns.map V.int ∧ (∀ n ∈ ns, 0 ≤ n) ∧ ns.length = 16 :=
      ⟨[0, 1, 2, 3, 4, 5, 6, 7, 8, 9, 10, 11, 10 ^ 29, 10 ^ 29 + 1, 999, 123456789], rfl, by decide, rfl⟩
    have m0 : Mv p H (upd (upd (upd H q0 (.lst (rgV 0 12))) q1 (.lst [.int ((10 : Int) ^ (29 : Int).toNat), .int ((10 : Int) ^ (29 : Int).toNat + 1), .int 999, .int 123456789])) D (.lst (rgV 0 12 ++ [.int ((10 : Int) ^ (29 : Int).toNat), .int ((10 : Int) ^ (29 : Int).toNat + 1), .int 999, .int 123456789]))) := (((Mv.refl hp).new hq0).new hq1).new hD
    have fD : H D = none := (((Mv.refl hp).new hq0).new hq1).fresh hD
    have nD : D ≠ p := hp.ne fD
    refine ⟨_, rfl, by decide, by decide, for_range (lo := 0) (n := 6) (fun i σ H2 => (∃ v, σ = [some (.ref p), some (.ref D), v]) ∧ Mv p H H2 ∧ ∃ ns : List Int, H2 D = some (.lst (ns.map V.int)) ∧ (∀ n ∈ ns, 0 ≤ n) ∧ ns.length = 16 + 2 * i) ?_ ?_ ?_⟩
    · exact ⟨⟨none, rfl⟩, m0, ns, by rw [upd_same, ← hns], hpos, hlen⟩
    · rintro i σ H2 hi ⟨⟨v, rfl⟩, m2, ns, hD2, pos2, len2⟩
      have snoc : ∀ (ns : List Int) (z : Int), ns.map V.int ++ [V.int z] = (ns ++ [z]).map V.int := fun ns z => by rw [List.map_append]; rfl
      refine ⟨_, rfl, .inl ⟨rfl, _, SqL.of hD2⟩, _, rfl, p, 40, rfl, m2.pot, by decide, by decide, fun d H3 hd m3 => ?_⟩
      have hD3 := m3.kp _ _ nD hD2
      refine ⟨D, _, _, rfl, rfl, hD3, by rw [List.length_map, len2]; exact sz_lt (by omega), ?_⟩
      rw [snoc]
      have m4 := (m2.trans m3).mut (o := .lst ((ns ++ [(d : Int)]).map V.int)) fD nD
      have hD4 : upd H3 D (.lst ((ns ++ [(d : Int)]).map V.int)) D = some (.lst ((ns ++ [(d : Int)]).map V.int)) := upd_same
      generalize upd H3 D (.lst ((ns ++ [(d : Int)]).map V.int)) = H4 at *
      refine ⟨_, rfl, .inl ⟨rfl, _, SqL.of hD4⟩, _, _, rfl, rfl, ⟨by decide, by decide, by decide⟩, _, rfl, p, 1000, rfl, m4.pot, by decide, by decide, fun d2 H5 hd2 m5 => ?_⟩
      refine ⟨_, _, rfl, rfl, .inr ⟨by omega, by omega⟩, _, rfl, _, _, rfl, rfl, ⟨by decide, by decide, by decide⟩, p, _, rfl, (m4.trans m5).pot, by decide, by decide, fun d3 H6 hd3 m6 => ?_⟩
      have hD6 := m6.kp _ _ nD (m5.kp _ _ nD hD4)
      refine ⟨_, _, rfl, rfl, D, _, _, rfl, rfl, hD6, by rw [List.length_map, List.length_append, len2]; exact sz_lt (by show 16 + 2 * i + 1 < _; omega), ?_⟩
      refine ⟨⟨_, rfl⟩, ((m4.trans m5).trans m6).mut fD nD, (ns ++ [(d : Int)]) ++ [10 ^ 20 * (d2 : Int) + (d3 : Int)], ?_, fun n hn => ?_, ?_⟩
      · rw [upd_same, ← snoc (ns ++ [(d : Int)])]
        rfl
      · rcases List.mem_append.mp hn with z | z
        · rcases List.mem_append.mp z with z | z
          · exact pos2 n z
          · rw [List.mem_singleton.mp z]; omega
        · rw [List.mem_singleton.mp z]
          have : (0 : Int) ≤ 10 ^ 20 * (d2 : Int) := Int.mul_nonneg (by decide) (by omega)
          omega
      · rw [List.length_append, List.length_append, len2]
        show 16 + 2 * i + 1 + 1 = _
        omega
    · rintro σ H2 ⟨⟨v, rfl⟩, m2, ns, hD2, pos2, len2⟩
      exact ⟨_, rfl, k D ns H2 fD m2 hD2 pos2⟩
end
end LW
end
section
set_option maxRecDepth 100000
set_option maxHeartbeats 4000000
namespace LW
open PySem L2 RX WM Evl
abbrev st__law_places_right : Stmt := top 28
theorem sc__law_places_right : FnScope ["_law_word", "_law_begin", "_law_lap", "_law_numbers_here", "_law_number", "_law_rest_here", "_law_told", "_law_start_here"] ["_law_word", "_law_begin", "_law_lap", "_law_numbers_here"] (defScope st__law_places_right) := ⟨rfl, rfl, rfl, by decide +kernel, rfl, by decide +kernel, by decide +kernel⟩
abbrev st__law_ahead_right : Stmt := top 29
theorem sc__law_ahead_right : FnScope ["_law_pot_here", "_law_word", "_law_begin", "_law_lap", "_law_turn", "_law_text_here", "_law_more"] ["_law_pot_here", "_law_word", "_law_begin", "_law_lap"] (defScope st__law_ahead_right) := ⟨rfl, rfl, rfl, by decide +kernel, rfl, by decide +kernel, by decide +kernel⟩
theorem pl_eq {w w' : Nat → Nat} {B L B' L' : Tx} (pl : Plain w B L) (pl' : Plain w' B' L') (h : ∀ n, w n = w' n) : V.bl (decide (B = B') && decide (L = L')) = V.bl true := by
  obtain ⟨e1, e2⟩ := pl.uniq (pl'.congr fun n => (h n).symm)
  rw [decide_eq_true e1, decide_eq_true e2]
  rfl
theorem om_back {w : Nat → Nat} {B3 L3 : Tx} {n : Nat} (h : ∀ k, om B3 L3 k = w (k + n)) (k : Nat) : om ((List.range n).map w ++ B3) L3 k = w k := by
  rw [om_app, List.length_map, List.length_range]
  split
  · rename_i hk
    rw [List.getD_eq_getElem?_getD, List.getElem?_map, List.getElem?_range hk]
    rfl
  · rw [h]
    congr 1
    omega
def spPlaces (C : Addr) : Sp := fun vs H Q _ => ∃ (q D : Addr) (b l B L : Tx) (ns : List Int), vs = [.ref q, tx b, tx l, .ref D] ∧ WAt C H q B L ∧ WOk B L ∧ Plain (om b l) B L ∧ GP b l ∧ B.length ≤ 1000 ∧ L.length ≤ 1000 ∧ H D = some (.lst (ns.map V.int)) ∧ (∀ n ∈ ns, 0 ≤ n) ∧ ∀ H', Ex H H' → Q (.bl true) H'
section
variable {P : Program} {w : World} {K : PySem.W.Frag} {mg : Str → Option Value} {base : Heap} {C_Word : Addr}
theorem ok_places {f fI fE fA fG fP fH pB gB pL gL : Addr} {fd fdI fdE fdA fdG fdP fdH fdB fdL : FuncData} (F : Fun K "_law_places_right" "_law_places_right" st__law_places_right f fd) (T : W13 P w K mg base C_Word fI fE fA fG fP fH pB gB pL gL fdI fdE fdA fdG fdP fdH fdB fdL)
    (D1 : Df P w K mg base 2 "_law_start" ["_law_begin", "_law_lap", "_law_size"] spStart) (D2 : Df P w K mg base 1 "_law_sign" ["_law_begin", "_law_lap", "_law_place"] spSign) (D3 : Df P w K mg base 1 "_law_rest" ["_law_begin", "_law_lap", "_law_number"] spRest) (D4 : Df P w K mg base 5 "_law_is" ["_law_word", "_law_begin", "_law_lap"] (spIs C_Word)) : FnOk P w K mg base CX0 6 f fd ["_law_word", "_law_begin", "_law_lap", "_law_numbers_here"] (spPlaces C_Word) := by
  obtain ⟨f1, fd1, G__law_start, m__law_start, k__law_start, b__law_start⟩ := D1
  obtain ⟨f2, fd2, G__law_sign, m__law_sign, k__law_sign, b__law_sign⟩ := D2
  obtain ⟨f3, fd3, G__law_rest, m__law_rest, k__law_rest, b__law_rest⟩ := D3
  obtain ⟨f4, fd4, G__law_is, m__law_is, k__law_is, b__law_is⟩ := D4
  obtain ⟨f5, fd5, G_first, M_first, b_first, kb_first⟩ := T.first
  obtain ⟨f6, fd6, G_behind, M_behind, b_behind, kb_behind⟩ := T.behind
  have m_Word := T.m_Word
  have MK_Word := T.mkW
  have G_Word_init := T.gI
  have b_Word_init := T.bI
  have G_eq := T.gE
  have b_eq := T.bE
  have G_radd := T.gA
  have b_radd := T.bA
  have G_getitem := T.gG
  have b_getitem := T.bG
  refine F.ok sc__law_places_right (fun vs H Q E h => ?_) (fun cdv A outer s H vs Q E hr h => ?_)
  · obtain ⟨q, D, b, l, B, L, ns, rfl, _⟩ := h
    rfl
  · obtain ⟨q, D, b, l, B, L, ns, rfl, ⟨dx, hq⟩, ok, pl, g, hB, hL, hD, hns, k⟩ := h
    have hr__law_start := hr.mono (show 2 ≤ 5 by decide)
    have hr__law_sign := hr.mono (show 1 ≤ 5 by decide)
    have hr__law_rest := hr.mono (show 1 ≤ 5 by decide)
    have hr__law_is := hr
    have hr_first := hr.mono (show 4 ≤ 5 by decide)
    have hr_behind := hr
    have hr_Word := hr.mono (show 4 ≤ 5 by decide)
    have hr_eq := hr.mono (show 1 ≤ 5 by decide)
    have hr_ne := hr.mono (show 2 ≤ 5 by decide)
    have hr_radd := hr
    have hr_getitem := hr
    have hb1 := g.bb
    have hl1 := g.bl
    refine ⟨_, (pss_cons (ps_for PassesOwn.never rfl (pi_list (pv 3)) (pg_name (i := 4) sc__law_places_right.nd rfl (Or.inl rfl)) (pss_cons (ps_if (pt_cmpR op_neT (pe_itemOwn (C := C_Word) G_getitem hr_getitem b_getitem pass0 T.sGet T.fGet T.fnGet (pv 0) (pv 4)) (pe_call G__law_sign hr__law_sign rfl m__law_sign k__law_sign b__law_sign .nil pass0 (pa_cons (pv 1) (pa_cons (pv 2) (pa_cons (pv 4) pa_nil)))) (nomark _)) (pss_one (ps_ret pe_bl)) pss_nil)
      (pss_cons (ps_set (i := 5) sc__law_places_right.nd rfl (Or.inl rfl) (pe_call G__law_rest hr__law_rest rfl m__law_rest k__law_rest b__law_rest .nil pass0 (pa_cons (pv 1) (pa_cons (pv 2) (pa_cons (pv 4) pa_nil)))))
      (pss_cons (ps_set (i := 6) sc__law_places_right.nd rfl (Or.inl rfl) (pe_meth (pv 0) T.cl M_behind G_behind hr_behind b_behind .nil pass0 (pa_cons (pv 4) pa_nil)))
      (pss_cons (ps_if (PW.pt (pw_or (pt_not (pt_val (pe_call G__law_is hr__law_is rfl m__law_is k__law_is b__law_is .nil pass0 (pa_cons (pv 6) (pa_cons (pe_ix ix_tup (pv 5) pe_int (fun _ _ => rfl)) (pa_cons (pe_ix ix_tup (pv 5) pe_int (fun _ _ => rfl)) pa_nil)))))) (pw_or (pt_cmpR (op_neOwn (C := C_Word) G_eq hr_ne b_eq pass0 T.sEq T.fEq T.sNe T.sOb) (pv 6) (pe_methKw (pv 0) T.cl M_behind G_behind hr_behind kb_behind pass0 (pk_cons (pv 4) pk_nil)) (nomark _)) (pw_or1 (pt_cmpR op_neT (pe_itemOwn (C := C_Word) G_getitem hr_getitem b_getitem pass0 T.sGet T.fGet T.fnGet (pv 6) pe_int) (pe_itemOwn (C := C_Word) G_getitem hr_getitem b_getitem pass0 T.sGet T.fGet T.fnGet (pv 0) (pv 4)) (nomark _)))))) (pss_one (ps_ret pe_bl)) pss_nil)
      (pss_one (ps_if (pt_cmpR op_lt (pv 4) pe_int (nomark _)) (pss_cons (ps_set (i := 7) sc__law_places_right.nd rfl (Or.inl rfl) (pe_meth (pv 0) T.cl M_first G_first hr_first b_first .nil pass0 (pa_cons (pv 4) pa_nil)))
      (pss_cons (ps_if (PW.pt (pw_or (pt_cmpR op_neT (pv 7) (pe_call G__law_start hr__law_start rfl m__law_start k__law_start b__law_start .nil pass0 (pa_cons (pv 1) (pa_cons (pv 2) (pa_cons (pv 4) pa_nil)))) (nomark _)) (pw_or1 (pt_cmpR op_neT (pe_methKw (pv 0) T.cl M_first G_first hr_first kb_first pass0 (pk_cons (pv 4) pk_nil)) (pv 7) (nomark _))))) (pss_one (ps_ret pe_bl)) pss_nil)
      (pss_one (ps_if (PW.pt (pw_or (pt_cmpR (op_neOwn (C := C_Word) G_eq hr_ne b_eq pass0 T.sEq T.fEq T.sNe T.sOb) (pe_op (op_raddOwn (C := C_Word) G_radd hr_radd b_radd pass0 T.sF T.nAdd T.sRadd T.fRadd) (pv 7) (pv 6)) (pv 0) (nomark _)) (pw_or1 (pt_cmpR (op_neOwn (C := C_Word) G_eq hr_ne b_eq pass0 T.sEq T.fEq T.sNe T.sOb) (pv 6) (pe_make MK_Word G_Word_init hr_Word rfl m_Word b_Word_init .nil pass0 (pa_cons (pe_ix ix_tup (pv 5) pe_int (fun _ _ => rfl)) (pa_cons (pe_ix ix_tup (pv 5) pe_int (fun _ _ => rfl)) pa_nil))) (nomark _))))) (pss_one (ps_ret pe_bl)) pss_nil)))) pss_nil)))))))
      (pss_one (ps_ret pe_bl))), ?_⟩
    refine ⟨_, rfl, D, rfl, ⟨_, SqL.of hD⟩, for_list (fun _ σ H' => (∃ a b' c d, σ = [some (.ref q), some (tx b), some (tx l), some (.ref D), a, b', c, d]) ∧ Ex H H') ⟨⟨none, none, none, none, rfl⟩, Ex.refl _⟩ (fun i σ H' _ z => SqL.of (z.2 _ _ hD)) ?_ ?_⟩
    · rintro i x σ H' hx ⟨⟨a, b', c, d, rfl⟩, ex⟩
      obtain ⟨n, hn, rfl⟩ : ∃ n, 0 ≤ n ∧ x = .int n := by
        rw [List.getElem?_map] at hx
        cases e : ns[i]? with
        | none => rw [e] at hx; cases hx
        | some n => rw [e] at hx; cases hx; exact ⟨n, hns n (List.mem_of_getElem? e), rfl⟩
      clear hx
      replace hq := ex _ _ hq
      have eqW : ∀ m, om B L m = om b l m := pl.rep
      refine ⟨_, rfl, _, rfl, q, dx, _, rfl, hq, q, B, L, n, rfl, hn, ⟨dx, hq⟩, ok, _, rfl, _, rfl, _, rfl, n, b, l, rfl, hn, g.pos, by omega, by omega, _, _, rfl, rfl, false, bl_nf (by rw [eqW]), iteF ?_⟩
      refine ⟨_, rfl, _, rfl, _, rfl, n, b, l, rfl, hn, g, fun u b2 l2 hu g2 hb2 hl2 eq2 => ?_⟩
      have hu1 : TAt (upd H' u (.tup [tx b2, tx l2])) u b2 l2 := upd_same
      replace hq := (Ex.new hu (o := .tup [tx b2, tx l2])) _ _ hq
      replace ex := ex.trans (Ex.new hu (o := .tup [tx b2, tx l2]))
      generalize upd H' u (.tup [tx b2, tx l2]) = H1 at *
      refine ⟨_, rfl, q, dx, _, rfl, hq, noB _ _, _, rfl, q, B, L, n, rfl, hn, ⟨dx, hq⟩, ok, ?_⟩
      rintro q3 H2 B3 L3 n3 e3 ⟨dx3, h3⟩ ok3 pl3 hB3 hL3
      replace hq := e3 _ _ hq
      replace hu1 : TAt H2 u b2 l2 := e3 _ _ hu1
      replace ex := ex.trans e3
      have eq3 : ∀ m, om B3 L3 m = om b2 l2 m := fun m => by rw [pl3.rep, eq2]; exact eqW _
      -- the first test
      refine ⟨_, rfl, _, rfl, u, _, 0, _, rfl, rfl, SqT.of hu1, atI_nat (j := 0) rfl, _, rfl, u, _, 1, _, rfl, rfl, SqT.of hu1, atI_nat (j := 1) rfl, q3, b2, l2, B3, L3, rfl, ⟨dx3, h3⟩, ok3, eq3, g2.pos, by omega, fun H3 e4 => ⟨true, rfl, iteF ?_⟩⟩
      replace hq := e4 _ _ hq
      replace h3 := e4 _ _ h3
      replace hu1 : TAt H3 u b2 l2 := e4 _ _ hu1
      replace ex := ex.trans e4
      refine ⟨_, rfl, _, rfl, q, dx, _, rfl, hq, noB _ _, _, rfl, rfl, q, B, L, n, rfl, hn, ⟨dx, hq⟩, ok, ?_⟩
      rintro q4 H4 B4 L4 n4 e5 ⟨dx4, h4⟩ ok4 pl4 _ _
      replace hq := e5 _ _ hq
      replace h3 := e5 _ _ h3
      replace hu1 : TAt H4 u b2 l2 := e5 _ _ hu1
      replace ex := ex.trans e5
      refine ⟨q3, dx3, _, q4, dx4, _, rfl, rfl, h3, h4, q3, q4, B3, L3, B4, L4, rfl, ⟨dx3, h3⟩, ⟨dx4, h4⟩, true, pl_eq pl3 pl4 fun _ => rfl, false, rfl, iteF ?_⟩
      refine ⟨_, rfl, q3, dx3, _, rfl, h3, q3, B3, L3, 0, rfl, by decide, ⟨dx3, h3⟩, ok3, _, rfl, _, rfl, q, dx, _, rfl, hq, q, B, L, n, rfl, hn, ⟨dx, hq⟩, ok, _, _, rfl, rfl, false, bl_nf (by rw [pl3.rep]; show [om B L (0 + n.toNat)] = _; rw [Nat.zero_add]), iteF ?_⟩
      clear h4 ok4 pl4
      by_cases h60 : n < 60
      · refine ⟨_, rfl, _, _, rfl, rfl, true, bl_t h60, iteT ?_⟩
        refine ⟨_, rfl, q, dx, _, rfl, hq, noF _ _, _, rfl, q, B, L, n, rfl, hn, by omega, ⟨dx, hq⟩, ok, fun H5 e6 => ?_⟩
        replace hq := e6 _ _ hq
        replace h3 := e6 _ _ h3
        replace hu1 : TAt H5 u b2 l2 := e6 _ _ hu1
        replace ex := ex.trans e6
        refine ⟨_, rfl, _, rfl, _, rfl, _, rfl, n, b, l, rfl, hn, by omega, g.pos, by omega, by omega, fun H6 e7 => ⟨_, _, rfl, rfl, false, bl_nf (List.map_congr_left fun m _ => eqW m), iteF ?_⟩⟩
        replace hq := e7 _ _ hq
        replace h3 := e7 _ _ h3
        replace hu1 : TAt H6 u b2 l2 := e7 _ _ hu1
        replace ex := ex.trans e7
        refine ⟨_, rfl, q, dx, _, rfl, hq, noF _ _, _, rfl, rfl, q, B, L, n, rfl, hn, by omega, ⟨dx, hq⟩, ok, fun H7 e8 => ⟨_, rfl, _, _, rfl, rfl, false, bl_nf rfl, iteF ?_⟩⟩
        replace hq := e8 _ _ hq
        replace h3 := e8 _ _ h3
        replace hu1 : TAt H7 u b2 l2 := e8 _ _ hu1
        replace ex := ex.trans e8
        have lt : Lets ((List.range n.toNat).map (om B L)) := fun c hc => by
          obtain ⟨j, _, rfl⟩ := List.mem_map.mp hc
          exact ok.letW j
        refine ⟨_, rfl, _, rfl, (List.range n.toNat).map (om B L), q3, dx3, _, rfl, rfl, h3, q3, B3, L3, (List.range n.toNat).map (om B L), rfl, lt, by rw [List.length_map, List.length_range]; omega, ⟨dx3, h3⟩, ok3, ?_⟩
        rintro q5 H8 B5 L5 n5 e9 ⟨dx5, h5⟩ ok5 pl5 _ _
        replace hq := e9 _ _ hq
        replace h3 := e9 _ _ h3
        replace hu1 : TAt H8 u b2 l2 := e9 _ _ hu1
        replace ex := ex.trans e9
        have plB : Plain (om B L) B L := pl.congr fun m => (eqW m).symm
        refine ⟨_, rfl, q5, dx5, _, q, dx, _, rfl, rfl, h5, hq, q5, q, B5, L5, B, L, rfl, ⟨dx5, h5⟩, ⟨dx, hq⟩, true, pl_eq pl5 plB fun m => om_back (fun j => pl3.rep j) m, false, rfl, iteF ?_⟩
        refine ⟨_, rfl, _, rfl, u, _, 0, _, rfl, rfl, SqT.of hu1, atI_nat (j := 0) rfl, _, rfl, u, _, 1, _, rfl, rfl, SqT.of hu1, atI_nat (j := 1) rfl, fun x6 y6 nx6 ny6 ne6 => ⟨x6, y6, b2, l2, rfl, upd_same, g2.wok, ?_⟩⟩
        rintro H9 B6 L6 ⟨dx6, h6⟩ pl6 _ _ ok6 keep6
        have e10 : Ex H8 H9 := made_ex nx6 ny6 keep6
        replace h3 := e10 _ _ h3
        refine ⟨rfl, q3, dx3, _, x6, dx6, _, rfl, rfl, h3, h6, q3, x6, B3, L3, B6, L6, rfl, ⟨dx3, h3⟩, ⟨dx6, h6⟩, true, pl_eq pl3 pl6 fun m => (pl3.rep m).symm.trans (eq3 m), false, rfl, iteF ⟨⟨_, _, _, _, rfl⟩, ex.trans e10⟩⟩
      · exact ⟨_, rfl, _, _, rfl, rfl, false, bl_f h60, iteF ⟨⟨_, _, _, _, rfl⟩, ex⟩⟩
    · rintro σ H' ⟨⟨a, b', c, d, rfl⟩, ex⟩
      exact k _ ex
end
end LW
end
section
set_option maxRecDepth 100000
set_option maxHeartbeats 4000000
namespace LW
open PySem L2 RX WM Evl
theorem str_abc : V.str "abc" = tx [97, 98, 99] := by decide +kernel
theorem lets_dec {a : Tx} (h : (a.all fun c => decide (97 ≤ c) && decide (c ≤ 122)) = true) : Lets a := fun c hc => by
  have := List.all_eq_true.mp h c hc
  rw [Bool.and_eq_true] at this
  exact ⟨of_decide_eq_true this.1, of_decide_eq_true this.2⟩
theorem ins_mv {p a C dx : Addr} {fs : List (Str × V)} {H H' : Hp} (hp : PotAt H p) (m : Mv p H H') (h : H a = some (.ins C dx fs)) : H' a = some (.ins C dx fs) := m.kp a _ (hp.no h fun _ _ z => nomatch z) h
theorem om_app2 {t b l B L : Tx} (h : ∀ m, om B L m = om b l m) (m : Nat) : om (t ++ B) L m = om (t ++ b) l m := by
  rw [om_app, om_app]
  split
  · rfl
  · exact h _
theorem om_skip {t B L : Tx} (m : Nat) : om (t ++ B) L (m + t.length) = om B L m := by
  rw [om_app, if_neg (by omega), Nat.add_sub_cancel]
theorem om_first {t B L : Tx} : (List.range t.length).map (om (t ++ B) L) = t := by
  apply List.ext_getElem?
  intro i
  rw [List.getElem?_map]
  by_cases h : i < t.length
  · rw [List.getElem?_range h]
    show some (om (t ++ B) L i) = _
    rw [om_app, if_pos h, get_of h]
  · rw [List.getElem?_eq_none (by rw [List.length_range]; omega), List.getElem?_eq_none (by omega)]
    rfl
def spAhead (C : Addr) : Sp := fun vs H Q _ => ∃ (p q : Addr) (b l B L : Tx), vs = [.ref p, .ref q, tx b, tx l] ∧ PotAt H p ∧ WAt C H q B L ∧ WOk B L ∧ Plain (om b l) B L ∧ GP b l ∧ B.length ≤ 1000 ∧ L.length ≤ 1000 ∧ ∀ H', Mv p H H' → Q (.bl true) H'
section
variable {P : Program} {w : World} {K : PySem.W.Frag} {mg : Str → Option Value} {base : Heap} {C_Word : Addr}
theorem ok_ahead {f fI fE fA fG fP fH pB gB pL gL : Addr} {fd fdI fdE fdA fdG fdP fdH fdB fdL : FuncData} (F : Fun K "_law_ahead_right" "_law_ahead_right" st__law_ahead_right f fd) (T : W13 P w K mg base C_Word fI fE fA fG fP fH pB gB pL gL fdI fdE fdA fdG fdP fdH fdB fdL)
    (D1 : Df P w K mg base 3 "_law_text" ["_law_pot_here", "_law_signs", "_law_most"] spText) (D4 : Df P w K mg base 5 "_law_is" ["_law_word", "_law_begin", "_law_lap"] (spIs C_Word)) : FnOk P w K mg base CX0 6 f fd ["_law_pot_here", "_law_word", "_law_begin", "_law_lap"] (spAhead C_Word) := by
  obtain ⟨f1, fd1, G__law_text, m__law_text, k__law_text, b__law_text⟩ := D1
  obtain ⟨f4, fd4, G__law_is, m__law_is, k__law_is, b__law_is⟩ := D4
  obtain ⟨f5, fd5, G_first, M_first, b_first, kb_first⟩ := T.first
  obtain ⟨f6, fd6, G_behind, M_behind, b_behind, kb_behind⟩ := T.behind
  have m_Word := T.m_Word
  have MK_Word := T.mkW
  have G_Word_init := T.gI
  have b_Word_init := T.bI
  have G_eq := T.gE
  have b_eq := T.bE
  have G_radd := T.gA
  have b_radd := T.bA
  refine F.ok sc__law_ahead_right (fun vs H Q E h => ?_) (fun cdv A outer s H vs Q E hr h => ?_)
  · obtain ⟨p, q, b, l, B, L, rfl, _⟩ := h
    rfl
  · obtain ⟨p, q, b, l, B, L, rfl, hp, ⟨dx, hq⟩, ok, pl, g, hB, hL, k⟩ := h
    have hr__law_text := hr.mono (show 3 ≤ 5 by decide)
    have hr__law_is := hr
    have hr_first := hr.mono (show 4 ≤ 5 by decide)
    have hr_behind := hr
    have hr_Word := hr.mono (show 4 ≤ 5 by decide)
    have hr_eq := hr.mono (show 1 ≤ 5 by decide)
    have hr_ne := hr.mono (show 2 ≤ 5 by decide)
    have hr_radd := hr
    have hb1 := g.bb
    have hl1 := g.bl
    have eqW : ∀ m, om B L m = om b l m := pl.rep
    have plB : Plain (om B L) B L := pl.congr fun m => (eqW m).symm
    have lt3 : Lets [97, 98, 99] := lets_dec rfl
    refine ⟨_, (pss_cons (ps_for PassesOwn.never rfl (pi_range1 rfl T.n_range (pa_cons pe_int pa_nil)) (pg_name (i := 4) sc__law_ahead_right.nd rfl (Or.inl rfl)) (pss_cons (ps_set (i := 5) sc__law_ahead_right.nd rfl (Or.inl rfl) (pe_call G__law_text hr__law_text rfl m__law_text k__law_text b__law_text .nil pass0 (pa_cons (pv 0) (pa_cons pe_str (pa_cons pe_int pa_nil)))))
      (pss_cons (ps_set (i := 6) sc__law_ahead_right.nd rfl (Or.inl rfl) (pe_op (op_raddOwn (C := C_Word) G_radd hr_radd b_radd pass0 T.sF T.nAdd T.sRadd T.fRadd) (pv 5) (pv 1)))
      (pss_cons (ps_if (PW.pt (pw_or (pt_not (pt_val (pe_call G__law_is hr__law_is rfl m__law_is k__law_is b__law_is .nil pass0 (pa_cons (pv 6) (pa_cons (pe_op op_addT (pv 5) (pv 2)) (pa_cons (pv 3) pa_nil)))))) (pw_or (pt_cmpR (op_neOwn (C := C_Word) G_eq hr_ne b_eq pass0 T.sEq T.fEq T.sNe T.sOb) (pe_meth (pv 6) T.cl M_behind G_behind hr_behind b_behind .nil pass0 (pa_cons (pe_callB call_lenT rfl T.n_len PySem.boot_len (pa_cons (pv 5) pa_nil)) pa_nil)) (pv 1) (nomark _)) (pw_or1 (pt_cmpR (op_neOwn (C := C_Word) G_eq hr_ne b_eq pass0 T.sEq T.fEq T.sNe T.sOb) (pv 6) (pe_make MK_Word G_Word_init hr_Word rfl m_Word b_Word_init .nil pass0 (pa_cons (pe_op op_addT (pv 5) (pv 2)) (pa_cons (pv 3) pa_nil))) (nomark _)))))) (pss_one (ps_ret pe_bl)) pss_nil)
      (pss_one (ps_if (PW.pt (pw_or (pt_cmpR op_neT (pe_meth (pv 6) T.cl M_first G_first hr_first b_first .nil pass0 (pa_cons (pe_callB call_lenT rfl T.n_len PySem.boot_len (pa_cons (pv 5) pa_nil)) pa_nil)) (pv 5) (nomark _)) (pw_or1 (pt_not (pt_val (pe_call G__law_is hr__law_is rfl m__law_is k__law_is b__law_is .nil pass0 (pa_cons (pv 1) (pa_cons (pv 2) (pa_cons (pv 3) pa_nil))))))))) (pss_one (ps_ret pe_bl)) pss_nil))))))
      (pss_one (ps_ret (pe_and (pe_cmpR (op_eqOwn (C := C_Word) G_eq hr_eq b_eq pass0 T.sEq T.fEq) (pe_op (op_raddOwn (C := C_Word) G_radd hr_radd b_radd pass0 T.sF T.nAdd T.sRadd T.fRadd) pe_str (pv 1)) (pv 1) (nomark _)) (pe_and (pe_cmpR op_eqT (pe_meth (pv 1) T.cl M_first G_first hr_first b_first .nil pass0 (pa_cons pe_int pa_nil)) pe_str (nomark _)) (pe_one (pe_cmpR (op_eqOwn (C := C_Word) G_eq hr_eq b_eq pass0 T.sEq T.fEq) (pe_meth (pv 1) T.cl M_behind G_behind hr_behind b_behind .nil pass0 (pa_cons pe_int pa_nil)) (pv 1) (nomark _)))))))), ?_⟩
    refine ⟨_, rfl, by decide, by decide, for_range (lo := 0) (n := 4) (fun _ σ H' => (∃ a b' c, σ = [some (.ref p), some (.ref q), some (tx b), some (tx l), a, b', c]) ∧ Mv p H H') ⟨⟨none, none, none, rfl⟩, Mv.refl hp⟩ ?_ ?_⟩
    · rintro i σ H' hi ⟨⟨a, b', c, rfl⟩, mv⟩
      replace hq := ins_mv hp mv hq
      refine ⟨_, rfl, p, [97, 98, 99], 8, by rw [← str_abc]; rfl, mv.pot, by decide, by decide, by decide, by decide, fun t H1 ht hl m1 => ?_⟩
      have lt : Lets t := fun c hc => lt3 c (ht c hc)
      replace hq := ins_mv mv.pot m1 hq
      replace mv := mv.trans m1
      refine ⟨_, rfl, _, rfl, t, q, dx, _, rfl, rfl, hq, q, B, L, t, rfl, lt, by omega, ⟨dx, hq⟩, ok, ?_⟩
      rintro q3 H2 B3 L3 n3 e3 ⟨dx3, h3⟩ ok3 pl3 hB3 hL3
      replace hq := e3 _ _ hq
      replace mv := mv.ex e3
      have eq3 : ∀ m, om B3 L3 m = om (t ++ b) l m := fun m => (pl3.rep m).trans (om_app2 eqW m)
      refine ⟨_, rfl, _, rfl, _, rfl, t, b, rfl, rfl, sz_of (by omega), _, rfl, q3, t ++ b, l, B3, L3, rfl, ⟨dx3, h3⟩, ok3, eq3, g.pos, by rw [List.length_append]; omega, fun H3 e4 => ⟨true, rfl, iteF ?_⟩⟩
      replace hq := e4 _ _ hq
      replace h3 := e4 _ _ h3
      replace mv := mv.ex e4
      refine ⟨_, rfl, q3, dx3, _, rfl, h3, noB _ _, _, rfl, t, rfl, sz_of (by omega), q3, B3, L3, (t.length : Int), rfl, by omega, ⟨dx3, h3⟩, ok3, ?_⟩
      rintro q4 H4 B4 L4 n4 e5 ⟨dx4, h4⟩ ok4 pl4 _ _
      replace hq := e5 _ _ hq
      replace h3 := e5 _ _ h3
      replace mv := mv.ex e5
      refine ⟨_, rfl, q4, dx4, _, q, dx, _, rfl, rfl, h4, hq, q4, q, B4, L4, B, L, rfl, ⟨dx4, h4⟩, ⟨dx, hq⟩, true, pl_eq pl4 plB fun m => (pl3.rep _).trans (om_skip m), false, rfl, iteF ?_⟩
      clear h4 ok4 pl4
      refine ⟨_, rfl, _, rfl, _, rfl, t, b, rfl, rfl, sz_of (by omega), _, rfl, fun x5 y5 nx5 ny5 ne5 => ⟨x5, y5, t ++ b, l, rfl, upd_same, ⟨g.pos, by rw [List.length_append]; omega, by omega, lets_app lt g.lb, g.ll⟩, ?_⟩⟩
      rintro H5 B5 L5 ⟨dx5, h5⟩ pl5 _ _ ok5 keep5
      have e6 : Ex H4 H5 := made_ex nx5 ny5 keep5
      replace hq := e6 _ _ hq
      replace h3 := e6 _ _ h3
      replace mv := mv.ex e6
      refine ⟨rfl, q3, dx3, _, x5, dx5, _, rfl, rfl, h3, h5, q3, x5, B3, L3, B5, L5, rfl, ⟨dx3, h3⟩, ⟨dx5, h5⟩, true, pl_eq pl3 pl5 fun m => om_app2 eqW m, false, rfl, iteF ?_⟩
      refine ⟨_, rfl, q3, dx3, _, rfl, h3, noF _ _, _, rfl, t, rfl, sz_of (by omega), q3, B3, L3, (t.length : Int), rfl, by omega, by omega, ⟨dx3, h3⟩, ok3, fun H6 e7 => ⟨_, rfl, _, _, rfl, rfl, false, bl_nf ?_, iteF ?_⟩⟩
      · rw [Int.toNat_natCast]
        exact (List.map_congr_left fun m _ => pl3.rep m).trans om_first
      replace hq := e7 _ _ hq
      replace mv := mv.ex e7
      exact ⟨_, rfl, _, rfl, _, rfl, q, b, l, B, L, rfl, ⟨dx, hq⟩, ok, eqW, g.pos, by omega, fun H7 e8 => ⟨true, rfl, iteF ⟨⟨_, _, _, rfl⟩, mv.ex e8⟩⟩⟩
    · rintro σ H' ⟨⟨a, b', c, rfl⟩, mv⟩
      replace hq := ins_mv hp mv hq
      refine ⟨_, rfl, [], q, dx, _, str_nil, rfl, hq, q, B, L, [], rfl, lets_nil, by show 0 + _ ≤ 8000; omega, ⟨dx, hq⟩, ok, ?_⟩
      rintro q3 H2 B3 L3 n3 e3 ⟨dx3, h3⟩ ok3 pl3 hB3 hL3
      replace hq := e3 _ _ hq
      replace mv := mv.ex e3
      refine ⟨_, rfl, q3, dx3, _, q, dx, _, rfl, rfl, h3, hq, q3, q, B3, L3, B, L, rfl, ⟨dx3, h3⟩, ⟨dx, hq⟩, true, pl_eq pl3 plB fun m => rfl, true, rfl, iteT ?_⟩
      refine ⟨_, rfl, q, dx, _, rfl, hq, noF _ _, q, B, L, 0, rfl, by decide, by decide, ⟨dx, hq⟩, ok, fun H3 e4 => ⟨_, [], rfl, str_nil, true, bl_t rfl, iteT ?_⟩⟩
      replace hq := e4 _ _ hq
      replace mv := mv.ex e4
      refine ⟨_, rfl, q, dx, _, rfl, hq, noB _ _, q, B, L, 0, rfl, by decide, ⟨dx, hq⟩, ok, ?_⟩
      rintro q4 H4 B4 L4 n4 e5 ⟨dx4, h4⟩ ok4 pl4 _ _
      replace hq := e5 _ _ hq
      exact ⟨_, rfl, q4, dx4, _, q, dx, _, rfl, rfl, h4, hq, q4, q, B4, L4, B, L, rfl, ⟨dx4, h4⟩, ⟨dx, hq⟩, true, pl_eq pl4 plB fun m => rfl, k _ (mv.ex e5)⟩
end
end LW
end
section
set_option maxRecDepth 100000
set_option maxHeartbeats 4000000
namespace LW
open PySem L2 RX WM Evl
abbrev st__law_rising : Stmt := top 30
theorem sc__law_rising : FnScope ["_law_text_here"] ["_law_text_here"] (defScope st__law_rising) := ⟨rfl, rfl, rfl, by decide +kernel, rfl, by decide +kernel, by decide +kernel⟩
abbrev st__law_letters_right : Stmt := top 31
theorem sc__law_letters_right : FnScope ["_law_word", "_law_begin", "_law_lap", "_law_turn", "_law_told", "_law_odd", "_law_sign_here", "_law_thing"] ["_law_word", "_law_begin", "_law_lap"] (defScope st__law_letters_right) := ⟨rfl, rfl, rfl, by decide +kernel, rfl, by decide +kernel, by decide +kernel⟩
@[irreducible] def rReprAI (K : PySem.W.Frag) : List V → Hp → VK → Prop := rReprA K
theorem call_reprAI {X : Cx} {k : Nat} (hgd : X.A.guards = some []) (hr : Room k X.A) : CallR X (.builtin "repr") (rReprAI X.K) := by
  unfold rReprAI
  exact call_reprA hgd hr
/-- repr of small data -/
theorem rep_small {K : PySem.W.Frag} {H : Hp} {v : V} {d : PyData} {Q : VK} (hd : Dp K H v d) (h1 : d.showable = true) (h2 : d.hasDict = false) (h3 : d.depth ≤ 20) (h4 : d.leavesShort 13 = true) (h5 : d.bulk ≤ 5000) (q : Q (.str d.shown) H) : rReprAI K [v] H Q := by
  unfold rReprAI
  exact ⟨v, d, rfl, hd, h1, h2, h3, by
    have := PyData.shown_le_bulk 13 (by decide) d h4
    exact sz_of (by omega), q⟩
theorem rep_txts {K : PySem.W.Frag} {H : Hp} {a : Addr} {x y : Tx} {Q : VK} (ha : H a = some (.lst [tx x, tx y])) (hx : Lets x) (hy : Lets y) (lx : x.length ≤ 2000) (ly : y.length ≤ 2000) (q : Q (.str (PyData.shown (.list [.str (stx x), .str (stx y)]))) H) : rReprAI K [.ref a] H Q := by
  have ok : ∀ z : Tx, Lets z → PyData.leavesShort 13 (.str (stx z)) = true := fun z hz => by
    show ((stx z).cps.toList.all fun c => decide (c < 16 ^ 8)) = true
    rw [stx_list, List.all_eq_true]
    intro c hc
    rw [decide_eq_true_eq]
    exact Nat.lt_of_le_of_lt (hz c hc).2 (by decide)
  have bk : ∀ z : Tx, (stx z).cps.size = z.length := fun z => by show z.toArray.size = z.length; simp
  refine rep_small (.lst (SqL.of ha) (.cons (.str _) (.cons (.str _) .nil))) rfl rfl (by show 1 ≤ 20; decide) ?_ ?_ q
  · simp only [PyData.leavesShort, PyData.leavesShortAll, Bool.and_true, Bool.and_eq_true]
    exact ⟨ok x hx, ok y hy⟩
  · show (stx x).cps.size + 1 + ((stx y).cps.size + 1 + 0) ≤ 5000
    rw [bk, bk]
    omega
theorem sorted_one : ∀ (l m : List Nat), l.Pairwise (· < ·) → m.Pairwise (· < ·) → (∀ c, c ∈ l ↔ c ∈ m) → l = m
  | [], [], _, _, _ => rfl
  | [], y :: m, _, _, h => absurd ((h y).mpr List.mem_cons_self) (by simp)
  | x :: l, [], _, _, h => absurd ((h x).mp List.mem_cons_self) (by simp)
  | x :: l, y :: m, hl, hm, h => by
    obtain ⟨h1, h2⟩ := List.pairwise_cons.mp hl
    obtain ⟨h3, h4⟩ := List.pairwise_cons.mp hm
    have e : x = y := by
      rcases List.mem_cons.mp ((h x).mp List.mem_cons_self) with z | z
      · exact z
      · rcases List.mem_cons.mp ((h y).mpr List.mem_cons_self) with z' | z'
        · exact z'.symm
        · exact absurd (Nat.lt_trans (h3 x z) (h1 y z')) (Nat.lt_irrefl _)
    subst e
    rw [sorted_one l m h2 h4 fun c => ?_]
    constructor
    · intro hc
      rcases List.mem_cons.mp ((h c).mp (List.mem_cons_of_mem _ hc)) with z | z
      · exact absurd (h1 c hc) (by rw [z]; exact Nat.lt_irrefl _)
      · exact z
    · intro hc
      rcases List.mem_cons.mp ((h c).mpr (List.mem_cons_of_mem _ hc)) with z | z
      · exact absurd (h3 c hc) (by rw [z]; exact Nat.lt_irrefl _)
      · exact z
theorem ris_sorted (a : Tx) : (ris a).Pairwise (· < ·) := List.Pairwise.filter _ (by decide)
theorem ris_mem {a : Tx} (h : Lets a) (c : Nat) : c ∈ ris a ↔ c ∈ a := by
  unfold ris
  rw [List.mem_filter, decide_eq_true_eq]
  exact ⟨fun z => z.2, fun z => ⟨mem_small (h c z), z⟩⟩
theorem ris_lets (a : Tx) : Lets (ris a) := fun c hc => by
  have hc := (List.mem_filter.mp hc).1
  have : small.all (fun c => decide (97 ≤ c) && decide (c ≤ 122)) = true := by decide
  exact lets_dec this c hc
theorem ris_len (a : Tx) : (ris a).length ≤ 26 := Nat.le_trans (List.length_filter_le _ _) (by decide)
theorem ris_congr {a b : Tx} (h : ∀ c, c ∈ a ↔ c ∈ b) : ris a = ris b := by
  unfold ris
  congr 1
  funext c
  rw [Bool.eq_iff_iff, decide_eq_true_eq, decide_eq_true_eq]
  exact h c
theorem mem_om {b l : Tx} (h0 : 0 < l.length) (c : Nat) : c ∈ b ++ l ↔ ∃ n, om b l n = c := by
  constructor
  · intro h
    rcases List.mem_append.mp h with z | z
    · obtain ⟨i, hi, e⟩ := List.getElem_of_mem z
      exact ⟨i, by rw [om_lt hi, List.getD_eq_getElem?_getD, List.getElem?_eq_getElem hi]; exact e⟩
    · obtain ⟨i, hi, e⟩ := List.getElem_of_mem z
      refine ⟨b.length + i, ?_⟩
      rw [om_ge (by omega), show b.length + i - b.length = i by omega]
      unfold lp
      rw [Nat.mod_eq_of_lt hi, List.getD_eq_getElem?_getD, List.getElem?_eq_getElem hi]
      exact e
  · rintro ⟨n, rfl⟩
    by_cases h : n < b.length
    · rw [om_lt h]
      exact List.mem_append_left _ (getD_mem h)
    · rw [om_ge (Nat.not_lt.mp h)]
      exact List.mem_append_right _ (getD_mem (Nat.mod_lt _ h0))
theorem mem_lap {b l : Tx} (h0 : 0 < l.length) (c : Nat) : c ∈ l ↔ ∀ N, ∃ n, N ≤ n ∧ om b l n = c := by
  constructor
  · intro z N
    obtain ⟨i, hi, e⟩ := List.getElem_of_mem z
    refine ⟨b.length + (i + N * l.length), ?_, ?_⟩
    · have : N * 1 ≤ N * l.length := Nat.mul_le_mul_left _ h0
      omega
    · rw [om_ge (by omega), show b.length + (i + N * l.length) - b.length = i + N * l.length by omega]
      unfold lp
      rw [Nat.add_mul_mod_self_right, Nat.mod_eq_of_lt hi, List.getD_eq_getElem?_getD, List.getElem?_eq_getElem hi]
      exact e
  · intro h
    obtain ⟨n, hn, rfl⟩ := h b.length
    rw [om_ge hn]
    exact getD_mem (Nat.mod_lt _ h0)
theorem str_a : V.str "a" = tx [97] := by decide +kernel
theorem str_abcdz : V.str "abcdz" = tx [97, 98, 99, 100, 122] := by decide +kernel
theorem bools_dp (K : PySem.W.Frag) (H : Hp) : ∀ bs : List Bool, DpAll K H (bs.map V.bl) (bs.map PyData.bool)
  | [] => .nil
  | b :: bs => .cons (.bl b) (bools_dp K H bs)
theorem bools_ok : ∀ bs : List Bool, PyData.showableAll (bs.map .bool) = true ∧ PyData.hasDictAll (bs.map .bool) = false ∧ PyData.depthAll (bs.map .bool) = 0 ∧ PyData.leavesShortAll 13 (bs.map .bool) = true ∧ PyData.bulkAll (bs.map .bool) = bs.length
  | [] => ⟨rfl, rfl, rfl, rfl, rfl⟩
  | b :: bs => by
    obtain ⟨h1, h2, h3, h4, h5⟩ := bools_ok bs
    refine ⟨h1, h2, ?_, h4, ?_⟩
    · show max 0 (PyData.depthAll (bs.map .bool)) = 0
      rw [h3]; rfl
    · show 0 + 1 + PyData.bulkAll (bs.map .bool) = bs.length + 1
      rw [h5]; omega
theorem rep_bools {K : PySem.W.Frag} {H : Hp} {a : Addr} {bs : List Bool} {Q : VK} (ha : H a = some (.lst (bs.map V.bl))) (hl : bs.length ≤ 1000) (q : Q (.str (PyData.shown (.list (bs.map .bool)))) H) : rReprAI K [.ref a] H Q := by
  obtain ⟨h1, h2, h3, h4, h5⟩ := bools_ok bs
  exact rep_small (.lst (SqL.of ha) (bools_dp K H bs)) h1 h2 (by show PyData.depthAll _ + 1 ≤ 20; rw [h3]; decide) h4 (by show PyData.bulkAll _ ≤ 5000; rw [h5]; omega) q
def spRise : Sp := fun vs H Q _ => ∃ a : Tx, vs = [tx a] ∧ Lets a ∧ a.length ≤ 3000 ∧ ∀ H', Ex H H' → Q (tx (ris a)) H'
def spLets (C : Addr) : Sp := fun vs H Q _ => ∃ (q : Addr) (b l B L : Tx), vs = [.ref q, tx b, tx l] ∧ WAt C H q B L ∧ WOk B L ∧ Plain (om b l) B L ∧ GP b l ∧ ∀ H', Ex H H' → Q (.bl true) H'
section
variable {P : Program} {w : World} {K : PySem.W.Frag} {mg : Str → Option Value} {base : Heap} {C_Word : Addr}
theorem ok_rise {f fE fA fG fP fH : Addr} {fd : FuncData} (F : Fun K "_law_rising" "_law_rising" st__law_rising f fd) (T : T13 K mg C_Word fE fA fG fP fH) : FnOk P w K mg base CX0 1 f fd ["_law_text_here"] spRise := by
  refine F.ok sc__law_rising (fun vs H Q E h => ?_) (fun cdv A outer s H vs Q E hr h => ?_)
  · obtain ⟨a, rfl, _⟩ := h
    rfl
  · obtain ⟨a, rfl, la, hl, k⟩ := h
    refine ⟨_, (pss_one (ps_ret (pe_joinT pe_str (pe_callB (cr_sortT rfl) rfl T.n_sorted (by decide +kernel) (pa_cons (pe_callTy (call_setT rfl) rfl T.n_set (by decide +kernel) (pa_cons (pe_callTy (call_listT rfl) rfl T.n_list (by decide +kernel) (pa_cons (pv 0) pa_nil)) pa_nil)) pa_nil))))), ?_⟩
    refine ⟨⟨_, rfl⟩, _, rfl, a, rfl, sz_of (by omega), fun p1 hp1 => ⟨p1, a.map fun c => stx [c], rfl, by rw [List.map_map]; exact SqL.of upd_same, by rw [List.length_map]; omega, fun p2 hp2 => ⟨p2, _, _, rfl, upd_same, fun x hx => ?_, fun cs p3 hs hm hp3 => ?_⟩⟩⟩
    · have := (metS_mem _ _).mp (of_decide_eq_true hx)
      obtain ⟨c, _, e⟩ := List.mem_map.mp this
      exact ⟨c, e.symm⟩
    · have e : cs = ris a := sorted_one _ _ hs (ris_sorted a) fun c => by
        rw [hm c, ris_mem la]
        unfold metB
        rw [decide_eq_true_eq, metS_mem, List.mem_map]
        exact ⟨fun ⟨d, hd, e⟩ => stx1_inj e ▸ hd, fun h => ⟨c, h, rfl⟩⟩
      subst e
      refine ⟨p3, (ris a).map fun c => [c], str_nil, rfl, by rw [List.map_map]; exact SqL.of upd_same, ?_, ?_⟩
      · rw [flat1]
        exact Nat.le_trans (ris_len a) (by decide)
      · rw [flat1]
        exact k _ ((Ex.new hp1).trans ((Ex.new hp2).trans (Ex.new hp3)))
theorem ok_letters {f fI fE fA fG fP fH pB gB pL gL : Addr} {fd fdI fdE fdA fdG fdP fdH fdB fdL : FuncData} (F : Fun K "_law_letters_right" "_law_letters_right" st__law_letters_right f fd) (T : W13 P w K mg base C_Word fI fE fA fG fP fH pB gB pL gL fdI fdE fdA fdG fdP fdH fdB fdL)
    (D1 : Df P w K mg base 1 "_law_rising" ["_law_text_here"] spRise) : GOk P w K mg base 4 f fd ["_law_word", "_law_begin", "_law_lap"] (spLets C_Word) := by
  obtain ⟨f1, fd1, G__law_rising, m__law_rising, k__law_rising, b__law_rising⟩ := D1
  obtain ⟨f5, fd5, G_coming, M_coming, b_coming⟩ := T.coming
  obtain ⟨f6, fd6, G_again, M_again, b_again⟩ := T.again
  have G_contains := T.gH
  have b_contains := T.bH
  refine fun_okG F sc__law_letters_right (fun vs H Q E h => ?_) (fun cdv A outer s H vs Q hgd hr h => ?_)
  · obtain ⟨q, b, l, B, L, rfl, _⟩ := h
    rfl
  · obtain ⟨q, b, l, B, L, rfl, ⟨dx, hq⟩, ok, pl, g, k⟩ := h
    have hr__law_rising := hr.mono (show 1 ≤ 3 by decide)
    have hr_coming := hr.mono (show 2 ≤ 3 by decide)
    have hr_again := hr.mono (show 2 ≤ 3 by decide)
    have hr_contains := hr.mono (show 1 ≤ 3 by decide)
    have hb1 := g.bb
    have hl1 := g.bl
    have noC : (wf B L).lookup ("coming" : Str) = none := wf_no (by decide +kernel) (by decide +kernel)
    have noA : (wf B L).lookup ("again" : Str) = none := wf_no (by decide +kernel) (by decide +kernel)
    have eqW : ∀ m, om B L m = om b l m := pl.rep
    have mBL : ∀ c, c ∈ B ++ L ↔ c ∈ b ++ l := fun c => by
      rw [mem_om ok.pos, mem_om g.pos]
      exact ⟨fun ⟨n, e⟩ => ⟨n, by rw [← eqW]; exact e⟩, fun ⟨n, e⟩ => ⟨n, by rw [eqW]; exact e⟩⟩
    have mL : ∀ c, c ∈ L ↔ c ∈ l := fun c => by
      rw [mem_lap (b := B) ok.pos, mem_lap (b := b) g.pos]
      exact ⟨fun h N => let ⟨n, hn, e⟩ := h N; ⟨n, hn, by rw [← eqW]; exact e⟩, fun h N => let ⟨n, hn, e⟩ := h N; ⟨n, hn, by rw [eqW]; exact e⟩⟩
    refine ⟨_, (pss_cons (ps_for PassesOwn.never rfl (pi_range1 rfl T.n_range (pa_cons pe_int pa_nil)) (pg_name (i := 3) sc__law_letters_right.nd rfl (Or.inl rfl)) (pss_one (ps_if (pt_cmpR op_ne (pe_callB (call_reprAI hgd hr) rfl T.n_repr (by decide +kernel) (pa_cons (pe_lst (pa_cons (pe_meth0 (pv 0) T.cl M_coming G_coming hr_coming b_coming .nil pass0) (pa_cons (pe_meth0 (pv 0) T.cl M_again G_again hr_again b_again .nil pass0) pa_nil))) pa_nil)) (pe_callB (call_reprAI hgd hr) rfl T.n_repr (by decide +kernel) (pa_cons (pe_lst (pa_cons (pe_call G__law_rising hr__law_rising rfl m__law_rising k__law_rising b__law_rising .nil pass0 (pa_cons (pe_op op_addT (pv 1) (pv 2)) pa_nil)) (pa_cons (pe_call G__law_rising hr__law_rising rfl m__law_rising k__law_rising b__law_rising .nil pass0 (pa_cons (pv 2) pa_nil)) pa_nil))) pa_nil)) (nomark _)) (pss_one (ps_ret pe_bl)) pss_nil)))
      (pss_cons (ps_setLc (i := 4) (own := [("_law_sign_here", 6)]) (g := gName 6) rfl sc__law_letters_right.nd rfl rfl (sw_true rfl rfl rfl (by decide +kernel)) (pi_str pe_str) (blkOk_by (own := [("_law_sign_here", 6)]) (N := ["_law_word", "_law_begin", "_law_lap", "_law_turn", "_law_told", "_law_odd", "_law_sign_here", "_law_thing"]) (sc := defScope st__law_letters_right) (by decide +kernel)) (fun _ _ _ _ _ => (pg_name (i := 6) sc__law_letters_right.nd rfl (Or.inl rfl))) (fun _ _ _ _ _ => pts_nil) (fun _ _ _ _ _ => (pe_cmpR (op_inOwn (C := C_Word) G_contains hr_contains b_contains pass0 T.sHas T.fHas) (pv 6) (pv 0) rfl)))
      (pss_cons (ps_if (pt_cmpR op_ne (pe_callB (call_reprAI hgd hr) rfl T.n_repr (by decide +kernel) (pa_cons (pv 4) pa_nil)) (pe_callB (call_reprAI hgd hr) rfl T.n_repr (by decide +kernel) (pa_cons (pe_lc (own := [("_law_sign_here", 6)]) (g := gName 6) rfl sc__law_letters_right.nd (pi_str pe_str) (blkOk_by (own := [("_law_sign_here", 6)]) (N := ["_law_word", "_law_begin", "_law_lap", "_law_turn", "_law_told", "_law_odd", "_law_sign_here", "_law_thing"]) (sc := defScope st__law_letters_right) (by decide +kernel)) (fun _ _ _ _ _ => (pg_name (i := 6) sc__law_letters_right.nd rfl (Or.inl rfl))) (fun _ _ _ _ _ => pts_nil) (fun _ _ _ _ _ => (pe_cmpR op_inT (pv 6) (pe_op op_addT (pv 1) (pv 2)) rfl))) pa_nil)) (nomark _)) (pss_one (ps_ret pe_bl)) pss_nil)
      (pss_cons (ps_set (i := 5) sc__law_letters_right.nd rfl (Or.inl rfl) (pe_lst (pa_cons pe_str (pa_cons pe_str (pa_cons pe_str (pa_cons (pe_op op_addT (pe_op op_addT (pv 1) (pv 2)) pe_str) (pa_cons pe_non (pa_cons pe_int (pa_cons pe_bl (pa_cons (pe_lst (pa_cons pe_str pa_nil)) (pa_cons (pe_tup (pa_cons pe_str pa_nil)) (pa_cons pe_dnewK (pa_cons (pe_lst pa_nil) (pa_cons (pe_disp (pps_cons pe_str pe_int pps_nil) rfl rfl (by decide) (by decide)) (pa_cons pe_str (pa_cons pe_str pa_nil))))))))))))))))
      (pss_one (ps_ret (pe_not (pe_callB (cr_any rfl) rfl T.n_any (by decide +kernel) (pa_cons (pe_lc (own := [("_law_thing", 7)]) (g := gName 7) rfl sc__law_letters_right.nd (pi_list (pv 5)) (blkOk_by (own := [("_law_thing", 7)]) (N := ["_law_word", "_law_begin", "_law_lap", "_law_turn", "_law_told", "_law_odd", "_law_sign_here", "_law_thing"]) (sc := defScope st__law_letters_right) (by decide +kernel)) (fun _ _ _ _ _ => (pg_name (i := 7) sc__law_letters_right.nd rfl (Or.inl rfl))) (fun _ _ _ _ _ => pts_nil) (fun _ _ _ _ _ => (pe_cmpR (op_inOwn (C := C_Word) G_contains hr_contains b_contains pass0 T.sHas T.fHas) (pv 7) (pv 0) rfl))) pa_nil))))))))), ?_⟩
    refine ⟨_, rfl, by decide, by decide, for_range (lo := 0) (n := 2) (fun _ σ H' => (∃ a, σ = [some (.ref q), some (tx b), some (tx l), a, none, none, none, none]) ∧ Ex H H') ⟨⟨none, rfl⟩, Ex.refl _⟩ ?_ ?_⟩
    · rintro i σ H' hi ⟨⟨a, rfl⟩, ex⟩
      replace hq := ex _ _ hq
      refine ⟨_, rfl, q, dx, _, rfl, hq, noC, q, B, L, rfl, ⟨dx, hq⟩, ok, fun H1 e1 => ?_⟩
      replace hq := e1 _ _ hq
      replace ex := ex.trans e1
      refine ⟨_, rfl, q, dx, _, rfl, hq, noA, q, B, L, rfl, ⟨dx, hq⟩, fun H2 e2 => ⟨two, fun D1 hD1 => rep_txts upd_same (ris_lets _) (ris_lets _) (Nat.le_trans (ris_len _) (by decide)) (Nat.le_trans (ris_len _) (by decide)) ?_⟩⟩
      refine ⟨_, rfl, _, rfl, b, l, rfl, rfl, sz_of (by omega), b ++ l, rfl, lets_app g.lb g.ll, by rw [List.length_append]; omega, fun H3 e3 => ⟨_, rfl, l, rfl, g.ll, by omega, fun H4 e4 => ⟨two, fun D2 hD2 => rep_txts upd_same (ris_lets _) (ris_lets _) (Nat.le_trans (ris_len _) (by decide)) (Nat.le_trans (ris_len _) (by decide)) ?_⟩⟩⟩
      exact ⟨rfl, false, bl_nf (by rw [ris_congr mBL, ris_congr mL]), iteF ⟨⟨_, rfl⟩, ex.trans (e2.trans ((Ex.new hD1).trans (e3.trans (e4.trans (Ex.new hD2)))))⟩⟩
    · rintro σ H' ⟨⟨a, rfl⟩, ex⟩
      replace hq := ex _ _ hq
      have mem5 : ∀ (i c : Nat), (stx [97, 98, 99, 100, 122]).cps[i]? = some c → i < 5 ∧ ([97, 98, 99, 100, 122] : Tx).take (i + 1) = ([97, 98, 99, 100, 122] : Tx).take i ++ [c] := fun i c hc => by
        have hc' : ([97, 98, 99, 100, 122] : Tx)[i]? = some c := by simpa [stx] using hc
        obtain ⟨h1, h2⟩ := List.getElem?_eq_some_iff.mp hc'
        refine ⟨h1, ?_⟩
        rw [List.take_succ_eq_append_getElem h1, h2]
      rw [str_abcdz]
      -- told
      refine ⟨_, rfl, fun D1 hD1 => lc_it walk_str (fun i H1 => i ≤ 5 ∧ H1 = upd H' D1 (.lst (((([97, 98, 99, 100, 122] : Tx).take i).map fun c => decide (c ∈ B ++ L)).map V.bl))) ⟨Nat.zero_le _, rfl⟩ (fun _ _ _ _ => trivial) ?_ ?_⟩
      · rintro i x H1 H2 hi ⟨h1, rfl⟩ ⟨rfl, c, hc, rfl⟩
        obtain ⟨i5, ht⟩ := mem5 i c hc
        have hq1 := (Ex.new hD1 (o := .lst (((([97, 98, 99, 100, 122] : Tx).take i).map fun c => decide (c ∈ B ++ L)).map V.bl))) _ _ hq
        refine ⟨rfl, turn_yes ?_⟩
        refine ⟨_, rfl, _, rfl, q, dx, _, rfl, hq1, q, tx [c], B, L, _, rfl, ⟨dx, hq1⟩, ok, .inl ⟨c, rfl, rfl⟩, _, rfl, _, upd_same, by rw [List.length_map, List.length_map, List.length_take]; exact sz_lt (by omega), by omega, ?_⟩
        rw [upd_upd, ht, List.map_append, List.map_append]
        rfl
      · rintro H1 ⟨_, rfl⟩
        have e1 := Ex.new hD1 (o := .lst (((([97, 98, 99, 100, 122] : Tx).take (stx [97, 98, 99, 100, 122]).cps.size).map fun c => decide (c ∈ B ++ L)).map V.bl))
        replace hq := e1 _ _ hq
        replace ex := ex.trans e1
        refine ⟨_, rfl, rep_bools upd_same (by show 5 ≤ 1000; decide) ?_⟩
        generalize upd H' D1 (.lst (((([97, 98, 99, 100, 122] : Tx).take (stx [97, 98, 99, 100, 122]).cps.size).map fun c => decide (c ∈ B ++ L)).map V.bl)) = H2 at *
        refine ⟨_, rfl, fun D2 hD2 => lc_it walk_str (fun i H1 => i ≤ 5 ∧ H1 = upd H2 D2 (.lst (((([97, 98, 99, 100, 122] : Tx).take i).map fun c => decide (c ∈ b ++ l)).map V.bl))) ⟨Nat.zero_le _, rfl⟩ (fun _ _ _ _ => trivial) ?_ ?_⟩
        · rintro i x H1 H3 hi ⟨h1, rfl⟩ ⟨rfl, c, hc, rfl⟩
          obtain ⟨i5, ht⟩ := mem5 i c hc
          refine ⟨rfl, turn_yes ?_⟩
          refine ⟨_, rfl, _, rfl, _, rfl, b, l, rfl, rfl, sz_of (by omega), c, b ++ l, rfl, rfl, _, upd_same, by rw [List.length_map, List.length_map, List.length_take]; exact sz_lt (by omega), by omega, ?_⟩
          rw [upd_upd, ht, List.map_append, List.map_append]
          rfl
        · rintro H1 ⟨_, rfl⟩
          have e2 := Ex.new hD2 (o := .lst (((([97, 98, 99, 100, 122] : Tx).take (stx [97, 98, 99, 100, 122]).cps.size).map fun c => decide (c ∈ b ++ l)).map V.bl))
          replace hq := e2 _ _ hq
          replace ex := ex.trans e2
          have ed : (fun c => decide (c ∈ B ++ L)) = fun c => decide (c ∈ b ++ l) := by
            funext c
            rw [Bool.eq_iff_iff, decide_eq_true_eq, decide_eq_true_eq]
            exact mBL c
          refine rep_bools upd_same (by show 5 ≤ 1000; decide) ⟨rfl, false, bl_nf (by rw [ed]), iteF ?_⟩
          generalize upd H2 D2 (.lst (((([97, 98, 99, 100, 122] : Tx).take (stx [97, 98, 99, 100, 122]).cps.size).map fun c => decide (c ∈ b ++ l)).map V.bl)) = H3 at *
          -- odd
          refine ⟨_, rfl, _, rfl, b, l, rfl, rfl, sz_of (by omega), b ++ l, [97], rfl, str_a, sz_of (by rw [List.length_append]; show _ + 1 ≤ 100000; omega), by show 1 ≤ sizeLine; decide, fun p1 hp1 => ?_⟩
          have a1 : upd H3 p1 (.lst [V.str "a"]) p1 = some (.lst [V.str "a"]) := upd_same
          have e3 := Ex.new hp1 (o := .lst [V.str "a"])
          refine ⟨by show 1 ≤ sizeLine; decide, fun p2 hp2 => ?_⟩
          have a2 : upd (upd H3 p1 (.lst [V.str "a"])) p2 (.tup [V.str "a"]) p2 = some (.tup [V.str "a"]) := upd_same
          have e4 := Ex.new hp2 (o := .tup [V.str "a"])
          replace a1 := e4 _ _ a1
          replace e4 := e3.trans e4
          generalize upd (upd H3 p1 (.lst [V.str "a"])) p2 (.tup [V.str "a"]) = H4 at *
          intro p3 hp3
          have a3 : upd H4 p3 (.dK []) p3 = some (.dK []) := upd_same
          have e5 := Ex.new hp3 (o := .dK [])
          replace a1 := e5 _ _ a1
          replace a2 := e5 _ _ a2
          replace e5 := e4.trans e5
          generalize upd H4 p3 (.dK []) = H5 at *
          refine ⟨by show 0 ≤ sizeLine; decide, fun p4 hp4 => ?_⟩
          have a4 : upd H5 p4 (.lst []) p4 = some (.lst []) := upd_same
          have e6 := Ex.new hp4 (o := .lst [])
          replace a1 := e6 _ _ a1
          replace a2 := e6 _ _ a2
          replace a3 := e6 _ _ a3
          replace e6 := e5.trans e6
          generalize upd H5 p4 (.lst []) = H6 at *
          intro p5 hp5
          refine ⟨upd_same, [(.inr "a", .int 1)], rfl, by decide, ?_⟩
          have a5 : upd (upd H6 p5 (.dK [])) p5 (.dK (mergeK [] [(.inr "a", .int 1)])) p5 = some (.dK (mergeK [] [(.inr "a", .int 1)])) := upd_same
          have e7 := (Ex.new hp5 (o := .dK [])).mut (o := .dK (mergeK [] [(.inr "a", .int 1)])) hp5
          replace a1 := e7 _ _ a1
          replace a2 := e7 _ _ a2
          replace a3 := e7 _ _ a3
          replace a4 := e7 _ _ a4
          replace e7 := e6.trans e7
          generalize upd (upd H6 p5 (.dK [])) p5 (.dK (mergeK [] [(.inr "a", .int 1)])) = H7 at *
          refine ⟨by show 14 ≤ sizeLine; decide, fun D3 hD3 => ?_⟩
          have each : ∀ H8, Ex H7 H8 → ∀ (i : Nat) (x : V), ([V.str "", V.str "ab", V.str "aa", tx (b ++ l ++ [97]), .non, .int 0, .bl true, .ref p1, .ref p2, .ref p3, .ref p4, .ref p5, V.str "A", V.str " "] : List V)[i]? = some x → Has K H8 B L x false := by
            intro H8 e8 i x hx
            have no : ∀ c, c < 97 → false = decide (c ∈ B ++ L) := fun c hc => (decide_eq_false (fun z => by
              rcases List.mem_append.mp z with z | z
              · have := (ok.lB c z).1; omega
              · have := (ok.lL c z).1; omega)).symm
            have kl : ∀ t, kitB t "str" = some false → TyX K H8 x (.type t) → Has K H8 B L x false := fun t h1 h2 => .inr (.inr ⟨t, h2, h1, rfl⟩)
            match i with
            | 0 => cases hx; exact .inr (.inl ⟨[], str_nil, by decide, by decide, rfl⟩)
            | 1 => cases hx; exact .inr (.inl ⟨[97, 98], by decide +kernel, by decide, by decide, rfl⟩)
            | 2 => cases hx; exact .inr (.inl ⟨[97, 97], by decide +kernel, by decide, by decide, rfl⟩)
            | 3 => cases hx; exact .inr (.inl ⟨b ++ l ++ [97], rfl, by rw [List.length_append, List.length_append]; have := g.pos; show _ + 1 ≠ 1; omega, by rw [List.length_append, List.length_append]; show _ + 1 ≤ 100000; omega, rfl⟩)
            | 4 => cases hx; exact kl "NoneType" (by decide +kernel) (.base .non)
            | 5 => cases hx; exact kl "int" (by decide +kernel) (.base (.int _))
            | 6 => cases hx; exact kl "bool" (by decide +kernel) (.base (.bl _))
            | 7 => cases hx; exact kl "list" (by decide +kernel) (.base (.lst (e8 _ _ a1)))
            | 8 => cases hx; exact kl "tuple" (by decide +kernel) (.base (.tup (e8 _ _ a2)))
            | 9 => cases hx; exact kl "dict" (by decide +kernel) (.base (.dK (e8 _ _ a3)))
            | 10 => cases hx; exact kl "list" (by decide +kernel) (.base (.lst (e8 _ _ a4)))
            | 11 => cases hx; exact kl "dict" (by decide +kernel) (.base (.dK (e8 _ _ a5)))
            | 12 => cases hx; exact .inl ⟨65, by decide +kernel, no 65 (by decide)⟩
            | 13 => cases hx; exact .inl ⟨32, by decide +kernel, no 32 (by decide)⟩
            | i + 14 => cases hx
          have e8 := Ex.new hD3 (o := .lst [V.str "", V.str "ab", V.str "aa", tx (b ++ l ++ [97]), .non, .int 0, .bl true, .ref p1, .ref p2, .ref p3, .ref p4, .ref p5, V.str "A", V.str " "])
          have aD : upd H7 D3 (.lst [V.str "", V.str "ab", V.str "aa", tx (b ++ l ++ [97]), .non, .int 0, .bl true, .ref p1, .ref p2, .ref p3, .ref p4, .ref p5, V.str "A", V.str " "]) D3 = some (.lst [V.str "", V.str "ab", V.str "aa", tx (b ++ l ++ [97]), .non, .int 0, .bl true, .ref p1, .ref p2, .ref p3, .ref p4, .ref p5, V.str "A", V.str " "]) := upd_same
          replace hq := e8 _ _ (e7 _ _ hq)
          replace ex := ex.trans (e7.trans e8)
          generalize upd H7 D3 (.lst [V.str "", V.str "ab", V.str "aa", tx (b ++ l ++ [97]), .non, .int 0, .bl true, .ref p1, .ref p2, .ref p3, .ref p4, .ref p5, V.str "A", V.str " "]) = H8 at *
          refine ⟨_, rfl, D3, rfl, ⟨_, SqL.of aD⟩, fun D4 hD4 => lc_list (fun i H1 => i ≤ 14 ∧ H1 = upd H8 D4 (.lst ((List.replicate i false).map V.bl))) ⟨Nat.zero_le _, rfl⟩ (fun i H1 _ z => SqL.of (by rw [z.2]; exact Ex.new hD4 _ _ aD)) ?_ ?_⟩
          · rintro i x H1 hx ⟨h1, rfl⟩
            have hi : i < 14 := (List.getElem?_eq_some_iff.mp hx).1
            have e9 := Ex.new hD4 (o := .lst ((List.replicate i false).map V.bl))
            have hq1 := e9 _ _ hq
            refine ⟨rfl, turn_yes ?_⟩
            refine ⟨_, rfl, _, rfl, q, dx, _, rfl, hq1, q, x, B, L, _, rfl, ⟨dx, hq1⟩, ok, each _ (e8.trans e9) i x hx, _, rfl, _, upd_same, by rw [List.length_map, List.length_replicate]; exact sz_lt (by omega), by omega, ?_⟩
            rw [upd_upd, List.replicate_succ', List.map_append]
            rfl
          · rintro H1 ⟨_, rfl⟩
            refine ⟨D4, List.replicate 14 false, rfl, SqL.of upd_same, ?_⟩
            exact ⟨false, rfl, k _ (ex.trans (Ex.new hD4))⟩
end
end LW
end
section
set_option maxRecDepth 100000
set_option maxHeartbeats 4000000
namespace LW
open PySem L2 RX WM Evl
abbrev st__law_right : Stmt := top 32
theorem sc__law_right : FnScope ["_law_pot_here", "_law_signs", "_law_begin", "_law_lap", "_law_word", "_law_shown", "_law_sign_here"] ["_law_pot_here"] (defScope st__law_right) := ⟨rfl, rfl, rfl, by decide +kernel, rfl, by decide +kernel, by decide +kernel⟩
abbrev st_law : Stmt := top 33
theorem sc_law : FnScope ["_law_script", "_law_k"] ["_law_script"] (defScope st_law) := ⟨rfl, rfl, rfl, by decide +kernel, rfl, by decide +kernel, by decide +kernel⟩
theorem str_d : V.str "d" = tx [100] := by decide +kernel
theorem lets_rep {a : Tx} (h : Lets a) (k : Nat) : Lets (repT a k) := fun c hc => by
  unfold repT at hc
  obtain ⟨l, hl, hc⟩ := List.mem_flatten.mp hc
  rw [List.eq_of_mem_replicate hl] at hc
  exact h c hc
def spFar : Sp := fun vs H Q _ => ∃ (p : Addr), vs = [.ref p] ∧ PotAt H p ∧ ∀ H', Mv p H H' → Q (.bl true) H'
def spLaw (K : PySem.W.Frag) : Sp := fun vs H Q _ => ∃ (a : Addr) (ns : List Int), vs = [.ref a] ∧ SqL K H a (ns.map V.int) ∧ ns.length ≤ 63 ∧ ∀ H', Q (.bl true) H'
/-- a def of the module, run where no repr is under way -/
def Dg (P : Program) (w : World) (K : PySem.W.Frag) (mg : Str → Option Value) (base : Heap) (k : Nat) (x : Str) (ps : List Str) (sp : Sp) : Prop :=
  ∃ f fd, GOk P w K mg base k f fd ps sp ∧ mg x = some (.ref f) ∧ PySem.W.keepIn K (.ref f) = true ∧ Binds K fd ps []
section
variable {P : Program} {w : World} {K : PySem.W.Frag} {mg : Str → Option Value} {base : Heap} {C_Word : Addr}
theorem ok_right {f fI fE fA fG fP fH pB gB pL gL : Addr} {fd fdI fdE fdA fdG fdP fdH fdB fdL : FuncData} (F : Fun K "_law_right" "_law_right" st__law_right f fd) (T : W13 P w K mg base C_Word fI fE fA fG fP fH pB gB pL gL fdI fdE fdA fdG fdP fdH fdB fdL)
    (D1 : Df P w K mg base 1 "_law_draw" ["_law_pot_here", "_law_many"] spDraw) (D2 : ∃ f fd, FnOk P w K mg base CX0 2 f fd ["_law_pot_here", "_law_some"] spPick ∧ FnOk P w K mg base CX0 2 f fd ["_law_pot_here", "_law_some"] spPickL ∧ mg "_law_pick" = some (.ref f) ∧ PySem.W.keepIn K (.ref f) = true ∧ Binds K fd ["_law_pot_here", "_law_some"] []) (D4 : Df P w K mg base 3 "_law_text" ["_law_pot_here", "_law_signs", "_law_most"] spText)
    (D5 : Df P w K mg base 5 "_law_is" ["_law_word", "_law_begin", "_law_lap"] (spIs C_Word)) (D6 : Df P w K mg base 6 "_law_places_right" ["_law_word", "_law_begin", "_law_lap", "_law_numbers_here"] (spPlaces C_Word)) (D7 : Df P w K mg base 6 "_law_ahead_right" ["_law_pot_here", "_law_word", "_law_begin", "_law_lap"] (spAhead C_Word))
    (D8 : Df P w K mg base 2 "_law_numbers" ["_law_pot_here"] spNums) (D9 : Dg P w K mg base 4 "_law_letters_right" ["_law_word", "_law_begin", "_law_lap"] (spLets C_Word)) : GOk P w K mg base 7 f fd ["_law_pot_here"] spFar := by
  obtain ⟨f1, fd1, G__law_draw, m__law_draw, k__law_draw, b__law_draw⟩ := D1
  obtain ⟨f2, fd2, G__law_pick, G__law_pickL, m__law_pick, k__law_pick, b__law_pick⟩ := D2
  obtain ⟨f4, fd4, G__law_text, m__law_text, k__law_text, b__law_text⟩ := D4
  obtain ⟨f5, fd5, G__law_is, m__law_is, k__law_is, b__law_is⟩ := D5
  obtain ⟨f6, fd6, G__law_places_right, m__law_places_right, k__law_places_right, b__law_places_right⟩ := D6
  obtain ⟨f7, fd7, G__law_ahead_right, m__law_ahead_right, k__law_ahead_right, b__law_ahead_right⟩ := D7
  obtain ⟨f8, fd8, G__law_numbers, m__law_numbers, k__law_numbers, b__law_numbers⟩ := D8
  obtain ⟨f9, fd9, G__law_letters_right, m__law_letters_right, k__law_letters_right, b__law_letters_right⟩ := D9
  have m_Word := T.m_Word
  have MK_Word := T.mkW
  have G_Word_init := T.gI
  have b_Word_init := T.bI
  have G_repr := T.gP
  have b_repr := T.bP
  refine fun_okG F sc__law_right (fun vs H Q E h => ?_) (fun cdv A outer s H vs Q hgd hr h => ?_)
  · obtain ⟨p, rfl, _⟩ := h
    rfl
  · obtain ⟨p, rfl, hp, k⟩ := h
    have hr__law_draw := hr.mono (show 1 ≤ 6 by decide)
    have hr__law_pick := hr.mono (show 2 ≤ 6 by decide)
    have hr__law_text := hr.mono (show 3 ≤ 6 by decide)
    have hr__law_is := hr.mono (show 5 ≤ 6 by decide)
    have hr__law_places_right := hr
    have hr__law_ahead_right := hr
    have hr__law_numbers := hr.mono (show 2 ≤ 6 by decide)
    have hr__law_letters_right := hr.mono (show 4 ≤ 6 by decide)
    have hr_Word := hr.mono (show 4 ≤ 6 by decide)
    have hr_repr := hr.mono (show 2 ≤ 6 by decide)
    have lt3 : Lets [97, 98, 99] := lets_dec rfl
    refine ⟨_, (pss_cons (ps_set (i := 1) sc__law_right.nd rfl (Or.inr rfl) (pe_slice sl_T (pe_slice sl_T pe_str (po_some (pe_call G__law_draw hr__law_draw rfl m__law_draw k__law_draw b__law_draw .nil pass0 (pa_cons (pv 0) (pa_cons pe_int pa_nil)))) po_none) po_none (po_some (pe_op op_add pe_int (pe_call G__law_draw hr__law_draw rfl m__law_draw k__law_draw b__law_draw .nil pass0 (pa_cons (pv 0) (pa_cons pe_int pa_nil)))))))
      (pss_cons (ps_par (i := 2) (j := 3) rfl sc__law_right.nd rfl rfl (by decide) rfl rfl (pa_cons (pe_call G__law_text hr__law_text rfl m__law_text k__law_text b__law_text .nil pass0 (pa_cons (pv 0) (pa_cons (pv 1) (pa_cons pe_int pa_nil)))) (pa_cons (pe_op op_addT (pe_call G__law_text hr__law_text rfl m__law_text k__law_text b__law_text .nil pass0 (pa_cons (pv 0) (pa_cons (pv 1) (pa_cons pe_int pa_nil)))) (pe_call G__law_pick hr__law_pick rfl m__law_pick k__law_pick b__law_pick .nil pass0 (pa_cons (pv 0) (pa_cons (pv 1) pa_nil)))) pa_nil)) rfl)
      (pss_cons (ps_if (pt_cmpR op_eq (pe_call G__law_draw hr__law_draw rfl m__law_draw k__law_draw b__law_draw .nil pass0 (pa_cons (pv 0) (pa_cons pe_int pa_nil))) pe_int (nomark _)) (pss_cons (ps_set (i := 2) sc__law_right.nd rfl (Or.inl rfl) (pe_op op_addT (pv 2) pe_str))
      (pss_cons (ps_set (i := 3) sc__law_right.nd rfl (Or.inl rfl) (pe_op op_mulT (pe_call G__law_pickL hr__law_pick rfl m__law_pick k__law_pick b__law_pick .nil pass0 (pa_cons (pv 0) (pa_cons (pe_lc (own := [("_law_sign_here", 6)]) (g := gName 6) rfl sc__law_right.nd (pi_str (pv 1)) (blkOk_by (own := [("_law_sign_here", 6)]) (N := ["_law_pot_here", "_law_signs", "_law_begin", "_law_lap", "_law_word", "_law_shown", "_law_sign_here"]) (sc := defScope st__law_right) (by decide +kernel)) (fun _ _ _ _ _ => (pg_name (i := 6) sc__law_right.nd rfl (Or.inl rfl))) (fun _ _ _ _ _ => pts_nil) (fun _ _ _ _ _ => (pv 6))) pa_nil))) (pe_op op_add pe_int (pe_call G__law_draw hr__law_draw rfl m__law_draw k__law_draw b__law_draw .nil pass0 (pa_cons (pv 0) (pa_cons pe_int pa_nil))))))
      (pss_cons (ps_set (i := 1) sc__law_right.nd rfl (Or.inr rfl) (pe_op op_addT pe_str (pe_slice sl_T (pv 3) po_none (po_some pe_int))))
      (pss_one (ps_set (i := 2) sc__law_right.nd rfl (Or.inl rfl) (pe_joinT pe_str (pe_lc (own := [("_law_sign_here", 6)]) (g := gName 6) rfl sc__law_right.nd (pi_str (pv 2)) (blkOk_by (own := [("_law_sign_here", 6)]) (N := ["_law_pot_here", "_law_signs", "_law_begin", "_law_lap", "_law_word", "_law_shown", "_law_sign_here"]) (sc := defScope st__law_right) (by decide +kernel)) (fun _ _ _ _ _ => (pg_name (i := 6) sc__law_right.nd rfl (Or.inl rfl))) (fun _ _ _ _ _ => (pts_one (pt_cmpR op_inT (pv 6) (pv 1) rfl))) (fun _ _ _ _ _ => (pv 6))))))))) pss_nil)
      (pss_cons (ps_set (i := 4) sc__law_right.nd rfl (Or.inl rfl) (pe_make MK_Word G_Word_init hr_Word rfl m_Word b_Word_init .nil pass0 (pa_cons (pv 2) (pa_cons (pv 3) pa_nil))))
      (pss_cons (ps_set (i := 5) sc__law_right.nd rfl (Or.inl rfl) (pe_callB (call_reprOwn (C := C_Word) G_repr hr_repr b_repr pass0 T.sRepr T.fRepr) rfl T.n_repr (by decide +kernel) (pa_cons (pv 4) pa_nil)))
      (pss_cons (ps_if (PW.pt (pw_or (pt_not (pt_val (pe_call G__law_is hr__law_is rfl m__law_is k__law_is b__law_is .nil pass0 (pa_cons (pv 4) (pa_cons (pv 2) (pa_cons (pv 3) pa_nil)))))) (pw_or1 (pt_not (pt_val (pe_call G__law_places_right hr__law_places_right rfl m__law_places_right k__law_places_right b__law_places_right .nil pass0 (pa_cons (pv 4) (pa_cons (pv 2) (pa_cons (pv 3) (pa_cons (pe_call G__law_numbers hr__law_numbers rfl m__law_numbers k__law_numbers b__law_numbers .nil pass0 (pa_cons (pv 0) pa_nil)) pa_nil)))))))))) (pss_one (ps_ret pe_bl)) pss_nil)
      (pss_cons (ps_if (PW.pt (pw_or (pt_not (pt_val (pe_call G__law_ahead_right hr__law_ahead_right rfl m__law_ahead_right k__law_ahead_right b__law_ahead_right .nil pass0 (pa_cons (pv 0) (pa_cons (pv 4) (pa_cons (pv 2) (pa_cons (pv 3) pa_nil))))))) (pw_or1 (pt_not (pt_val (pe_callG G__law_letters_right hgd hr__law_letters_right rfl m__law_letters_right k__law_letters_right b__law_letters_right (pa_cons (pv 4) (pa_cons (pv 2) (pa_cons (pv 3) pa_nil))))))))) (pss_one (ps_ret pe_bl)) pss_nil)
      (pss_one (ps_ret (pe_and (pe_cmpR op_eq (pe_callB (call_reprOwn (C := C_Word) G_repr hr_repr b_repr pass0 T.sRepr T.fRepr) rfl T.n_repr (by decide +kernel) (pa_cons (pv 4) pa_nil)) (pv 5) (nomark _)) (pe_one (pe_call G__law_is hr__law_is rfl m__law_is k__law_is b__law_is .nil pass0 (pa_cons (pv 4) (pa_cons (pv 2) (pa_cons (pv 3) pa_nil))))))))))))))), ?_⟩
    -- signs
    refine ⟨_, rfl, p, 2, rfl, hp, by decide, by decide, fun d1 H1 hd1 m1 => ?_⟩
    refine ⟨_, rfl, [97, 98, 99], str_abc, by show 3 ≤ sizeLine; decide, ?_⟩
    refine ⟨_, rfl, p, 3, rfl, m1.pot, by decide, by decide, fun d2 H2 hd2 m2 => ?_⟩
    have mv := ((Mv.refl hp).trans m1).trans m2
    obtain ⟨sg, hsg⟩ : ∃ sg, sg = cutT (cutT [97, 98, 99] (some (d1 : Int)) none) none (some ((1 : Int) + (d2 : Int))) := ⟨_, rfl⟩
    have hsg2 : sg = (([97, 98, 99] : Tx).drop d1).take (1 + d2) := by
      rw [hsg, cutT_from, show (1 : Int) + (d2 : Int) = ((1 + d2 : Nat) : Int) by omega, cutT_to]
    have sg0 : 0 < sg.length := by rw [hsg2, List.length_take, List.length_drop]; show 0 < min (1 + d2) (3 - d1); omega
    have sg3 : sg.length ≤ 3 := by rw [hsg2, List.length_take, List.length_drop]; show min (1 + d2) (3 - d1) ≤ 3; omega
    have lsg : Lets sg := by rw [hsg2]; exact lets_take (lets_drop lt3 _) _
    refine ⟨_, _, rfl, rfl, _, rfl, _, rfl, by rw [cutT_from, List.length_drop]; exact sz_of (by show 3 - _ ≤ _; omega), ?_⟩
    have etx : tx (cutT (cutT [97, 98, 99] (some (d1 : Int)) none) none (some ((1 : Int) + (d2 : Int)))) = tx sg := by rw [hsg]
    -- begin, lap
    refine ⟨_, rfl, _, rfl, p, sg, 9, by rw [hsg]; rfl, mv.pot, sg0, by omega, by decide, by decide, fun b0 H3 hb0 hbl0 m3 => ?_⟩
    replace mv := mv.trans m3
    refine ⟨_, rfl, _, rfl, p, sg, 6, by rw [hsg]; rfl, mv.pot, sg0, by omega, by decide, by decide, fun l0 H4 hl0 hll0 m4 => ?_⟩
    replace mv := mv.trans m4
    refine ⟨_, rfl, _, rfl, p, sg, by rw [hsg]; rfl, mv.pot, sg0, by omega, fun c H5 hc m5 => ⟨l0, [c], rfl, rfl, sz_of (by show _ + 1 ≤ _; omega), _, _, rfl, ?_⟩⟩
    replace mv := mv.trans m5
    have g0 : GP b0 (l0 ++ [c]) := ⟨by rw [List.length_append]; show 0 < _ + 1; omega, by omega, by rw [List.length_append]; show _ + 1 ≤ 1000; omega, fun x hx => lsg x (hb0 x hx), lets_app (fun x hx => lsg x (hl0 x hx)) (fun x hx => by rw [List.mem_singleton.mp hx]; exact lsg c hc)⟩
    refine ⟨_, rfl, p, 4, rfl, mv.pot, by decide, by decide, fun d4 H6 hd4 m6 => ?_⟩
    replace mv := mv.trans m6
    by_cases h4 : d4 = 0
    case' neg =>
      refine ⟨rfl, false, bl_f (by intro z; injection z with z; omega), iteF ?_⟩
      obtain ⟨b, hb⟩ : ∃ b, b = b0 := ⟨_, rfl⟩
      obtain ⟨l, hl⟩ : ∃ l, l = l0 ++ [c] := ⟨_, rfl⟩
      rw [← hb, ← hl] at g0
      rw [← hb, ← hl]
      have g := g0
      clear g0 hb0 hl0 hb hl
    case' pos =>
      refine ⟨rfl, true, bl_t (by rw [h4]; rfl), iteT ?_⟩
      refine ⟨_, rfl, b0, [100], rfl, str_d, sz_of (by show _ + 1 ≤ _; omega), ?_⟩
      -- lap
      refine ⟨_, rfl, _, rfl, _, rfl, fun D hD => lc_it walk_str (fun i H1 => i ≤ sg.length ∧ H1 = upd H6 D (.lst ((sg.take i).map fun c => tx [c]))) ⟨Nat.zero_le _, rfl⟩ (fun _ _ _ _ => trivial) ?_ ?_⟩
      · rintro i x H7 H8 hi ⟨h1, rfl⟩ ⟨rfl, c1, hc1, rfl⟩
        rw [← hsg] at hc1
        have hc' : sg[i]? = some c1 := by simpa [stx] using hc1
        obtain ⟨hi', h2⟩ := List.getElem?_eq_some_iff.mp hc'
        refine ⟨rfl, turn_yes ⟨_, rfl, _, upd_same, by rw [List.length_map, List.length_take]; exact sz_lt (by omega), hi', ?_⟩⟩
        rw [upd_upd, List.take_succ_eq_append_getElem hi', h2, List.map_append]
        rfl
      rintro H7 ⟨_, rfl⟩
      have esz : sg.take (stx (cutT (cutT [97, 98, 99] (some (d1 : Int)) none) none (some ((1 : Int) + (d2 : Int))))).cps.size = sg := by
        rw [← hsg, show (stx sg).cps.size = sg.length by show sg.toArray.size = sg.length; simp, List.take_length]
      have nD : D ≠ p := mv.pot.ne hD
      refine ⟨p, D, (sg.take (stx (cutT (cutT [97, 98, 99] (some (d1 : Int)) none) none (some ((1 : Int) + (d2 : Int))))).cps.size).map fun c => tx [c], rfl, (mv.new hD).pot, nD, upd_same, by rw [esz, List.length_map]; exact sg0, by rw [esz, List.length_map]; omega, fun x H8 hx m8 => ?_⟩
      replace mv := (mv.new (o := .lst ((sg.take (stx (cutT (cutT [97, 98, 99] (some (d1 : Int)) none) none (some ((1 : Int) + (d2 : Int))))).cps.size).map fun c => tx [c])) hD).trans m8
      rw [esz] at hx
      obtain ⟨c2, hc2, rfl⟩ := List.mem_map.mp hx
      refine ⟨_, rfl, p, 3, rfl, mv.pot, by decide, by decide, fun d5 H9 hd5 m9 => ⟨_, _, rfl, rfl, [c2], 1 + d5, rfl, by rw [Int.natCast_add]; rfl, by omega, by show 1 * (1 + d5) ≤ _; omega, ?_⟩⟩
      replace mv := mv.trans m9
      have ll1 : (repT [c2] (1 + d5)).length = 1 + d5 := by rw [repT_len]; show _ * 1 = _; omega
      have lc2 : Lets [c2] := fun y hy => by rw [List.mem_singleton.mp hy]; exact lsg c2 hc2
      refine ⟨_, rfl, 1, rfl, repT [c2] (1 + d5), rfl, sz_of (by omega), [100], _, str_d, rfl, sz_of (by show 1 + _ ≤ _; rw [show cutT (repT [c2] (1 + d5)) none (some 1) = (repT [c2] (1 + d5)).take 1 from cutT_to _ 1, List.length_take]; omega), ?_⟩
      -- begin
      refine ⟨⟨_, rfl⟩, _, rfl, _, rfl, fun D2 hD2 => lc_it walk_str (fun i H1 => i ≤ (b0 ++ [100]).length ∧ H1 = upd H9 D2 (.lst ((((b0 ++ [100]).take i).filter fun c => decide (c ∈ [100] ++ cutT (repT [c2] (1 + d5)) none (some 1))).map fun c => tx [c]))) ⟨Nat.zero_le _, rfl⟩ (fun _ _ _ _ => trivial) ?_ ?_⟩
      · rintro i x H10 H11 hi ⟨h1, rfl⟩ ⟨rfl, c1, hc1, rfl⟩
        have hc' : (b0 ++ [100])[i]? = some c1 := by simpa [stx] using hc1
        obtain ⟨hi', h2⟩ := List.getElem?_eq_some_iff.mp hc'
        have hlb : (b0 ++ [100]).length ≤ 11 := by rw [List.length_append]; show _ + 1 ≤ 11; omega
        refine ⟨rfl, ?_⟩
        by_cases hm : c1 ∈ [100] ++ cutT (repT [c2] (1 + d5)) none (some 1)
        · refine ⟨_, rfl, _, rfl, c1, _, rfl, rfl, true, bl_t hm, iteT ?_⟩
          refine ⟨_, rfl, _, upd_same, by rw [List.length_map]; exact sz_lt (Nat.lt_of_le_of_lt (Nat.le_trans (List.length_filter_le _ _) (by rw [List.length_take]; exact Nat.min_le_right _ _)) (by omega)), hi', ?_⟩
          rw [upd_upd, List.take_succ_eq_append_getElem hi', h2, List.filter_append, List.map_append, List.filter_cons_of_pos (by rw [decide_eq_true_eq]; exact hm)]
          rfl
        · refine ⟨_, rfl, _, rfl, c1, _, rfl, rfl, false, bl_f hm, iteF ⟨hi', ?_⟩⟩
          rw [List.take_succ_eq_append_getElem hi', h2, List.filter_append, List.filter_cons_of_neg (by rw [decide_eq_true_eq]; exact hm), List.filter_nil, List.append_nil]
      rintro H10 ⟨_, rfl⟩
      have eb : (b0 ++ [100]).take (stx (b0 ++ [100])).cps.size = b0 ++ [100] := by
        rw [show (stx (b0 ++ [100])).cps.size = (b0 ++ [100]).length by show (b0 ++ [100]).toArray.size = (b0 ++ [100]).length; simp, List.take_length]
      rw [eb]
      obtain ⟨b, hb⟩ : ∃ b, b = (b0 ++ [100]).filter fun c => decide (c ∈ [100] ++ cutT (repT [c2] (1 + d5)) none (some 1)) := ⟨_, rfl⟩
      have hbl : b.length ≤ 11 := by
        rw [hb]
        refine Nat.le_trans (List.length_filter_le _ _) ?_
        rw [List.length_append]
        show _ + 1 ≤ 11
        omega
      have hbL : Lets b := fun y hy => by
        rw [hb] at hy
        exact lets_app (fun x hx => lsg x (hb0 x hx)) (lets_dec rfl) y (List.mem_filter.mp hy).1
      rw [← hb]
      refine ⟨D2, b.map fun c => [c], str_nil, rfl, by rw [List.map_map]; exact SqL.of upd_same, ?_, ?_⟩
      · rw [flat1]
        omega
      rw [flat1]
      replace mv := mv.new (o := .lst (b.map fun c => tx [c])) hD2
      generalize upd H9 D2 (.lst (b.map fun c => tx [c])) = H6 at *
      obtain ⟨l, hl⟩ : ∃ l, l = repT [c2] (1 + d5) := ⟨_, rfl⟩
      have g : GP b l := ⟨by rw [hl]; omega, by omega, by rw [hl]; omega, hbL, by rw [hl]; exact lets_rep lc2 _⟩
      rw [← hl]
      clear g0 hb0 hl0 hb hl
    all_goals
      have hb1 := g.bb
      have hl1 := g.bl
      refine ⟨_, rfl, _, rfl, fun q y nx ny ne => ⟨q, y, b, l, rfl, upd_same, g.wok, ?_⟩⟩
      rintro H20 B L ⟨dx, hq⟩ pl hB hL ok keep
      replace mv := mv.ex (made_ex nx ny keep)
      refine ⟨rfl, ?_⟩
      clear keep nx ny ne
      have eqW : ∀ m, om B L m = om b l m := pl.rep
      refine ⟨_, rfl, q, dx, _, rfl, hq, q, B, L, rfl, ⟨dx, hq⟩, ok, _, rfl, ?_⟩
      refine ⟨_, rfl, _, rfl, _, rfl, q, b, l, B, L, rfl, ⟨dx, hq⟩, ok, eqW, g.pos, by omega, fun H21 e21 => ⟨true, rfl, iteF ?_⟩⟩
      replace hq := e21 _ _ hq
      replace mv := mv.ex e21
      refine ⟨_, rfl, _, rfl, _, rfl, _, rfl, p, rfl, mv.pot, fun DN ns H22 fD mN hDN posN => ?_⟩
      replace hq := ins_mv mv.pot mN hq
      replace mv := mv.trans mN
      refine ⟨q, DN, b, l, B, L, ns, rfl, ⟨dx, hq⟩, ok, pl, g, by omega, by omega, hDN, posN, fun H23 e23 => ⟨true, rfl, iteF ?_⟩⟩
      replace hq := e23 _ _ hq
      replace mv := mv.ex e23
      refine ⟨_, rfl, _, rfl, _, rfl, _, rfl, p, q, b, l, B, L, rfl, mv.pot, ⟨dx, hq⟩, ok, pl, g, by omega, by omega, fun H24 m24 => ⟨true, rfl, iteF ?_⟩⟩
      replace hq := ins_mv mv.pot m24 hq
      replace mv := mv.trans m24
      refine ⟨_, rfl, _, rfl, _, rfl, q, b, l, B, L, rfl, ⟨dx, hq⟩, ok, pl, g, fun H25 e25 => ⟨true, rfl, iteF ?_⟩⟩
      replace hq := e25 _ _ hq
      replace mv := mv.ex e25
      refine ⟨_, rfl, q, dx, _, rfl, hq, q, B, L, rfl, ⟨dx, hq⟩, ok, _, rfl, _, rfl, rfl, true, bl_t rfl, iteT ?_⟩
      exact ⟨_, rfl, _, rfl, _, rfl, q, b, l, B, L, rfl, ⟨dx, hq⟩, ok, eqW, g.pos, by omega, fun H26 e26 => k _ (mv.ex e26)⟩
theorem ok_law {f : Addr} {fd : FuncData} (F : Fun K "law" "law" st_law f fd) (T : Bl mg) (D1 : Dg P w K mg base 7 "_law_right" ["_law_pot_here"] spFar) (D2 : Df P w K mg base 1 "_law_pot" ["_law_script", "_law_k"] (spPot K)) : GOk P w K mg base 8 f fd ["_law_script"] (spLaw K) := by
  obtain ⟨f1, fd1, G__law_right, m__law_right, k__law_right, b__law_right⟩ := D1
  obtain ⟨f2, fd2, G__law_pot, m__law_pot, k__law_pot, b__law_pot⟩ := D2
  refine fun_okG F sc_law (fun vs H Q E h => ?_) (fun cdv A outer s H vs Q hgd hr h => ?_)
  · obtain ⟨a, ns, rfl, _⟩ := h
    rfl
  · obtain ⟨a, ns, rfl, ha, hl, k⟩ := h
    have hr__law_right := hr
    have hr__law_pot := hr.mono (show 1 ≤ 7 by decide)
    refine ⟨_, (pss_one (ps_ret (pe_callB (cr_all rfl) rfl T.n_all (by decide +kernel) (pa_cons (pe_lc (own := [("_law_k", 1)]) (g := gName 1) rfl sc_law.nd (pi_range1 rfl T.n_range (pa_cons (pe_callB (call_max2 rfl) rfl T.n_max (by decide +kernel) (pa_cons pe_int (pa_cons (pe_callB (call_min2 rfl) rfl T.n_min (by decide +kernel) (pa_cons pe_int (pa_cons (pe_callB call_len_seq rfl T.n_len PySem.boot_len (pa_cons (pv 0) pa_nil)) pa_nil))) pa_nil))) pa_nil)) (blkOk_by (own := [("_law_k", 1)]) (N := ["_law_script", "_law_k"]) (sc := defScope st_law) (by decide +kernel)) (fun _ _ _ _ _ => (pg_name (i := 1) sc_law.nd rfl (Or.inl rfl))) (fun _ _ _ _ _ => pts_nil) (fun _ _ _ _ _ => (pe_callG G__law_right hgd hr__law_right rfl m__law_right k__law_right b__law_right (pa_cons (pe_call G__law_pot hr__law_pot rfl m__law_pot k__law_pot b__law_pot .nil pass0 (pa_cons (pv 0) (pa_cons (pv 1) pa_nil))) pa_nil)))) pa_nil)))), ?_⟩
    have hlen : (ns.map V.int).length = ns.length := List.length_map ..
    refine ⟨_, rfl, a, _, rfl, .inl ha, _, _, rfl, _, _, rfl, ?_⟩
    obtain ⟨m, hm⟩ : ∃ m : Int, m = (if (if ((ns.map V.int).length : Int) < 4 then ((ns.map V.int).length : Int) else 4) > 1 then (if ((ns.map V.int).length : Int) < 4 then ((ns.map V.int).length : Int) else 4) else 1) := ⟨_, rfl⟩
    have m1 : 0 ≤ m ∧ m ≤ 4 := by
      rw [hm]
      split <;> split <;> omega
    refine ⟨m, congrArg (fun z => [V.int z]) hm.symm, by omega, by omega, fun D hD => lc_range (lo := 0) (n := m.toNat) (fun i H' => Ex H H' ∧ i ≤ 4 ∧ H' D = some (.lst (List.replicate i (.bl true)))) ⟨Ex.new hD, Nat.zero_le _, upd_same⟩ ?_ ?_⟩
    · rintro i H' hi ⟨ex, h4, hD'⟩
      refine ⟨rfl, turn_yes ?_⟩
      refine ⟨_, rfl, _, rfl, a, (0 : Int) + (i : Int), ns, rfl, by omega, ex_l ex ha, fun p H2 hp e2 pot => ?_⟩
      refine ⟨p, rfl, pot, fun H3 m3 => ?_⟩
      have e3 : Ex H' H3 := fun b o e => m3.kp b o (ne_of_none e hp) (e2 b o e)
      refine ⟨_, e3 _ _ hD', by rw [List.length_replicate]; exact sz_lt (by omega), (ex.trans e3).mut hD, by omega, ?_⟩
      rw [upd_same, List.replicate_succ']
    · rintro H' ⟨ex, h4, hD'⟩
      refine ⟨D, List.replicate _ true, rfl, by rw [List.map_replicate]; exact SqL.of hD', ?_⟩
      have e : (List.replicate m.toNat true).all id = true := by simp
      rw [e]
      exact k _
theorem kb_two {x q : Str} {st : Stmt} {f : Addr} {fd : FuncData} {y : Str} (F : Fun K x q st f fd) (h : ∀ (kV doc pm : Value) (an : Option Addr) (cdv ct : Value) (u v : Value), bindArgs (PySem.W.fnOf x q (defArgs st) (defBody st) (defScope st) .none kV doc pm an cdv ct) ⟨[u], [(y, v)]⟩ = pure ([(("self" : Str), u), (y, v)] : List (Str × Value))) :
    KBn K fd ["self", y] 1 [y] (fun us ws => us ++ ws) (fun us ws => us ++ ws) := by
  obtain ⟨oc, od, kV, doc, pm, an, cdv, ct, osl, rfl, lk, hcd⟩ := F.ex
  refine ⟨fun s us ws X l1 l2 => ?_, fun r1 r2 => r1.append r2⟩
  match us, ws, l1, l2 with
  | [u], [v], _, _ => exact .of_eq (h kV doc pm an cdv ct u v)
end
end LW
end
section
open PySem PySem.W PyProof.Rows
set_option maxRecDepth 100000 in
set_option maxHeartbeats 0 in
open_top hd13 for PySem.Challenge.rw_ringdepth_k13_whole_words_by_letters
end
section
set_option maxRecDepth 100000
set_option maxHeartbeats 4000000
namespace LW
open PySem L2 RX WM Evl
theorem all_mk {l : PySem.W.OpenLaw} {w : World} {K : PySem.W.Frag} {h : Heap} {mg : Str → Option Value} {fa C f_is_integer f_is_count f_want_number f_is_text f_root_of f_plain_of f_rising f__law_pot f__law_draw f__law_pick f__law_text f__law_sign f__law_start f__law_is f__law_rest f__law_numbers f__law_places_right f__law_ahead_right f__law_rising f__law_letters_right f__law_right f_law f_M__init__ f_Mletter_at f_M__getitem__ f_M__contains__ f_M__radd__ f_M__eq__ f_M__repr__ f_Mfirst f_Mbehind f_Mcoming f_Magain f_Pbegin p_Pbegin f_Plap p_Plap : Addr} (X : K.In h) (G : h.Ns mainGlobals mg) (hfa : mg "law" = some (.ref fa))
    {od_is_integer an_is_integer od_is_count an_is_count od_want_number an_want_number od_is_text an_is_text od_root_of an_root_of od_plain_of an_plain_of od_rising an_rising od__law_pot an__law_pot od__law_draw an__law_draw od__law_pick an__law_pick od__law_text an__law_text od__law_sign an__law_sign od__law_start an__law_start od__law_is an__law_is od__law_rest an__law_rest od__law_numbers an__law_numbers od__law_places_right an__law_places_right od__law_ahead_right an__law_ahead_right od__law_rising an__law_rising od__law_letters_right an__law_letters_right od__law_right an__law_right od_law an_law od_M__init__ an_M__init__ od_Mletter_at an_Mletter_at od_M__getitem__ an_M__getitem__ od_M__contains__ an_M__contains__ od_M__radd__ an_M__radd__ od_M__eq__ an_M__eq__ od_M__repr__ an_M__repr__ od_Mfirst an_Mfirst od_Mbehind an_Mbehind od_Mcoming an_Mcoming od_Magain an_Magain od_Pbegin an_Pbegin od_Plap an_Plap : Option Addr} {sl_is_integer sl_is_count sl_want_number sl_is_text sl_root_of sl_plain_of sl_rising sl__law_pot sl__law_draw sl__law_pick sl__law_text sl__law_sign sl__law_start sl__law_is sl__law_rest sl__law_numbers sl__law_places_right sl__law_ahead_right sl__law_rising sl__law_letters_right sl__law_right sl_law sl_M__init__ sl_Mletter_at sl_M__getitem__ sl_M__contains__ sl_M__radd__ sl_M__eq__ sl_M__repr__ sl_Mfirst sl_Mbehind sl_Mcoming sl_Magain sl_Pbegin sl_Plap : Array (Option Value)} {oc_is_integer kV_is_integer dc_is_integer pm_is_integer cd_is_integer ct_is_integer oc_is_count kV_is_count dc_is_count pm_is_count cd_is_count ct_is_count oc_want_number kV_want_number dc_want_number pm_want_number cd_want_number ct_want_number oc_is_text kV_is_text dc_is_text pm_is_text cd_is_text ct_is_text oc_root_of kV_root_of dc_root_of pm_root_of cd_root_of ct_root_of oc_plain_of kV_plain_of dc_plain_of pm_plain_of cd_plain_of ct_plain_of oc_rising kV_rising dc_rising pm_rising cd_rising ct_rising oc__law_pot kV__law_pot dc__law_pot pm__law_pot cd__law_pot ct__law_pot oc__law_draw kV__law_draw dc__law_draw pm__law_draw cd__law_draw ct__law_draw oc__law_pick kV__law_pick dc__law_pick pm__law_pick cd__law_pick ct__law_pick oc__law_text kV__law_text dc__law_text pm__law_text cd__law_text ct__law_text oc__law_sign kV__law_sign dc__law_sign pm__law_sign cd__law_sign ct__law_sign oc__law_start kV__law_start dc__law_start pm__law_start cd__law_start ct__law_start oc__law_is kV__law_is dc__law_is pm__law_is cd__law_is ct__law_is oc__law_rest kV__law_rest dc__law_rest pm__law_rest cd__law_rest ct__law_rest oc__law_numbers kV__law_numbers dc__law_numbers pm__law_numbers cd__law_numbers ct__law_numbers oc__law_places_right kV__law_places_right dc__law_places_right pm__law_places_right cd__law_places_right ct__law_places_right oc__law_ahead_right kV__law_ahead_right dc__law_ahead_right pm__law_ahead_right cd__law_ahead_right ct__law_ahead_right oc__law_rising kV__law_rising dc__law_rising pm__law_rising cd__law_rising ct__law_rising oc__law_letters_right kV__law_letters_right dc__law_letters_right pm__law_letters_right cd__law_letters_right ct__law_letters_right oc__law_right kV__law_right dc__law_right pm__law_right cd__law_right ct__law_right oc_law kV_law dc_law pm_law cd_law ct_law oc_M__init__ kV_M__init__ dc_M__init__ pm_M__init__ cd_M__init__ ct_M__init__ oc_Mletter_at kV_Mletter_at dc_Mletter_at pm_Mletter_at cd_Mletter_at ct_Mletter_at oc_M__getitem__ kV_M__getitem__ dc_M__getitem__ pm_M__getitem__ cd_M__getitem__ ct_M__getitem__ oc_M__contains__ kV_M__contains__ dc_M__contains__ pm_M__contains__ cd_M__contains__ ct_M__contains__ oc_M__radd__ kV_M__radd__ dc_M__radd__ pm_M__radd__ cd_M__radd__ ct_M__radd__ oc_M__eq__ kV_M__eq__ dc_M__eq__ pm_M__eq__ cd_M__eq__ ct_M__eq__ oc_M__repr__ kV_M__repr__ dc_M__repr__ pm_M__repr__ cd_M__repr__ ct_M__repr__ oc_Mfirst kV_Mfirst dc_Mfirst pm_Mfirst cd_Mfirst ct_Mfirst oc_Mbehind kV_Mbehind dc_Mbehind pm_Mbehind cd_Mbehind ct_Mbehind oc_Mcoming kV_Mcoming dc_Mcoming pm_Mcoming cd_Mcoming ct_Mcoming oc_Magain kV_Magain dc_Magain pm_Magain cd_Magain ct_Magain oc_Pbegin kV_Pbegin dc_Pbegin pm_Pbegin cd_Pbegin ct_Pbegin oc_Plap kV_Plap dc_Plap pm_Plap cd_Plap ct_Plap sv tv : Value}
    (aC : PySem.W.nsIn K mainGlobals "Word" = some (some (.ref C)))
    (a_is_integer : PySem.W.nsIn K mainGlobals "is_integer" = some (some (.ref f_is_integer)))
    (l_is_integer : K.lookup f_is_integer = some ⟨oc_is_integer, od_is_integer, .func (PySem.W.fnOf "is_integer" "is_integer" (defArgs st_is_integer) (defBody st_is_integer) (defScope st_is_integer) .none kV_is_integer dc_is_integer pm_is_integer an_is_integer cd_is_integer ct_is_integer), sl_is_integer⟩)
    (c_is_integer : PySem.W.codeIn K cd_is_integer "is_integer" = true)
    (k_is_integer : PySem.W.keepIn K (.ref f_is_integer) = true)
    (a_is_count : PySem.W.nsIn K mainGlobals "is_count" = some (some (.ref f_is_count)))
    (l_is_count : K.lookup f_is_count = some ⟨oc_is_count, od_is_count, .func (PySem.W.fnOf "is_count" "is_count" (defArgs st_is_count) (defBody st_is_count) (defScope st_is_count) .none kV_is_count dc_is_count pm_is_count an_is_count cd_is_count ct_is_count), sl_is_count⟩)
    (c_is_count : PySem.W.codeIn K cd_is_count "is_count" = true)
    (k_is_count : PySem.W.keepIn K (.ref f_is_count) = true)
    (a_want_number : PySem.W.nsIn K mainGlobals "want_number" = some (some (.ref f_want_number)))
    (l_want_number : K.lookup f_want_number = some ⟨oc_want_number, od_want_number, .func (PySem.W.fnOf "want_number" "want_number" (defArgs st_want_number) (defBody st_want_number) (defScope st_want_number) .none kV_want_number dc_want_number pm_want_number an_want_number cd_want_number ct_want_number), sl_want_number⟩)
    (c_want_number : PySem.W.codeIn K cd_want_number "want_number" = true)
    (k_want_number : PySem.W.keepIn K (.ref f_want_number) = true)
    (a_is_text : PySem.W.nsIn K mainGlobals "is_text" = some (some (.ref f_is_text)))
    (l_is_text : K.lookup f_is_text = some ⟨oc_is_text, od_is_text, .func (PySem.W.fnOf "is_text" "is_text" (defArgs st_is_text) (defBody st_is_text) (defScope st_is_text) .none kV_is_text dc_is_text pm_is_text an_is_text cd_is_text ct_is_text), sl_is_text⟩)
    (c_is_text : PySem.W.codeIn K cd_is_text "is_text" = true)
    (k_is_text : PySem.W.keepIn K (.ref f_is_text) = true)
    (a_root_of : PySem.W.nsIn K mainGlobals "root_of" = some (some (.ref f_root_of)))
    (l_root_of : K.lookup f_root_of = some ⟨oc_root_of, od_root_of, .func (PySem.W.fnOf "root_of" "root_of" (defArgs st_root_of) (defBody st_root_of) (defScope st_root_of) .none kV_root_of dc_root_of pm_root_of an_root_of cd_root_of ct_root_of), sl_root_of⟩)
    (c_root_of : PySem.W.codeIn K cd_root_of "root_of" = true)
    (k_root_of : PySem.W.keepIn K (.ref f_root_of) = true)
    (a_plain_of : PySem.W.nsIn K mainGlobals "plain_of" = some (some (.ref f_plain_of)))
    (l_plain_of : K.lookup f_plain_of = some ⟨oc_plain_of, od_plain_of, .func (PySem.W.fnOf "plain_of" "plain_of" (defArgs st_plain_of) (defBody st_plain_of) (defScope st_plain_of) .none kV_plain_of dc_plain_of pm_plain_of an_plain_of cd_plain_of ct_plain_of), sl_plain_of⟩)
    (c_plain_of : PySem.W.codeIn K cd_plain_of "plain_of" = true)
    (k_plain_of : PySem.W.keepIn K (.ref f_plain_of) = true)
    (a_rising : PySem.W.nsIn K mainGlobals "rising" = some (some (.ref f_rising)))
    (l_rising : K.lookup f_rising = some ⟨oc_rising, od_rising, .func (PySem.W.fnOf "rising" "rising" (defArgs st_rising) (defBody st_rising) (defScope st_rising) .none kV_rising dc_rising pm_rising an_rising cd_rising ct_rising), sl_rising⟩)
    (c_rising : PySem.W.codeIn K cd_rising "rising" = true)
    (k_rising : PySem.W.keepIn K (.ref f_rising) = true)
    (a__law_pot : PySem.W.nsIn K mainGlobals "_law_pot" = some (some (.ref f__law_pot)))
    (l__law_pot : K.lookup f__law_pot = some ⟨oc__law_pot, od__law_pot, .func (PySem.W.fnOf "_law_pot" "_law_pot" (defArgs st__law_pot) (defBody st__law_pot) (defScope st__law_pot) .none kV__law_pot dc__law_pot pm__law_pot an__law_pot cd__law_pot ct__law_pot), sl__law_pot⟩)
    (c__law_pot : PySem.W.codeIn K cd__law_pot "_law_pot" = true)
    (k__law_pot : PySem.W.keepIn K (.ref f__law_pot) = true)
    (a__law_draw : PySem.W.nsIn K mainGlobals "_law_draw" = some (some (.ref f__law_draw)))
    (l__law_draw : K.lookup f__law_draw = some ⟨oc__law_draw, od__law_draw, .func (PySem.W.fnOf "_law_draw" "_law_draw" (defArgs st__law_draw) (defBody st__law_draw) (defScope st__law_draw) .none kV__law_draw dc__law_draw pm__law_draw an__law_draw cd__law_draw ct__law_draw), sl__law_draw⟩)
    (c__law_draw : PySem.W.codeIn K cd__law_draw "_law_draw" = true)
    (k__law_draw : PySem.W.keepIn K (.ref f__law_draw) = true)
    (a__law_pick : PySem.W.nsIn K mainGlobals "_law_pick" = some (some (.ref f__law_pick)))
    (l__law_pick : K.lookup f__law_pick = some ⟨oc__law_pick, od__law_pick, .func (PySem.W.fnOf "_law_pick" "_law_pick" (defArgs st__law_pick) (defBody st__law_pick) (defScope st__law_pick) .none kV__law_pick dc__law_pick pm__law_pick an__law_pick cd__law_pick ct__law_pick), sl__law_pick⟩)
    (c__law_pick : PySem.W.codeIn K cd__law_pick "_law_pick" = true)
    (k__law_pick : PySem.W.keepIn K (.ref f__law_pick) = true)
    (a__law_text : PySem.W.nsIn K mainGlobals "_law_text" = some (some (.ref f__law_text)))
    (l__law_text : K.lookup f__law_text = some ⟨oc__law_text, od__law_text, .func (PySem.W.fnOf "_law_text" "_law_text" (defArgs st__law_text) (defBody st__law_text) (defScope st__law_text) .none kV__law_text dc__law_text pm__law_text an__law_text cd__law_text ct__law_text), sl__law_text⟩)
    (c__law_text : PySem.W.codeIn K cd__law_text "_law_text" = true)
    (k__law_text : PySem.W.keepIn K (.ref f__law_text) = true)
    (a__law_sign : PySem.W.nsIn K mainGlobals "_law_sign" = some (some (.ref f__law_sign)))
    (l__law_sign : K.lookup f__law_sign = some ⟨oc__law_sign, od__law_sign, .func (PySem.W.fnOf "_law_sign" "_law_sign" (defArgs st__law_sign) (defBody st__law_sign) (defScope st__law_sign) .none kV__law_sign dc__law_sign pm__law_sign an__law_sign cd__law_sign ct__law_sign), sl__law_sign⟩)
    (c__law_sign : PySem.W.codeIn K cd__law_sign "_law_sign" = true)
    (k__law_sign : PySem.W.keepIn K (.ref f__law_sign) = true)
    (a__law_start : PySem.W.nsIn K mainGlobals "_law_start" = some (some (.ref f__law_start)))
    (l__law_start : K.lookup f__law_start = some ⟨oc__law_start, od__law_start, .func (PySem.W.fnOf "_law_start" "_law_start" (defArgs st__law_start) (defBody st__law_start) (defScope st__law_start) .none kV__law_start dc__law_start pm__law_start an__law_start cd__law_start ct__law_start), sl__law_start⟩)
    (c__law_start : PySem.W.codeIn K cd__law_start "_law_start" = true)
    (k__law_start : PySem.W.keepIn K (.ref f__law_start) = true)
    (a__law_is : PySem.W.nsIn K mainGlobals "_law_is" = some (some (.ref f__law_is)))
    (l__law_is : K.lookup f__law_is = some ⟨oc__law_is, od__law_is, .func (PySem.W.fnOf "_law_is" "_law_is" (defArgs st__law_is) (defBody st__law_is) (defScope st__law_is) .none kV__law_is dc__law_is pm__law_is an__law_is cd__law_is ct__law_is), sl__law_is⟩)
    (c__law_is : PySem.W.codeIn K cd__law_is "_law_is" = true)
    (k__law_is : PySem.W.keepIn K (.ref f__law_is) = true)
    (a__law_rest : PySem.W.nsIn K mainGlobals "_law_rest" = some (some (.ref f__law_rest)))
    (l__law_rest : K.lookup f__law_rest = some ⟨oc__law_rest, od__law_rest, .func (PySem.W.fnOf "_law_rest" "_law_rest" (defArgs st__law_rest) (defBody st__law_rest) (defScope st__law_rest) .none kV__law_rest dc__law_rest pm__law_rest an__law_rest cd__law_rest ct__law_rest), sl__law_rest⟩)
    (c__law_rest : PySem.W.codeIn K cd__law_rest "_law_rest" = true)
    (k__law_rest : PySem.W.keepIn K (.ref f__law_rest) = true)
    (a__law_numbers : PySem.W.nsIn K mainGlobals "_law_numbers" = some (some (.ref f__law_numbers)))
    (l__law_numbers : K.lookup f__law_numbers = some ⟨oc__law_numbers, od__law_numbers, .func (PySem.W.fnOf "_law_numbers" "_law_numbers" (defArgs st__law_numbers) (defBody st__law_numbers) (defScope st__law_numbers) .none kV__law_numbers dc__law_numbers pm__law_numbers an__law_numbers cd__law_numbers ct__law_numbers), sl__law_numbers⟩)
    (c__law_numbers : PySem.W.codeIn K cd__law_numbers "_law_numbers" = true)
    (k__law_numbers : PySem.W.keepIn K (.ref f__law_numbers) = true)
    (a__law_places_right : PySem.W.nsIn K mainGlobals "_law_places_right" = some (some (.ref f__law_places_right)))
    (l__law_places_right : K.lookup f__law_places_right = some ⟨oc__law_places_right, od__law_places_right, .func (PySem.W.fnOf "_law_places_right" "_law_places_right" (defArgs st__law_places_right) (defBody st__law_places_right) (defScope st__law_places_right) .none kV__law_places_right dc__law_places_right pm__law_places_right an__law_places_right cd__law_places_right ct__law_places_right), sl__law_places_right⟩)
    (c__law_places_right : PySem.W.codeIn K cd__law_places_right "_law_places_right" = true)
    (k__law_places_right : PySem.W.keepIn K (.ref f__law_places_right) = true)
    (a__law_ahead_right : PySem.W.nsIn K mainGlobals "_law_ahead_right" = some (some (.ref f__law_ahead_right)))
    (l__law_ahead_right : K.lookup f__law_ahead_right = some ⟨oc__law_ahead_right, od__law_ahead_right, .func (PySem.W.fnOf "_law_ahead_right" "_law_ahead_right" (defArgs st__law_ahead_right) (defBody st__law_ahead_right) (defScope st__law_ahead_right) .none kV__law_ahead_right dc__law_ahead_right pm__law_ahead_right an__law_ahead_right cd__law_ahead_right ct__law_ahead_right), sl__law_ahead_right⟩)
    (c__law_ahead_right : PySem.W.codeIn K cd__law_ahead_right "_law_ahead_right" = true)
    (k__law_ahead_right : PySem.W.keepIn K (.ref f__law_ahead_right) = true)
    (a__law_rising : PySem.W.nsIn K mainGlobals "_law_rising" = some (some (.ref f__law_rising)))
    (l__law_rising : K.lookup f__law_rising = some ⟨oc__law_rising, od__law_rising, .func (PySem.W.fnOf "_law_rising" "_law_rising" (defArgs st__law_rising) (defBody st__law_rising) (defScope st__law_rising) .none kV__law_rising dc__law_rising pm__law_rising an__law_rising cd__law_rising ct__law_rising), sl__law_rising⟩)
    (c__law_rising : PySem.W.codeIn K cd__law_rising "_law_rising" = true)
    (k__law_rising : PySem.W.keepIn K (.ref f__law_rising) = true)
    (a__law_letters_right : PySem.W.nsIn K mainGlobals "_law_letters_right" = some (some (.ref f__law_letters_right)))
    (l__law_letters_right : K.lookup f__law_letters_right = some ⟨oc__law_letters_right, od__law_letters_right, .func (PySem.W.fnOf "_law_letters_right" "_law_letters_right" (defArgs st__law_letters_right) (defBody st__law_letters_right) (defScope st__law_letters_right) .none kV__law_letters_right dc__law_letters_right pm__law_letters_right an__law_letters_right cd__law_letters_right ct__law_letters_right), sl__law_letters_right⟩)
    (c__law_letters_right : PySem.W.codeIn K cd__law_letters_right "_law_letters_right" = true)
    (k__law_letters_right : PySem.W.keepIn K (.ref f__law_letters_right) = true)
    (a__law_right : PySem.W.nsIn K mainGlobals "_law_right" = some (some (.ref f__law_right)))
    (l__law_right : K.lookup f__law_right = some ⟨oc__law_right, od__law_right, .func (PySem.W.fnOf "_law_right" "_law_right" (defArgs st__law_right) (defBody st__law_right) (defScope st__law_right) .none kV__law_right dc__law_right pm__law_right an__law_right cd__law_right ct__law_right), sl__law_right⟩)
    (c__law_right : PySem.W.codeIn K cd__law_right "_law_right" = true)
    (k__law_right : PySem.W.keepIn K (.ref f__law_right) = true)
    (a_law : PySem.W.nsIn K mainGlobals "law" = some (some (.ref f_law)))
    (l_law : K.lookup f_law = some ⟨oc_law, od_law, .func (PySem.W.fnOf "law" "law" (defArgs st_law) (defBody st_law) (defScope st_law) .none kV_law dc_law pm_law an_law cd_law ct_law), sl_law⟩)
    (c_law : PySem.W.codeIn K cd_law "law" = true)
    (k_law : PySem.W.keepIn K (.ref f_law) = true)
    (a_M__init__ : PySem.W.findIn K (.ref C) "__init__" = some (some (.ref f_M__init__)))
    (i_M__init__ : PySem.W.isFn K (.ref f_M__init__) = true)
    (l_M__init__ : K.lookup f_M__init__ = some ⟨oc_M__init__, od_M__init__, .func (PySem.W.fnOf "__init__" "Word.__init__" (defArgs st_Word___init__) (defBody st_Word___init__) (defScope st_Word___init__) .none kV_M__init__ dc_M__init__ pm_M__init__ an_M__init__ cd_M__init__ ct_M__init__), sl_M__init__⟩)
    (c_M__init__ : PySem.W.codeIn K cd_M__init__ "Word.__init__" = true)
    (k_M__init__ : PySem.W.keepIn K (.ref f_M__init__) = true)
    (a_Mletter_at : PySem.W.findIn K (.ref C) "letter_at" = some (some (.ref f_Mletter_at)))
    (i_Mletter_at : PySem.W.isFn K (.ref f_Mletter_at) = true)
    (l_Mletter_at : K.lookup f_Mletter_at = some ⟨oc_Mletter_at, od_Mletter_at, .func (PySem.W.fnOf "letter_at" "Word.letter_at" (defArgs st_Word_letter_at) (defBody st_Word_letter_at) (defScope st_Word_letter_at) .none kV_Mletter_at dc_Mletter_at pm_Mletter_at an_Mletter_at cd_Mletter_at ct_Mletter_at), sl_Mletter_at⟩)
    (c_Mletter_at : PySem.W.codeIn K cd_Mletter_at "Word.letter_at" = true)
    (k_Mletter_at : PySem.W.keepIn K (.ref f_Mletter_at) = true)
    (a_M__getitem__ : PySem.W.findIn K (.ref C) "__getitem__" = some (some (.ref f_M__getitem__)))
    (i_M__getitem__ : PySem.W.isFn K (.ref f_M__getitem__) = true)
    (l_M__getitem__ : K.lookup f_M__getitem__ = some ⟨oc_M__getitem__, od_M__getitem__, .func (PySem.W.fnOf "__getitem__" "Word.__getitem__" (defArgs st_Word___getitem__) (defBody st_Word___getitem__) (defScope st_Word___getitem__) .none kV_M__getitem__ dc_M__getitem__ pm_M__getitem__ an_M__getitem__ cd_M__getitem__ ct_M__getitem__), sl_M__getitem__⟩)
    (c_M__getitem__ : PySem.W.codeIn K cd_M__getitem__ "Word.__getitem__" = true)
    (k_M__getitem__ : PySem.W.keepIn K (.ref f_M__getitem__) = true)
    (a_M__contains__ : PySem.W.findIn K (.ref C) "__contains__" = some (some (.ref f_M__contains__)))
    (i_M__contains__ : PySem.W.isFn K (.ref f_M__contains__) = true)
    (l_M__contains__ : K.lookup f_M__contains__ = some ⟨oc_M__contains__, od_M__contains__, .func (PySem.W.fnOf "__contains__" "Word.__contains__" (defArgs st_Word___contains__) (defBody st_Word___contains__) (defScope st_Word___contains__) .none kV_M__contains__ dc_M__contains__ pm_M__contains__ an_M__contains__ cd_M__contains__ ct_M__contains__), sl_M__contains__⟩)
    (c_M__contains__ : PySem.W.codeIn K cd_M__contains__ "Word.__contains__" = true)
    (k_M__contains__ : PySem.W.keepIn K (.ref f_M__contains__) = true)
    (a_M__radd__ : PySem.W.findIn K (.ref C) "__radd__" = some (some (.ref f_M__radd__)))
    (i_M__radd__ : PySem.W.isFn K (.ref f_M__radd__) = true)
    (l_M__radd__ : K.lookup f_M__radd__ = some ⟨oc_M__radd__, od_M__radd__, .func (PySem.W.fnOf "__radd__" "Word.__radd__" (defArgs st_Word___radd__) (defBody st_Word___radd__) (defScope st_Word___radd__) .none kV_M__radd__ dc_M__radd__ pm_M__radd__ an_M__radd__ cd_M__radd__ ct_M__radd__), sl_M__radd__⟩)
    (c_M__radd__ : PySem.W.codeIn K cd_M__radd__ "Word.__radd__" = true)
    (k_M__radd__ : PySem.W.keepIn K (.ref f_M__radd__) = true)
    (a_M__eq__ : PySem.W.findIn K (.ref C) "__eq__" = some (some (.ref f_M__eq__)))
    (i_M__eq__ : PySem.W.isFn K (.ref f_M__eq__) = true)
    (l_M__eq__ : K.lookup f_M__eq__ = some ⟨oc_M__eq__, od_M__eq__, .func (PySem.W.fnOf "__eq__" "Word.__eq__" (defArgs st_Word___eq__) (defBody st_Word___eq__) (defScope st_Word___eq__) .none kV_M__eq__ dc_M__eq__ pm_M__eq__ an_M__eq__ cd_M__eq__ ct_M__eq__), sl_M__eq__⟩)
    (c_M__eq__ : PySem.W.codeIn K cd_M__eq__ "Word.__eq__" = true)
    (k_M__eq__ : PySem.W.keepIn K (.ref f_M__eq__) = true)
    (a_M__repr__ : PySem.W.findIn K (.ref C) "__repr__" = some (some (.ref f_M__repr__)))
    (i_M__repr__ : PySem.W.isFn K (.ref f_M__repr__) = true)
    (l_M__repr__ : K.lookup f_M__repr__ = some ⟨oc_M__repr__, od_M__repr__, .func (PySem.W.fnOf "__repr__" "Word.__repr__" (defArgs st_Word___repr__) (defBody st_Word___repr__) (defScope st_Word___repr__) .none kV_M__repr__ dc_M__repr__ pm_M__repr__ an_M__repr__ cd_M__repr__ ct_M__repr__), sl_M__repr__⟩)
    (c_M__repr__ : PySem.W.codeIn K cd_M__repr__ "Word.__repr__" = true)
    (k_M__repr__ : PySem.W.keepIn K (.ref f_M__repr__) = true)
    (a_Mfirst : PySem.W.findIn K (.ref C) "first" = some (some (.ref f_Mfirst)))
    (i_Mfirst : PySem.W.isFn K (.ref f_Mfirst) = true)
    (l_Mfirst : K.lookup f_Mfirst = some ⟨oc_Mfirst, od_Mfirst, .func (PySem.W.fnOf "first" "Word.first" (defArgs st_Word_first) (defBody st_Word_first) (defScope st_Word_first) .none kV_Mfirst dc_Mfirst pm_Mfirst an_Mfirst cd_Mfirst ct_Mfirst), sl_Mfirst⟩)
    (c_Mfirst : PySem.W.codeIn K cd_Mfirst "Word.first" = true)
    (k_Mfirst : PySem.W.keepIn K (.ref f_Mfirst) = true)
    (a_Mbehind : PySem.W.findIn K (.ref C) "behind" = some (some (.ref f_Mbehind)))
    (i_Mbehind : PySem.W.isFn K (.ref f_Mbehind) = true)
    (l_Mbehind : K.lookup f_Mbehind = some ⟨oc_Mbehind, od_Mbehind, .func (PySem.W.fnOf "behind" "Word.behind" (defArgs st_Word_behind) (defBody st_Word_behind) (defScope st_Word_behind) .none kV_Mbehind dc_Mbehind pm_Mbehind an_Mbehind cd_Mbehind ct_Mbehind), sl_Mbehind⟩)
    (c_Mbehind : PySem.W.codeIn K cd_Mbehind "Word.behind" = true)
    (k_Mbehind : PySem.W.keepIn K (.ref f_Mbehind) = true)
    (a_Mcoming : PySem.W.findIn K (.ref C) "coming" = some (some (.ref f_Mcoming)))
    (i_Mcoming : PySem.W.isFn K (.ref f_Mcoming) = true)
    (l_Mcoming : K.lookup f_Mcoming = some ⟨oc_Mcoming, od_Mcoming, .func (PySem.W.fnOf "coming" "Word.coming" (defArgs st_Word_coming) (defBody st_Word_coming) (defScope st_Word_coming) .none kV_Mcoming dc_Mcoming pm_Mcoming an_Mcoming cd_Mcoming ct_Mcoming), sl_Mcoming⟩)
    (c_Mcoming : PySem.W.codeIn K cd_Mcoming "Word.coming" = true)
    (k_Mcoming : PySem.W.keepIn K (.ref f_Mcoming) = true)
    (a_Magain : PySem.W.findIn K (.ref C) "again" = some (some (.ref f_Magain)))
    (i_Magain : PySem.W.isFn K (.ref f_Magain) = true)
    (l_Magain : K.lookup f_Magain = some ⟨oc_Magain, od_Magain, .func (PySem.W.fnOf "again" "Word.again" (defArgs st_Word_again) (defBody st_Word_again) (defScope st_Word_again) .none kV_Magain dc_Magain pm_Magain an_Magain cd_Magain ct_Magain), sl_Magain⟩)
    (c_Magain : PySem.W.codeIn K cd_Magain "Word.again" = true)
    (k_Magain : PySem.W.keepIn K (.ref f_Magain) = true)
    (a_Pbegin : PySem.W.findIn K (.ref C) "begin" = some (some (.ref p_Pbegin)))
    (g_Pbegin : PySem.W.specialIn K (.ref p_Pbegin) "__get__" = some (some (.builtin "property.__get__")))
    (t_Pbegin : PySem.W.takesIn K (.ref p_Pbegin) = some true)
    (r_Pbegin : ∃ rest, PySem.W.recIn K p_Pbegin "property" = some (.ref f_Pbegin :: rest))
    (l_Pbegin : K.lookup f_Pbegin = some ⟨oc_Pbegin, od_Pbegin, .func (PySem.W.fnOf "begin" "Word.begin" (defArgs st_Word_begin) (defBody st_Word_begin) (defScope st_Word_begin) .none kV_Pbegin dc_Pbegin pm_Pbegin an_Pbegin cd_Pbegin ct_Pbegin), sl_Pbegin⟩)
    (c_Pbegin : PySem.W.codeIn K cd_Pbegin "Word.begin" = true)
    (k_Pbegin : PySem.W.keepIn K (.ref f_Pbegin) = true)
    (a_Plap : PySem.W.findIn K (.ref C) "lap" = some (some (.ref p_Plap)))
    (g_Plap : PySem.W.specialIn K (.ref p_Plap) "__get__" = some (some (.builtin "property.__get__")))
    (t_Plap : PySem.W.takesIn K (.ref p_Plap) = some true)
    (r_Plap : ∃ rest, PySem.W.recIn K p_Plap "property" = some (.ref f_Plap :: rest))
    (l_Plap : K.lookup f_Plap = some ⟨oc_Plap, od_Plap, .func (PySem.W.fnOf "lap" "Word.lap" (defArgs st_Word_lap) (defBody st_Word_lap) (defScope st_Word_lap) .none kV_Plap dc_Plap pm_Plap an_Plap cd_Plap ct_Plap), sl_Plap⟩)
    (c_Plap : PySem.W.codeIn K cd_Plap "Word.lap" = true)
    (k_Plap : PySem.W.keepIn K (.ref f_Plap) = true)
    (z_len : PySem.W.nsIn K mainGlobals "len" = some none)
    (z_int : PySem.W.nsIn K mainGlobals "int" = some none)
    (z_str : PySem.W.nsIn K mainGlobals "str" = some none)
    (z_bool : PySem.W.nsIn K mainGlobals "bool" = some none)
    (z_isinstance : PySem.W.nsIn K mainGlobals "isinstance" = some none)
    (z_all : PySem.W.nsIn K mainGlobals "all" = some none)
    (z_range : PySem.W.nsIn K mainGlobals "range" = some none)
    (z_max : PySem.W.nsIn K mainGlobals "max" = some none)
    (z_min : PySem.W.nsIn K mainGlobals "min" = some none)
    (z_abs : PySem.W.nsIn K mainGlobals "abs" = some none)
    (z_divmod : PySem.W.nsIn K mainGlobals "divmod" = some none)
    (z_repr : PySem.W.nsIn K mainGlobals "repr" = some none)
    (z_list : PySem.W.nsIn K mainGlobals "list" = some none)
    (z_set : PySem.W.nsIn K mainGlobals "set" = some none)
    (z_sorted : PySem.W.nsIn K mainGlobals "sorted" = some none)
    (z_any : PySem.W.nsIn K mainGlobals "any" = some none)
    (aS : PySem.W.nsIn K mainGlobals "SMALL" = some (some sv))
    (eS : ∃ t, sv = .str (stx small) t)
    (pg : PySem.W.plainGet K C Str.empty = true)
    (hd : PySem.W.hasDictIn K C = true)
    (po : PySem.W.plainOver K C = true)
    (sa : PySem.W.findIn K (.ref C) "__setattr__" = some (some (.builtin "object.__setattr__")))
    (mk : PySem.W.makesIn K C = true)
    (kc : PySem.W.keepIn K (.ref C) = true)
    (nB : PySem.W.findIn K (.ref C) "own_begin" = some none)
    (nL : PySem.W.findIn K (.ref C) "own_lap" = some none)
    (rd : PySem.W.readsIn K C (.type "type") = true)
    (ga : PySem.W.specialIn K (.ref C) "__getattribute__" = some (some (.builtin "type.__getattribute__")))
    (cv : PySem.W.findCls K (.ref C) (.type "type") "MOST_LETTERS" = some (.val tv))
    (ct : ∃ t, tv = .int 8000 t)
    (ha : PySem.W.findIn K (.ref C) "__class__" = some (some (.builtin "object.__class__")))
    (hn : PySem.W.specialIn K (.builtin "object.__class__") "__get__" = some (some (.builtin "getset_descriptor.__get__")))
    (htk : PySem.W.takesIn K (.builtin "object.__class__") = some true)
    (hm : PySem.W.mroIn K C (.type "object") = some true)
    (sNe : PySem.W.findIn K (.ref C) "__ne__" = some (some (.builtin "object.__ne__")))
    (sOb : PySem.W.subIn K (.ref C) (.type "object") = some true)
    (sF : PySem.W.selfFirst K C = true)
    (nAdd : PySem.W.findIn K (.ref C) "__add__" = some none)
    (fnG : PySem.W.fnIn K f_M__getitem__ = true)
    : ∃ fd : FuncData, (∀ (s : Shared) (v : Value), BindsTo s fd ⟨[v], []⟩ [("_law_script", v)]) ∧ ∀ base : Heap, K.In base → base.Ns mainGlobals mg → GOk l.prog w K mg base 8 fa fd ["_law_script"] (spLaw K) := by
  have e := hfa.symm.trans (PySem.W.mg_of X G a_law)
  cases e
  have F_is_integer := fun_mk (st := st_is_integer) l_is_integer c_is_integer k_is_integer
  have b_is_integer := F_is_integer.binds (ps := ["value"]) fun _ _ _ _ _ _ us hl => match us, hl with | [_], _ => rfl
  have F_is_count := fun_mk (st := st_is_count) l_is_count c_is_count k_is_count
  have b_is_count := F_is_count.binds (ps := ["value"]) fun _ _ _ _ _ _ us hl => match us, hl with | [_], _ => rfl
  have F_want_number := fun_mk (st := st_want_number) l_want_number c_want_number k_want_number
  have b_want_number := F_want_number.binds (ps := ["number"]) fun _ _ _ _ _ _ us hl => match us, hl with | [_], _ => rfl
  have F_is_text := fun_mk (st := st_is_text) l_is_text c_is_text k_is_text
  have b_is_text := F_is_text.binds (ps := ["value"]) fun _ _ _ _ _ _ us hl => match us, hl with | [_], _ => rfl
  have F_root_of := fun_mk (st := st_root_of) l_root_of c_root_of k_root_of
  have b_root_of := F_root_of.binds (ps := ["lap"]) fun _ _ _ _ _ _ us hl => match us, hl with | [_], _ => rfl
  have F_plain_of := fun_mk (st := st_plain_of) l_plain_of c_plain_of k_plain_of
  have b_plain_of := F_plain_of.binds (ps := ["begin", "lap"]) fun _ _ _ _ _ _ us hl => match us, hl with | [_, _], _ => rfl
  have F_rising := fun_mk (st := st_rising) l_rising c_rising k_rising
  have b_rising := F_rising.binds (ps := ["text"]) fun _ _ _ _ _ _ us hl => match us, hl with | [_], _ => rfl
  have F__law_pot := fun_mk (st := st__law_pot) l__law_pot c__law_pot k__law_pot
  have b__law_pot := F__law_pot.binds (ps := ["_law_script", "_law_k"]) fun _ _ _ _ _ _ us hl => match us, hl with | [_, _], _ => rfl
  have F__law_draw := fun_mk (st := st__law_draw) l__law_draw c__law_draw k__law_draw
  have b__law_draw := F__law_draw.binds (ps := ["_law_pot_here", "_law_many"]) fun _ _ _ _ _ _ us hl => match us, hl with | [_, _], _ => rfl
  have F__law_pick := fun_mk (st := st__law_pick) l__law_pick c__law_pick k__law_pick
  have b__law_pick := F__law_pick.binds (ps := ["_law_pot_here", "_law_some"]) fun _ _ _ _ _ _ us hl => match us, hl with | [_, _], _ => rfl
  have F__law_text := fun_mk (st := st__law_text) l__law_text c__law_text k__law_text
  have b__law_text := F__law_text.binds (ps := ["_law_pot_here", "_law_signs", "_law_most"]) fun _ _ _ _ _ _ us hl => match us, hl with | [_, _, _], _ => rfl
  have F__law_sign := fun_mk (st := st__law_sign) l__law_sign c__law_sign k__law_sign
  have b__law_sign := F__law_sign.binds (ps := ["_law_begin", "_law_lap", "_law_place"]) fun _ _ _ _ _ _ us hl => match us, hl with | [_, _, _], _ => rfl
  have F__law_start := fun_mk (st := st__law_start) l__law_start c__law_start k__law_start
  have b__law_start := F__law_start.binds (ps := ["_law_begin", "_law_lap", "_law_size"]) fun _ _ _ _ _ _ us hl => match us, hl with | [_, _, _], _ => rfl
  have F__law_is := fun_mk (st := st__law_is) l__law_is c__law_is k__law_is
  have b__law_is := F__law_is.binds (ps := ["_law_word", "_law_begin", "_law_lap"]) fun _ _ _ _ _ _ us hl => match us, hl with | [_, _, _], _ => rfl
  have F__law_rest := fun_mk (st := st__law_rest) l__law_rest c__law_rest k__law_rest
  have b__law_rest := F__law_rest.binds (ps := ["_law_begin", "_law_lap", "_law_number"]) fun _ _ _ _ _ _ us hl => match us, hl with | [_, _, _], _ => rfl
  have F__law_numbers := fun_mk (st := st__law_numbers) l__law_numbers c__law_numbers k__law_numbers
  have b__law_numbers := F__law_numbers.binds (ps := ["_law_pot_here"]) fun _ _ _ _ _ _ us hl => match us, hl with | [_], _ => rfl
  have F__law_places_right := fun_mk (st := st__law_places_right) l__law_places_right c__law_places_right k__law_places_right
  have b__law_places_right := F__law_places_right.binds (ps := ["_law_word", "_law_begin", "_law_lap", "_law_numbers_here"]) fun _ _ _ _ _ _ us hl => match us, hl with | [_, _, _, _], _ => rfl
  have F__law_ahead_right := fun_mk (st := st__law_ahead_right) l__law_ahead_right c__law_ahead_right k__law_ahead_right
  have b__law_ahead_right := F__law_ahead_right.binds (ps := ["_law_pot_here", "_law_word", "_law_begin", "_law_lap"]) fun _ _ _ _ _ _ us hl => match us, hl with | [_, _, _, _], _ => rfl
  have F__law_rising := fun_mk (st := st__law_rising) l__law_rising c__law_rising k__law_rising
  have b__law_rising := F__law_rising.binds (ps := ["_law_text_here"]) fun _ _ _ _ _ _ us hl => match us, hl with | [_], _ => rfl
  have F__law_letters_right := fun_mk (st := st__law_letters_right) l__law_letters_right c__law_letters_right k__law_letters_right
  have b__law_letters_right := F__law_letters_right.binds (ps := ["_law_word", "_law_begin", "_law_lap"]) fun _ _ _ _ _ _ us hl => match us, hl with | [_, _, _], _ => rfl
  have F__law_right := fun_mk (st := st__law_right) l__law_right c__law_right k__law_right
  have b__law_right := F__law_right.binds (ps := ["_law_pot_here"]) fun _ _ _ _ _ _ us hl => match us, hl with | [_], _ => rfl
  have F_law := fun_mk (st := st_law) l_law c_law k_law
  have b_law := F_law.binds (ps := ["_law_script"]) fun _ _ _ _ _ _ us hl => match us, hl with | [_], _ => rfl
  have F_M__init__ := fun_mk (st := st_Word___init__) l_M__init__ c_M__init__ k_M__init__
  have b_M__init__ := F_M__init__.binds (ps := ["self", "begin", "lap"]) fun _ _ _ _ _ _ us hl => match us, hl with | [_, _, _], _ => rfl
  have F_Mletter_at := fun_mk (st := st_Word_letter_at) l_Mletter_at c_Mletter_at k_Mletter_at
  have b_Mletter_at := F_Mletter_at.binds (ps := ["self", "number"]) fun _ _ _ _ _ _ us hl => match us, hl with | [_, _], _ => rfl
  have F_M__getitem__ := fun_mk (st := st_Word___getitem__) l_M__getitem__ c_M__getitem__ k_M__getitem__
  have b_M__getitem__ := F_M__getitem__.binds (ps := ["self", "number"]) fun _ _ _ _ _ _ us hl => match us, hl with | [_, _], _ => rfl
  have F_M__contains__ := fun_mk (st := st_Word___contains__) l_M__contains__ c_M__contains__ k_M__contains__
  have b_M__contains__ := F_M__contains__.binds (ps := ["self", "value"]) fun _ _ _ _ _ _ us hl => match us, hl with | [_, _], _ => rfl
  have F_M__radd__ := fun_mk (st := st_Word___radd__) l_M__radd__ c_M__radd__ k_M__radd__
  have b_M__radd__ := F_M__radd__.binds (ps := ["self", "text"]) fun _ _ _ _ _ _ us hl => match us, hl with | [_, _], _ => rfl
  have F_M__eq__ := fun_mk (st := st_Word___eq__) l_M__eq__ c_M__eq__ k_M__eq__
  have b_M__eq__ := F_M__eq__.binds (ps := ["self", "other"]) fun _ _ _ _ _ _ us hl => match us, hl with | [_, _], _ => rfl
  have F_M__repr__ := fun_mk (st := st_Word___repr__) l_M__repr__ c_M__repr__ k_M__repr__
  have b_M__repr__ := F_M__repr__.binds (ps := ["self"]) fun _ _ _ _ _ _ us hl => match us, hl with | [_], _ => rfl
  have F_Mfirst := fun_mk (st := st_Word_first) l_Mfirst c_Mfirst k_Mfirst
  have b_Mfirst := F_Mfirst.binds (ps := ["self", "number"]) fun _ _ _ _ _ _ us hl => match us, hl with | [_, _], _ => rfl
  have F_Mbehind := fun_mk (st := st_Word_behind) l_Mbehind c_Mbehind k_Mbehind
  have b_Mbehind := F_Mbehind.binds (ps := ["self", "number"]) fun _ _ _ _ _ _ us hl => match us, hl with | [_, _], _ => rfl
  have F_Mcoming := fun_mk (st := st_Word_coming) l_Mcoming c_Mcoming k_Mcoming
  have b_Mcoming := F_Mcoming.binds (ps := ["self"]) fun _ _ _ _ _ _ us hl => match us, hl with | [_], _ => rfl
  have F_Magain := fun_mk (st := st_Word_again) l_Magain c_Magain k_Magain
  have b_Magain := F_Magain.binds (ps := ["self"]) fun _ _ _ _ _ _ us hl => match us, hl with | [_], _ => rfl
  have F_Pbegin := fun_mk (st := st_Word_begin) l_Pbegin c_Pbegin k_Pbegin
  have b_Pbegin := F_Pbegin.binds (ps := ["self"]) fun _ _ _ _ _ _ us hl => match us, hl with | [_], _ => rfl
  have F_Plap := fun_mk (st := st_Word_lap) l_Plap c_Plap k_Plap
  have b_Plap := F_Plap.binds (ps := ["self"]) fun _ _ _ _ _ _ us hl => match us, hl with | [_], _ => rfl
  have m_is_integer := PySem.W.mg_of X G a_is_integer
  have m_is_count := PySem.W.mg_of X G a_is_count
  have m_want_number := PySem.W.mg_of X G a_want_number
  have m_is_text := PySem.W.mg_of X G a_is_text
  have m_root_of := PySem.W.mg_of X G a_root_of
  have m_plain_of := PySem.W.mg_of X G a_plain_of
  have m_rising := PySem.W.mg_of X G a_rising
  have m__law_pot := PySem.W.mg_of X G a__law_pot
  have m__law_draw := PySem.W.mg_of X G a__law_draw
  have m__law_pick := PySem.W.mg_of X G a__law_pick
  have m__law_text := PySem.W.mg_of X G a__law_text
  have m__law_sign := PySem.W.mg_of X G a__law_sign
  have m__law_start := PySem.W.mg_of X G a__law_start
  have m__law_is := PySem.W.mg_of X G a__law_is
  have m__law_rest := PySem.W.mg_of X G a__law_rest
  have m__law_numbers := PySem.W.mg_of X G a__law_numbers
  have m__law_places_right := PySem.W.mg_of X G a__law_places_right
  have m__law_ahead_right := PySem.W.mg_of X G a__law_ahead_right
  have m__law_rising := PySem.W.mg_of X G a__law_rising
  have m__law_letters_right := PySem.W.mg_of X G a__law_letters_right
  have m__law_right := PySem.W.mg_of X G a__law_right
  have m_law := PySem.W.mg_of X G a_law
  obtain ⟨ts, rfl⟩ := eS
  obtain ⟨tm, rfl⟩ := ct
  have N := fun {n : Str} (e : PySem.W.nsIn K mainGlobals n = some none) => PySem.W.mg_none_of X G e
  have B : Bl mg := ⟨N z_len, N z_int, N z_str, N z_bool, N z_isinstance, N z_all, N z_range, N z_max, N z_min, N z_abs, N z_divmod, N z_repr, ⟨ts, PySem.W.mg_of X G aS⟩⟩
  have T : Txt K mg C := { toBl := B, cl := ⟨pg, hd, po, sa⟩, nB := nB, nL := nL, m_Word := PySem.W.mg_of X G aC, most := ⟨.type "type", _, ⟨rd, ga⟩, ⟨cv, ⟨tm, rfl⟩⟩⟩, ha := ha, hn := hn, htk := htk, hm := hm, kit := if_pos (beq_self_eq_true _) }
  have TE : TxtE K mg C f_M__eq__ := { toTxt := T, sEq := a_M__eq__, fEq := i_M__eq__ }
  have TF : T13 K mg C f_M__eq__ f_M__radd__ f_M__getitem__ f_M__repr__ f_M__contains__ := { toTxtE := TE, sNe := sNe, sOb := sOb, sF := sF, nAdd := (by rw [show PySem.dunder "add" = ("__add__" : Str) by decide +kernel]; exact nAdd), sRadd := (by rw [show dunderR "add" = ("__radd__" : Str) by decide +kernel]; exact a_M__radd__), fRadd := i_M__radd__, sGet := a_M__getitem__, fGet := i_M__getitem__, fnGet := fnG, sRepr := a_M__repr__, fRepr := i_M__repr__, sHas := a_M__contains__, fHas := i_M__contains__, n_list := N z_list, n_set := N z_set, n_sorted := N z_sorted, n_any := N z_any }
  have MK : Mk K C f_M__init__ := ⟨mk, a_M__init__, i_M__init__, kc⟩
  refine ⟨PySem.W.fnOf "law" "law" (defArgs st_law) (defBody st_law) (defScope st_law) .none kV_law dc_law pm_law an_law cd_law ct_law, fun s v => .of_eq rfl, fun base _ _ => ?_⟩
  have g_int := ok_is_integer (P := l.prog) (w := w) (base := base) F_is_integer B
  have g_count := ok_is_count (P := l.prog) (w := w) (base := base) F_is_count B g_int m_is_integer k_is_integer b_is_integer
  have g_want := ok_want (P := l.prog) (w := w) (base := base) F_want_number B g_count m_is_count k_is_count b_is_count
  have d_want : Df l.prog w K mg base 3 "want_number" ["number"] spWant := ⟨_, _, g_want, m_want_number, k_want_number, b_want_number⟩
  have d_text : Df l.prog w K mg base 1 "is_text" ["value"] spIsText := ⟨_, _, ok_is_text F_is_text B, m_is_text, k_is_text, b_is_text⟩
  have g_root := ok_root_of (P := l.prog) (w := w) (base := base) F_root_of B
  have d_plain : Df l.prog w K mg base 2 "plain_of" ["begin", "lap"] spPlain := ⟨_, _, ok_plain_of F_plain_of B g_root m_root_of k_root_of b_root_of, m_plain_of, k_plain_of, b_plain_of⟩
  have d_rising : Df l.prog w K mg base 1 "rising" ["text"] spRising := ⟨_, _, ok_rising F_rising B, m_rising, k_rising, b_rising⟩
  have g_init := ok_init F_M__init__ T d_text d_plain
  have g_letter := ok_letter (P := l.prog) (w := w) (base := base) F_Mletter_at T
  have d_letter : Dm l.prog w K mg base C 1 "letter_at" ["self", "number"] (spLetter C) := ⟨_, _, g_letter, ⟨a_Mletter_at, i_Mletter_at, k_Mletter_at⟩, b_Mletter_at⟩
  have g_item := ok_getitem F_M__getitem__ T d_want d_letter
  have g_eq := ok_eq (P := l.prog) (w := w) (base := base) F_M__eq__ T
  have W : W13 l.prog w K mg base C f_M__init__ f_M__eq__ f_M__radd__ f_M__getitem__ f_M__repr__ f_M__contains__ p_Pbegin f_Pbegin p_Plap f_Plap _ _ _ _ _ _ _ _ := { toT13 := TF, mkW := MK, gI := g_init, bI := b_M__init__, gE := g_eq, bE := b_M__eq__, gA := ok_radd F_M__radd__ T d_text MK g_init b_M__init__, bA := b_M__radd__, gG := g_item, bG := b_M__getitem__, gP := ok_repr F_M__repr__ T, bP := b_M__repr__, gH := ok_has F_M__contains__ T, bH := b_M__contains__, p_begin := ⟨a_Pbegin, g_Pbegin, t_Pbegin, r_Pbegin⟩, g_begin := ok_begin F_Pbegin T, b_begin := b_Pbegin, p_lap := ⟨a_Plap, g_Plap, t_Plap, r_Plap⟩, g_lap := ok_lap F_Plap T, b_lap := b_Plap, first := ⟨_, _, ok_first F_Mfirst T d_want d_letter, ⟨a_Mfirst, i_Mfirst, k_Mfirst⟩, b_Mfirst, kb_two F_Mfirst fun _ _ _ _ _ _ _ _ => rfl⟩, behind := ⟨_, _, ok_behind F_Mbehind T d_want MK g_init b_M__init__, ⟨a_Mbehind, i_Mbehind, k_Mbehind⟩, b_Mbehind, kb_two F_Mbehind fun _ _ _ _ _ _ _ _ => rfl⟩, coming := ⟨_, _, ok_coming F_Mcoming T d_rising, ⟨a_Mcoming, i_Mcoming, k_Mcoming⟩, b_Mcoming⟩, again := ⟨_, _, ok_again F_Magain T d_rising, ⟨a_Magain, i_Magain, k_Magain⟩, b_Magain⟩ }
  have d_pot : Df l.prog w K mg base 1 "_law_pot" ["_law_script", "_law_k"] (spPot K) := ⟨_, _, ok_pot F__law_pot B, m__law_pot, k__law_pot, b__law_pot⟩
  have d_draw : Df l.prog w K mg base 1 "_law_draw" ["_law_pot_here", "_law_many"] spDraw := ⟨_, _, ok_draw F__law_draw B, m__law_draw, k__law_draw, b__law_draw⟩
  have d_pickT : Df l.prog w K mg base 2 "_law_pick" ["_law_pot_here", "_law_some"] spPick := ⟨_, _, ok_pickT F__law_pick B d_draw, m__law_pick, k__law_pick, b__law_pick⟩
  have d_txt : Df l.prog w K mg base 3 "_law_text" ["_law_pot_here", "_law_signs", "_law_most"] spText := ⟨_, _, ok_text F__law_text B d_draw d_pickT, m__law_text, k__law_text, b__law_text⟩
  have d_sign : Df l.prog w K mg base 1 "_law_sign" ["_law_begin", "_law_lap", "_law_place"] spSign := ⟨_, _, ok_sign F__law_sign B, m__law_sign, k__law_sign, b__law_sign⟩
  have d_start : Df l.prog w K mg base 2 "_law_start" ["_law_begin", "_law_lap", "_law_size"] spStart := ⟨_, _, ok_start F__law_start B d_sign, m__law_start, k__law_start, b__law_start⟩
  have d_is : Df l.prog w K mg base 5 "_law_is" ["_law_word", "_law_begin", "_law_lap"] (spIs C) := ⟨_, _, ok_is F__law_is W d_start, m__law_is, k__law_is, b__law_is⟩
  have d_rest : Df l.prog w K mg base 1 "_law_rest" ["_law_begin", "_law_lap", "_law_number"] spRest := ⟨_, _, ok_rest F__law_rest B, m__law_rest, k__law_rest, b__law_rest⟩
  have d_numbers : Df l.prog w K mg base 2 "_law_numbers" ["_law_pot_here"] spNums := ⟨_, _, ok_numbers F__law_numbers TF d_draw, m__law_numbers, k__law_numbers, b__law_numbers⟩
  have d_places : Df l.prog w K mg base 6 "_law_places_right" ["_law_word", "_law_begin", "_law_lap", "_law_numbers_here"] (spPlaces C) := ⟨_, _, ok_places F__law_places_right W d_start d_sign d_rest d_is, m__law_places_right, k__law_places_right, b__law_places_right⟩
  have d_ahead : Df l.prog w K mg base 6 "_law_ahead_right" ["_law_pot_here", "_law_word", "_law_begin", "_law_lap"] (spAhead C) := ⟨_, _, ok_ahead F__law_ahead_right W d_txt d_is, m__law_ahead_right, k__law_ahead_right, b__law_ahead_right⟩
  have d_rise : Df l.prog w K mg base 1 "_law_rising" ["_law_text_here"] spRise := ⟨_, _, ok_rise F__law_rising TF, m__law_rising, k__law_rising, b__law_rising⟩
  have d_letters : Dg l.prog w K mg base 4 "_law_letters_right" ["_law_word", "_law_begin", "_law_lap"] (spLets C) := ⟨_, _, ok_letters F__law_letters_right W d_rise, m__law_letters_right, k__law_letters_right, b__law_letters_right⟩
  have d_right : Dg l.prog w K mg base 7 "_law_right" ["_law_pot_here"] spFar := ⟨_, _, ok_right F__law_right W d_draw ⟨_, _, ok_pickT F__law_pick B d_draw, ok_pickL F__law_pick B d_draw, m__law_pick, k__law_pick, b__law_pick⟩ d_txt d_is d_places d_ahead d_numbers d_letters, m__law_right, k__law_right, b__law_right⟩
  exact ok_law F_law B d_right d_pot
end LW
open PySem PySem.W PyProof.Rows
set_option maxRecDepth 100000 in
set_option maxHeartbeats 0 in
theorem PySem.Challenge.cw_ringdepth_k13_whole_words_by_letters_holds : PySem.Challenge.rw_ringdepth_k13_whole_words_by_letters.Holds := by
  refine hd13 ?_
  k_fill
  refine RX.walk_G (n := 63) (k := 8) (x := "_law_script") (sp := LW.spLaw) rfl (by decide) rfl ⟨rfl, by decide, by decide⟩ (fun w h Y => PySem.W.kIn_of Y) ?F (fun K H a ns hl hO hS => ⟨a, ns, rfl, hS, hl, fun _ => rfl⟩)
  case F =>
    intro w mg fa h KX G hmg
    refine' LW.all_mk KX G hmg ?aC ?a_is_integer ?l_is_integer ?c_is_integer ?k_is_integer ?a_is_count ?l_is_count ?c_is_count ?k_is_count ?a_want_number ?l_want_number ?c_want_number ?k_want_number ?a_is_text ?l_is_text ?c_is_text ?k_is_text ?a_root_of ?l_root_of ?c_root_of ?k_root_of ?a_plain_of ?l_plain_of ?c_plain_of ?k_plain_of ?a_rising ?l_rising ?c_rising ?k_rising ?a__law_pot ?l__law_pot ?c__law_pot ?k__law_pot ?a__law_draw ?l__law_draw ?c__law_draw ?k__law_draw ?a__law_pick ?l__law_pick ?c__law_pick ?k__law_pick ?a__law_text ?l__law_text ?c__law_text ?k__law_text ?a__law_sign ?l__law_sign ?c__law_sign ?k__law_sign ?a__law_start ?l__law_start ?c__law_start ?k__law_start ?a__law_is ?l__law_is ?c__law_is ?k__law_is ?a__law_rest ?l__law_rest ?c__law_rest ?k__law_rest ?a__law_numbers ?l__law_numbers ?c__law_numbers ?k__law_numbers ?a__law_places_right ?l__law_places_right ?c__law_places_right ?k__law_places_right ?a__law_ahead_right ?l__law_ahead_right ?c__law_ahead_right ?k__law_ahead_right ?a__law_rising ?l__law_rising ?c__law_rising ?k__law_rising ?a__law_letters_right ?l__law_letters_right ?c__law_letters_right ?k__law_letters_right ?a__law_right ?l__law_right ?c__law_right ?k__law_right ?a_law ?l_law ?c_law ?k_law ?a_M__init__ ?i_M__init__ ?l_M__init__ ?c_M__init__ ?k_M__init__ ?a_Mletter_at ?i_Mletter_at ?l_Mletter_at ?c_Mletter_at ?k_Mletter_at ?a_M__getitem__ ?i_M__getitem__ ?l_M__getitem__ ?c_M__getitem__ ?k_M__getitem__ ?a_M__contains__ ?i_M__contains__ ?l_M__contains__ ?c_M__contains__ ?k_M__contains__ ?a_M__radd__ ?i_M__radd__ ?l_M__radd__ ?c_M__radd__ ?k_M__radd__ ?a_M__eq__ ?i_M__eq__ ?l_M__eq__ ?c_M__eq__ ?k_M__eq__ ?a_M__repr__ ?i_M__repr__ ?l_M__repr__ ?c_M__repr__ ?k_M__repr__ ?a_Mfirst ?i_Mfirst ?l_Mfirst ?c_Mfirst ?k_Mfirst ?a_Mbehind ?i_Mbehind ?l_Mbehind ?c_Mbehind ?k_Mbehind ?a_Mcoming ?i_Mcoming ?l_Mcoming ?c_Mcoming ?k_Mcoming ?a_Magain ?i_Magain ?l_Magain ?c_Magain ?k_Magain ?a_Pbegin ?g_Pbegin ?t_Pbegin ?r_Pbegin ?l_Pbegin ?c_Pbegin ?k_Pbegin ?a_Plap ?g_Plap ?t_Plap ?r_Plap ?l_Plap ?c_Plap ?k_Plap ?z_len ?z_int ?z_str ?z_bool ?z_isinstance ?z_all ?z_range ?z_max ?z_min ?z_abs ?z_divmod ?z_repr ?z_list ?z_set ?z_sorted ?z_any ?aS ?eS ?pg ?hd ?po ?sa ?mk ?kc ?nB ?nL ?rd ?ga ?cv ?ct ?ha ?hn ?htk ?hm ?sNe ?sOb ?sF ?nAdd ?fnG
    (case aC => k_is)
    (case a_is_integer => k_is)
    (case l_is_integer => k_is)
    (case c_is_integer => k_is)
    (case k_is_integer => k_is)
    (case a_is_count => k_is)
    (case l_is_count => k_is)
    (case c_is_count => k_is)
    (case k_is_count => k_is)
    (case a_want_number => k_is)
    (case l_want_number => k_is)
    (case c_want_number => k_is)
    (case k_want_number => k_is)
    (case a_is_text => k_is)
    (case l_is_text => k_is)
    (case c_is_text => k_is)
    (case k_is_text => k_is)
    (case a_root_of => k_is)
    (case l_root_of => k_is)
    (case c_root_of => k_is)
    (case k_root_of => k_is)
    (case a_plain_of => k_is)
    (case l_plain_of => k_is)
    (case c_plain_of => k_is)
    (case k_plain_of => k_is)
    (case a_rising => k_is)
    (case l_rising => k_is)
    (case c_rising => k_is)
    (case k_rising => k_is)
    (case a__law_pot => k_is)
    (case l__law_pot => k_is)
    (case c__law_pot => k_is)
    (case k__law_pot => k_is)
    (case a__law_draw => k_is)
    (case l__law_draw => k_is)
    (case c__law_draw => k_is)
    (case k__law_draw => k_is)
    (case a__law_pick => k_is)
    (case l__law_pick => k_is)
    (case c__law_pick => k_is)
    (case k__law_pick => k_is)
    (case a__law_text => k_is)
    (case l__law_text => k_is)
    (case c__law_text => k_is)
    (case k__law_text => k_is)
    (case a__law_sign => k_is)
    (case l__law_sign => k_is)
    (case c__law_sign => k_is)
    (case k__law_sign => k_is)
    (case a__law_start => k_is)
    (case l__law_start => k_is)
    (case c__law_start => k_is)
    (case k__law_start => k_is)
    (case a__law_is => k_is)
    (case l__law_is => k_is)
    (case c__law_is => k_is)
    (case k__law_is => k_is)
    (case a__law_rest => k_is)
    (case l__law_rest => k_is)
    (case c__law_rest => k_is)
    (case k__law_rest => k_is)
    (case a__law_numbers => k_is)
    (case l__law_numbers => k_is)
    (case c__law_numbers => k_is)
    (case k__law_numbers => k_is)
    (case a__law_places_right => k_is)
    (case l__law_places_right => k_is)
    (case c__law_places_right => k_is)
    (case k__law_places_right => k_is)
    (case a__law_ahead_right => k_is)
    (case l__law_ahead_right => k_is)
    (case c__law_ahead_right => k_is)
    (case k__law_ahead_right => k_is)
    (case a__law_rising => k_is)
    (case l__law_rising => k_is)
    (case c__law_rising => k_is)
    (case k__law_rising => k_is)
    (case a__law_letters_right => k_is)
    (case l__law_letters_right => k_is)
    (case c__law_letters_right => k_is)
    (case k__law_letters_right => k_is)
    (case a__law_right => k_is)
    (case l__law_right => k_is)
    (case c__law_right => k_is)
    (case k__law_right => k_is)
    (case a_law => k_is)
    (case l_law => k_is)
    (case c_law => k_is)
    (case k_law => k_is)
    (case a_M__init__ => k_is)
    (case i_M__init__ => k_is)
    (case l_M__init__ => k_is)
    (case c_M__init__ => k_is)
    (case k_M__init__ => k_is)
    (case a_Mletter_at => k_is)
    (case i_Mletter_at => k_is)
    (case l_Mletter_at => k_is)
    (case c_Mletter_at => k_is)
    (case k_Mletter_at => k_is)
    (case a_M__getitem__ => k_is)
    (case i_M__getitem__ => k_is)
    (case l_M__getitem__ => k_is)
    (case c_M__getitem__ => k_is)
    (case k_M__getitem__ => k_is)
    (case a_M__contains__ => k_is)
    (case i_M__contains__ => k_is)
    (case l_M__contains__ => k_is)
    (case c_M__contains__ => k_is)
    (case k_M__contains__ => k_is)
    (case a_M__radd__ => k_is)
    (case i_M__radd__ => k_is)
    (case l_M__radd__ => k_is)
    (case c_M__radd__ => k_is)
    (case k_M__radd__ => k_is)
    (case a_M__eq__ => k_is)
    (case i_M__eq__ => k_is)
    (case l_M__eq__ => k_is)
    (case c_M__eq__ => k_is)
    (case k_M__eq__ => k_is)
    (case a_M__repr__ => k_is)
    (case i_M__repr__ => k_is)
    (case l_M__repr__ => k_is)
    (case c_M__repr__ => k_is)
    (case k_M__repr__ => k_is)
    (case a_Mfirst => k_is)
    (case i_Mfirst => k_is)
    (case l_Mfirst => k_is)
    (case c_Mfirst => k_is)
    (case k_Mfirst => k_is)
    (case a_Mbehind => k_is)
    (case i_Mbehind => k_is)
    (case l_Mbehind => k_is)
    (case c_Mbehind => k_is)
    (case k_Mbehind => k_is)
    (case a_Mcoming => k_is)
    (case i_Mcoming => k_is)
    (case l_Mcoming => k_is)
    (case c_Mcoming => k_is)
    (case k_Mcoming => k_is)
    (case a_Magain => k_is)
    (case i_Magain => k_is)
    (case l_Magain => k_is)
    (case c_Magain => k_is)
    (case k_Magain => k_is)
    (case a_Pbegin => k_is)
    (case g_Pbegin => k_is)
    (case t_Pbegin => k_is)
    (case r_Pbegin => exact ⟨_, by k_is⟩)
    (case l_Pbegin => k_is)
    (case c_Pbegin => k_is)
    (case k_Pbegin => k_is)
    (case a_Plap => k_is)
    (case g_Plap => k_is)
    (case t_Plap => k_is)
    (case r_Plap => exact ⟨_, by k_is⟩)
    (case l_Plap => k_is)
    (case c_Plap => k_is)
    (case k_Plap => k_is)
    (case z_len => k_is)
    (case z_int => k_is)
    (case z_str => k_is)
    (case z_bool => k_is)
    (case z_isinstance => k_is)
    (case z_all => k_is)
    (case z_range => k_is)
    (case z_max => k_is)
    (case z_min => k_is)
    (case z_abs => k_is)
    (case z_divmod => k_is)
    (case z_repr => k_is)
    (case z_list => k_is)
    (case z_set => k_is)
    (case z_sorted => k_is)
    (case z_any => k_is)
    (case aS => k_is)
    (case eS => exact ⟨_, rfl⟩)
    (case pg => k_is)
    (case hd => k_is)
    (case po => k_is)
    (case sa => k_is)
    (case mk => k_is)
    (case kc => k_is)
    (case nB => k_is)
    (case nL => k_is)
    (case rd => k_is)
    (case ga => k_is)
    (case cv => k_is)
    (case ct => exact ⟨_, rfl⟩)
    (case ha => k_is)
    (case hn => k_is)
    (case htk => k_is)
    (case hm => k_is)
    (case sNe => k_is)
    (case sOb => k_is)
    (case sF => k_is)
    (case nAdd => k_is)
    (case fnG => k_is)
end
