import PyProof.Rows.All
import Wide.All
import OpenK.AllK
import Wide.FinOn
import PySem.Challenge.RW_kindmakes_k90_whole_founded_rules
import KE.KStateDown
import Lean
import HandS.Base
import HandS.Call
import HandS.Ends
import HandS.More
import HandS.Words
import HandS.WordsExc
import HandS.Defaults
import HandS.Exc
import HandS.ExcInit
import HandS.Head0
import HandS.Head1
import HandS.Head2
import HandS.HeadEnd
import HandS.HeadHook1
import HandS.HeadHook2
import HandS.HeadHook3
import HandS.HeadHook4
import HandS.Slots
import HandS.ClsMeth
import KE.DatumOrd
import HandS.ForMost
import HandS.ForExc
import HandS.TupMul
import HandS.TupAny
import HandS.SortKw
import HandS.Strs
import HandS.SetFor
import HandS.Style
import HandS.Wide
import HandS.Conv
import HandS.Flow
import HandS.IsInst
set_option Elab.async false
set_option linter.all false
set_option maxRecDepth 100000
set_option maxHeartbeats 4000000
/-! # The plain law: kinds, lows, needs, papers, numbers; no program here -/
namespace KM

inductive Kd where
  | void | unit | one | set | row | round
  | rule (i : Nat)
  | this (x y : Kd) | both (x y : Kd) | inn (x y : Kd)
  | point (x : Kd) | hole (x : Kd)
  | sized (x : Kd) (a b : Nat)

def low (L : List Nat) : Kd → Nat
  | .void => 20 | .unit => 0 | .one => 1 | .set => 0 | .row => 0 | .round => 1
  | .rule i => L.getD i 0
  | .this x y => min (low L x) (low L y)
  | .both x y => min 20 (low L x + low L y)
  | .inn x y => min 20 (low L x * low L y)
  | .point x => max 1 (low L x)
  | .hole x => low L x - 1
  | .sized x a b => if b < low L x then 20 else max (low L x) a

def plainK : Kd → Bool
  | .one => true | .set => true | .row => true | .round => true | .unit => true | _ => false
def wf (m : Nat) : Kd → Prop
  | .rule i => i < m
  | .this x y => wf m x ∧ wf m y
  | .both x y => wf m x ∧ wf m y
  | .inn x y => wf m x ∧ wf m y
  | .point x => wf m x
  | .hole x => plainK x = true
  | .sized x a b => wf m x ∧ a ≤ b ∧ b ≤ 20
  | _ => True
def dep : Kd → Nat
  | .this x y => max (dep x) (dep y) + 1
  | .both x y => max (dep x) (dep y) + 1
  | .inn x y => max (dep x) (dep y) + 1
  | .point x => dep x + 1
  | .hole x => dep x + 1
  | .sized x _ _ => dep x + 1
  | _ => 0

def needs (L : List Nat) : Kd → List Nat
  | .rule i => [i]
  | .this x y => needs L x ++ needs L y
  | .point x => needs L x
  | .sized x _ _ => needs L x
  | .both x y => (if low L y = 0 then needs L x else []) ++ (if low L x = 0 then needs L y else [])
  | .inn x y => (if low L y < 2 ∨ low L x = 0 then needs L x else []) ++ (if low L x < 2 then needs L y else [])
  | _ => []

def insides : Kd → List Kd
  | .inn x y => y :: (insides x ++ insides y)
  | .this x y => insides x ++ insides y
  | .both x y => insides x ++ insides y
  | .point x => insides x
  | .hole x => insides x
  | .sized x _ _ => insides x
  | _ => []
def stands (L : List Nat) (k : Kd) : Bool := (insides k).all fun y => decide (0 < low L y)

/-! ### lows -/
def leL (L M : List Nat) : Prop := ∀ i : Nat, L.getD i 0 ≤ M.getD i 0
theorem low_le {L : List Nat} (h : ∀ i : Nat, L.getD i 0 ≤ 20) : ∀ {k : Kd} {m : Nat}, wf m k → low L k ≤ 20
  | .void, _, _ => by simp [low]
  | .unit, _, _ => by simp [low]
  | .one, _, _ => by simp [low]
  | .set, _, _ => by simp [low]
  | .row, _, _ => by simp [low]
  | .round, _, _ => by simp [low]
  | .rule i, _, _ => h i
  | .this x y, m, w => by
    have a := low_le h (k := x) w.1
    simp only [low]; omega
  | .both x y, m, w => by simp only [low]; omega
  | .inn x y, m, w => by simp only [low]; omega
  | .point x, m, w => by
    have a := low_le h (k := x) (m := m) w
    simp only [low]; omega
  | .hole x, m, w => by
    cases x <;> simp [wf, plainK] at w <;> simp [low]
  | .sized x a b, m, w => by
    have q := low_le h (k := x) (m := m) w.1
    have w1 := w.2.1
    have w2 := w.2.2
    simp only [low]; split <;> omega
theorem low_mono {L M : List Nat} (h : leL L M) : ∀ {k : Kd} {m : Nat}, wf m k → low L k ≤ low M k
  | .void, _, _ => by simp [low]
  | .unit, _, _ => by simp [low]
  | .one, _, _ => by simp [low]
  | .set, _, _ => by simp [low]
  | .row, _, _ => by simp [low]
  | .round, _, _ => by simp [low]
  | .rule i, _, _ => h i
  | .this x y, m, w => by
    have a := low_mono h (k := x) w.1
    have b := low_mono h (k := y) w.2
    simp only [low]; omega
  | .both x y, m, w => by
    have a := low_mono h (k := x) w.1
    have b := low_mono h (k := y) w.2
    simp only [low]; omega
  | .inn x y, m, w => by
    have a := low_mono h (k := x) w.1
    have b := low_mono h (k := y) w.2
    have c := Nat.mul_le_mul a b
    simp only [low]; omega
  | .point x, m, w => by
    have a := low_mono h (k := x) (m := m) w
    simp only [low]; omega
  | .hole x, m, w => by
    cases x <;> simp [wf, plainK] at w <;> simp [low]
  | .sized x a b, m, w => by
    have q := low_mono h (k := x) (m := m) w.1
    have w1 := w.2.1
    have w2 := w.2.2
    simp only [low]; split <;> split <;> omega
theorem needs_anti {L M : List Nat} (h : leL L M) : ∀ {k : Kd} {m : Nat} {j : Nat}, wf m k → j ∈ needs M k → j ∈ needs L k
  | .void, _, _, _ => fun q => q
  | .unit, _, _, _ => fun q => q
  | .one, _, _, _ => fun q => q
  | .set, _, _, _ => fun q => q
  | .row, _, _, _ => fun q => q
  | .round, _, _, _ => fun q => q
  | .rule i, _, _, _ => fun q => q
  | .hole x, _, _, _ => fun q => q
  | .this x y, m, j, w => fun q => by
    simp only [needs, List.mem_append] at q ⊢
    exact q.imp (needs_anti h w.1) (needs_anti h w.2)
  | .point x, m, j, w => fun q => needs_anti h (k := x) (m := m) w q
  | .sized x a b, m, j, w => fun q => needs_anti h (k := x) (m := m) w.1 q
  | .both x y, m, j, w => fun q => by
    have a := low_mono h (k := x) w.1
    have b := low_mono h (k := y) w.2
    simp only [needs, List.mem_append] at q ⊢
    refine q.imp (fun z => ?_) (fun z => ?_)
    · by_cases c : low M y = 0
      · rw [if_pos c] at z
        rw [if_pos (show low L y = 0 by omega)]
        exact needs_anti h w.1 z
      · rw [if_neg c] at z; cases z
    · by_cases c : low M x = 0
      · rw [if_pos c] at z
        rw [if_pos (show low L x = 0 by omega)]
        exact needs_anti h w.2 z
      · rw [if_neg c] at z; cases z
  | .inn x y, m, j, w => fun q => by
    have a := low_mono h (k := x) w.1
    have b := low_mono h (k := y) w.2
    simp only [needs, List.mem_append] at q ⊢
    refine q.imp (fun z => ?_) (fun z => ?_)
    · by_cases c : low M y < 2 ∨ low M x = 0
      · rw [if_pos c] at z
        rw [if_pos (show low L y < 2 ∨ low L x = 0 by omega)]
        exact needs_anti h w.1 z
      · rw [if_neg c] at z; cases z
    · by_cases c : low M x < 2
      · rw [if_pos c] at z
        rw [if_pos (show low L x < 2 by omega)]
        exact needs_anti h w.2 z
      · rw [if_neg c] at z; cases z
theorem needs_lt {L : List Nat} : ∀ {k : Kd} {m j : Nat}, wf m k → j ∈ needs L k → j < m
  | .void, _, _, _ => fun q => by cases q
  | .unit, _, _, _ => fun q => by cases q
  | .one, _, _, _ => fun q => by cases q
  | .set, _, _, _ => fun q => by cases q
  | .row, _, _, _ => fun q => by cases q
  | .round, _, _, _ => fun q => by cases q
  | .rule i, m, j, w => fun q => by
    simp only [needs, List.mem_singleton] at q
    rw [q]; exact w
  | .hole x, _, _, _ => fun q => by cases q
  | .this x y, m, j, w => fun q => by
    simp only [needs, List.mem_append] at q
    exact q.elim (needs_lt w.1) (needs_lt w.2)
  | .point x, m, j, w => fun q => needs_lt (k := x) (m := m) w q
  | .sized x a b, m, j, w => fun q => needs_lt (k := x) (m := m) w.1 q
  | .both x y, m, j, w => fun q => by
    simp only [needs, List.mem_append] at q
    refine q.elim (fun z => ?_) (fun z => ?_)
    · split at z
      · exact needs_lt w.1 z
      · cases z
    · split at z
      · exact needs_lt w.2 z
      · cases z
  | .inn x y, m, j, w => fun q => by
    simp only [needs, List.mem_append] at q
    refine q.elim (fun z => ?_) (fun z => ?_)
    · split at z
      · exact needs_lt w.1 z
      · cases z
    · split at z
      · exact needs_lt w.2 z
      · cases z
theorem insides_wf : ∀ {k : Kd} {m : Nat}, wf m k → ∀ y ∈ insides k, wf m y
  | .void, _, _ => fun _ q => by cases q
  | .unit, _, _ => fun _ q => by cases q
  | .one, _, _ => fun _ q => by cases q
  | .set, _, _ => fun _ q => by cases q
  | .row, _, _ => fun _ q => by cases q
  | .round, _, _ => fun _ q => by cases q
  | .rule i, _, _ => fun _ q => by cases q
  | .this x y, m, w => fun z q => by
    simp only [insides, List.mem_append] at q
    exact q.elim (insides_wf w.1 z) (insides_wf w.2 z)
  | .both x y, m, w => fun z q => by
    simp only [insides, List.mem_append] at q
    exact q.elim (insides_wf w.1 z) (insides_wf w.2 z)
  | .inn x y, m, w => fun z q => by
    simp only [insides, List.mem_cons, List.mem_append] at q
    rcases q with rfl | q | q
    · exact w.2
    · exact insides_wf w.1 z q
    · exact insides_wf w.2 z q
  | .point x, m, w => fun z q => insides_wf (k := x) (m := m) w z q
  | .sized x a b, m, w => fun z q => insides_wf (k := x) (m := m) w.1 z q
  | .hole x, m, w => fun z q => by
    cases x <;> simp [wf, plainK] at w <;> cases q
theorem insides_dep : ∀ {k : Kd}, ∀ y ∈ insides k, dep y < dep k
  | .void => fun _ q => by cases q
  | .unit => fun _ q => by cases q
  | .one => fun _ q => by cases q
  | .set => fun _ q => by cases q
  | .row => fun _ q => by cases q
  | .round => fun _ q => by cases q
  | .rule i => fun _ q => by cases q
  | .this x y => fun z q => by
    simp only [insides, List.mem_append] at q
    simp only [dep]
    rcases q with q | q
    · have := insides_dep z q; omega
    · have := insides_dep z q; omega
  | .both x y => fun z q => by
    simp only [insides, List.mem_append] at q
    simp only [dep]
    rcases q with q | q
    · have := insides_dep z q; omega
    · have := insides_dep z q; omega
  | .inn x y => fun z q => by
    simp only [insides, List.mem_cons, List.mem_append] at q
    simp only [dep]
    rcases q with rfl | q | q
    · omega
    · have := insides_dep z q; omega
    · have := insides_dep z q; omega
  | .point x => fun z q => by
    have := insides_dep (k := x) z q
    simp only [dep]; omega
  | .sized x a b => fun z q => by
    have := insides_dep (k := x) z q
    simp only [dep]; omega
  | .hole x => fun z q => by
    have := insides_dep (k := x) z q
    simp only [dep]; omega
theorem stands_mono {L M : List Nat} (h : leL L M) {k : Kd} {m : Nat} (w : wf m k) (s : stands L k = true) : stands M k = true := by
  unfold stands at s ⊢
  rw [List.all_eq_true] at s ⊢
  intro y hy
  have a := s y hy
  have b := low_mono h (insides_wf w y hy)
  simp only [decide_eq_true_eq] at a ⊢
  omega

/-! ### the greatest lows -/
def lstep (rules : List Kd) (L : List Nat) : List Nat := (List.range rules.length).map fun i => min (L.getD i 0) (low L (rules.getD i .void))
def iter (rules : List Kd) : Nat → List Nat
  | 0 => List.replicate rules.length 20
  | t + 1 => lstep rules (iter rules t)
theorem lstep_len (rules : List Kd) (L : List Nat) : (lstep rules L).length = rules.length := by simp [lstep]
theorem iter_len (rules : List Kd) : ∀ t, (iter rules t).length = rules.length
  | 0 => by simp [iter]
  | t + 1 => by simp [iter, lstep]
theorem getD_of_ge {α : Type} {l : List α} {i : Nat} {d : α} (h : l.length ≤ i) : l.getD i d = d := by
  rw [List.getD_eq_getElem?_getD, List.getElem?_eq_none_iff.mpr h]; rfl
theorem getD_of_lt {α : Type} {l : List α} {i : Nat} {d : α} (h : i < l.length) : l.getD i d = l[i] := by
  rw [List.getD_eq_getElem?_getD, List.getElem?_eq_getElem h]; rfl
theorem lstep_at {rules : List Kd} {L : List Nat} {i : Nat} (h : i < rules.length) : (lstep rules L).getD i 0 = min (L.getD i 0) (low L (rules.getD i .void)) := by
  rw [getD_of_lt (by rw [lstep_len]; exact h)]
  simp [lstep]
theorem lstep_le {rules : List Kd} {L : List Nat} : leL (lstep rules L) L := fun i => by
  by_cases h : i < rules.length
  · rw [lstep_at h]; omega
  · rw [getD_of_ge (by rw [lstep_len]; omega)]; omega
theorem iter_le20 (rules : List Kd) : ∀ t i, (iter rules t).getD i 0 ≤ 20
  | 0, i => by
    by_cases h : i < rules.length
    · rw [getD_of_lt (by rw [iter_len]; exact h)]
      simp [iter]
    · rw [getD_of_ge (by rw [iter_len]; omega)]; omega
  | t + 1, i => Nat.le_trans (lstep_le i) (iter_le20 rules t i)
theorem ext_getD {α : Type} {d : α} {l m : List α} (h : l.length = m.length) (q : ∀ i, l.getD i d = m.getD i d) : l = m := by
  apply List.ext_getElem h
  intro i h1 h2
  have := q i
  rw [getD_of_lt h1, getD_of_lt h2] at this
  exact this
theorem sum_le_of : ∀ {l m : List Nat}, l.length = m.length → (∀ i, l.getD i 0 ≤ m.getD i 0) → l.sum ≤ m.sum ∧ (l.sum = m.sum → l = m)
  | [], [], _, _ => ⟨Nat.le_refl _, fun _ => rfl⟩
  | a :: l, b :: m, h, q => by
    have q0 : a ≤ b := q 0
    have ih := sum_le_of (l := l) (m := m) (by simpa using h) (fun i => q (i + 1))
    refine ⟨by simp only [List.sum_cons]; omega, fun e => ?_⟩
    simp only [List.sum_cons] at e
    have e1 : a = b := by omega
    have e2 : l = m := ih.2 (by omega)
    rw [e1, e2]
  | [], _ :: _, h, _ => by simp at h
  | _ :: _, [], h, _ => by simp at h
theorem lstep_sum {rules : List Kd} {L : List Nat} (hl : L.length = rules.length) (h : lstep rules L ≠ L) : (lstep rules L).sum < L.sum := by
  have := sum_le_of (l := lstep rules L) (m := L) (by rw [lstep_len, hl]) lstep_le
  have h2 : (lstep rules L).sum ≠ L.sum := fun e => h (this.2 e)
  omega
theorem iter_sum (rules : List Kd) : ∀ t, (∀ s, s < t → iter rules (s + 1) ≠ iter rules s) → (iter rules t).sum + t ≤ 20 * rules.length
  | 0, _ => by simp [iter, List.sum_replicate_nat, Nat.mul_comm]
  | t + 1, h => by
    have ih := iter_sum rules t (fun s q => h s (by omega))
    have := lstep_sum (iter_len rules t) (h t (by omega))
    show (lstep rules (iter rules t)).sum + (t + 1) ≤ _
    omega
theorem iter_stays {rules : List Kd} {t : Nat} (h : iter rules (t + 1) = iter rules t) : ∀ s, t ≤ s → iter rules s = iter rules t
  | 0, q => by
    have : t = 0 := by omega
    rw [this]
  | s + 1, q => by
    by_cases e : t = s + 1
    · rw [e]
    · have ih := iter_stays h s (by omega)
      show lstep rules (iter rules s) = _
      rw [ih]
      exact h
/-- the greatest lows -/
def glow (rules : List Kd) : List Nat := iter rules (20 * rules.length)
theorem exists_first {p : Nat → Prop} [DecidablePred p] : ∀ n, p n → ∃ m, m ≤ n ∧ p m ∧ ∀ s, s < m → ¬ p s
  | n, h => by
    induction n using Nat.strongRecOn with
    | ind n ih =>
      by_cases c : ∃ s, s < n ∧ p s
      · obtain ⟨s, hs, ps⟩ := c
        obtain ⟨m, h1, h2, h3⟩ := ih s hs ps
        exact ⟨m, by omega, h2, h3⟩
      · exact ⟨n, Nat.le_refl _, h, fun s hs ps => c ⟨s, hs, ps⟩⟩
theorem glow_first (rules : List Kd) : ∃ t, t ≤ 20 * rules.length ∧ iter rules (t + 1) = iter rules t := by
  by_cases c : ∃ t, t ≤ 20 * rules.length ∧ iter rules (t + 1) = iter rules t
  · exact c
  · have := iter_sum rules (20 * rules.length + 1) (fun s hs e => c ⟨s, by omega, e⟩)
    omega
theorem glow_fix (rules : List Kd) : lstep rules (glow rules) = glow rules := by
  obtain ⟨t, h1, h2⟩ := glow_first rules
  have a := iter_stays h2 (20 * rules.length) h1
  have b := iter_stays h2 (20 * rules.length + 1) (by omega)
  show iter rules (20 * rules.length + 1) = iter rules (20 * rules.length)
  rw [a, b]
theorem glow_of_stop {rules : List Kd} {t : Nat} (h : iter rules (t + 1) = iter rules t) : iter rules t = glow rules := by
  by_cases c : t ≤ 20 * rules.length
  · exact (iter_stays h _ c).symm
  · exact iter_stays (glow_fix rules) t (by omega)
theorem glow_of_late {rules : List Kd} {t : Nat} (h : 20 * rules.length ≤ t) : iter rules t = glow rules := iter_stays (glow_fix rules) t h
theorem glow_len (rules : List Kd) : (glow rules).length = rules.length := iter_len rules _
theorem glow_le20 (rules : List Kd) (i : Nat) : (glow rules).getD i 0 ≤ 20 := iter_le20 rules _ i
/-- lows that no rule goes below are at most the greatest ones -/
theorem le_iter {rules : List Kd} {L : List Nat} (hl : L.length = rules.length) (h20 : ∀ i : Nat, L.getD i 0 ≤ 20) (hw : ∀ i, i < rules.length → wf rules.length (rules.getD i .void))
    (h : ∀ i, i < rules.length → L.getD i 0 ≤ low L (rules.getD i .void)) : ∀ t, leL L (iter rules t)
  | 0, i => by
    by_cases c : i < rules.length
    · rw [show (iter rules 0).getD i 0 = 20 by rw [getD_of_lt (by rw [iter_len]; exact c)]; simp [iter]]
      exact h20 i
    · rw [getD_of_ge (by omega)]; omega
  | t + 1, i => by
    by_cases c : i < rules.length
    · have ih := le_iter hl h20 hw h t
      show _ ≤ (lstep rules (iter rules t)).getD i 0
      rw [lstep_at c]
      have a := ih i
      have b := low_mono ih (hw i c)
      have d := h i c
      omega
    · rw [getD_of_ge (by omega)]; omega
end KM
namespace KM

/-! ### founded: by the greatest lows all stand and no rule comes back to itself -/
def jac (L : List Nat) (rules : List Kd) (left : List Nat) : List Nat := left.filter fun i => (needs L (rules.getD i .void)).any fun j => left.contains j
def jacN (L : List Nat) (rules : List Kd) : Nat → List Nat
  | 0 => List.range rules.length
  | t + 1 => jac L rules (jacN L rules t)
def founded (rules : List Kd) : Bool := rules.all (stands (glow rules)) && (jacN (glow rules) rules rules.length == [])

theorem mem_jac {L : List Nat} {rules : List Kd} {left : List Nat} {i : Nat} : i ∈ jac L rules left ↔ i ∈ left ∧ ∃ j ∈ needs L (rules.getD i .void), j ∈ left := by
  unfold jac
  rw [List.mem_filter, List.any_eq_true]
  simp only [List.contains_iff_mem]
theorem jacN_sub {L : List Nat} {rules : List Kd} {i : Nat} : ∀ {t}, i ∈ jacN L rules (t + 1) → i ∈ jacN L rules t := fun {t} h => (mem_jac.mp h).1
theorem jacN_lt {L : List Nat} {rules : List Kd} {i : Nat} : ∀ {t}, i ∈ jacN L rules t → i < rules.length
  | 0, h => List.mem_range.mp h
  | _ + 1, h => jacN_lt (jacN_sub h)
/-- how many of the first m have a lesser rank -/
def rho (m : Nat) (R : Nat → Int) (i : Nat) : Nat := ((List.range m).filter fun j => decide (R j < R i)).length
theorem filter_len_lt {α : Type} {p q : α → Bool} : ∀ {l : List α}, (∀ x ∈ l, p x = true → q x = true) → (∃ x ∈ l, q x = true ∧ p x = false) → (l.filter p).length < (l.filter q).length
  | [], _, h => by obtain ⟨_, h, _⟩ := h; cases h
  | a :: l, h, e => by
    have le : ∀ {l : List α}, (∀ x ∈ l, p x = true → q x = true) → (l.filter p).length ≤ (l.filter q).length := fun {l} => by
      induction l with
      | nil => intro _; simp
      | cons b l ih =>
        intro h
        have i1 := ih fun x hx => h x (List.mem_cons_of_mem _ hx)
        have hb := h b List.mem_cons_self
        cases hp : p b with
        | true => simp [hp, hb hp]; exact i1
        | false =>
          cases hq : q b with
          | true => simp [hp, hq]; omega
          | false => simp [hp, hq]; exact i1
    have hl : ∀ x ∈ l, p x = true → q x = true := fun x hx => h x (List.mem_cons_of_mem _ hx)
    have ha := h a List.mem_cons_self
    obtain ⟨x, hx, hq, hp⟩ := e
    rcases List.mem_cons.mp hx with rfl | hx
    · have := le hl
      simp [hp, hq]; omega
    · have ih := filter_len_lt hl ⟨x, hx, hq, hp⟩
      cases hpa : p a with
      | true => simp [hpa, ha hpa]; exact ih
      | false =>
        cases hqa : q a with
        | true => simp [hpa, hqa]; omega
        | false => simp [hpa, hqa]; exact ih
theorem rho_lt {m : Nat} {R : Nat → Int} {i : Nat} (h : i < m) : rho m R i < m := by
  have a : rho m R i < ((List.range m).filter fun _ => true).length := filter_len_lt (fun _ _ _ => rfl) ⟨i, List.mem_range.mpr h, rfl, by simp⟩
  have b : ((List.range m).filter fun _ => true).length ≤ (List.range m).length := List.length_filter_le _ _
  rw [List.length_range] at b
  omega
theorem rho_mono {m : Nat} {R : Nat → Int} {i j : Nat} (hj : j < m) (h : R j < R i) : rho m R j < rho m R i := by
  refine filter_len_lt (fun x _ q => ?_) ⟨j, List.mem_range.mpr hj, by simpa using h, by simp⟩
  simp only [decide_eq_true_eq] at q ⊢
  omega
/-- ranks show that nothing comes back -/
theorem jac_of_ranks {L : List Nat} {rules : List Kd} (R : Nat → Int) (hw : ∀ i, i < rules.length → wf rules.length (rules.getD i .void))
    (h : ∀ i, i < rules.length → ∀ j ∈ needs L (rules.getD i .void), R j < R i) : ∀ t i, i ∈ jacN L rules t → t ≤ rho rules.length R i
  | 0, i, _ => Nat.zero_le _
  | t + 1, i, q => by
    obtain ⟨hi, j, hj, hl⟩ := mem_jac.mp q
    have ih := jac_of_ranks R hw h t j hl
    have hil := jacN_lt hi
    have a := rho_mono (m := rules.length) (R := R) (jacN_lt hl) (h i hil j hj)
    omega
theorem jac_nil {L : List Nat} {rules : List Kd} (R : Nat → Int) (hw : ∀ i, i < rules.length → wf rules.length (rules.getD i .void))
    (h : ∀ i, i < rules.length → ∀ j ∈ needs L (rules.getD i .void), R j < R i) : jacN L rules rules.length = [] := by
  apply List.eq_nil_iff_forall_not_mem.mpr
  intro i hi
  have a := jac_of_ranks R hw h _ i hi
  have b := rho_lt (R := R) (jacN_lt hi)
  omega

/-! ### papers -/
def rowOk (m : Nat) (most : Int) (xs : List Int) : Bool := xs.length == m && xs.all fun x => decide (0 ≤ x) && decide (x ≤ most)
def shapeOk (m : Nat) (ls rs : List Int) : Bool := rowOk m 20 ls && rowOk m 99 rs
def nats (xs : List Int) : List Nat := xs.map Int.toNat
/-- what is so of rule i by a paper -/
def okAt (rules : List Kd) (L : List Nat) (R : List Int) (i : Nat) : Bool :=
  decide (L.getD i 0 ≤ low L (rules.getD i .void)) && (stands L (rules.getD i .void) && (needs L (rules.getD i .void)).all fun j => decide (R.getD j 0 < R.getD i 0))
def lets (rules : List Kd) (ls rs : List Int) : Bool := shapeOk rules.length ls rs && (List.range rules.length).all (okAt rules (nats ls) rs)

theorem nats_getD {xs : List Int} {i : Nat} : (nats xs).getD i 0 = (xs.getD i 0).toNat := by
  unfold nats
  by_cases h : i < xs.length
  · rw [getD_of_lt (by rw [List.length_map]; exact h), getD_of_lt h, List.getElem_map]
  · rw [getD_of_ge (by rw [List.length_map]; omega), getD_of_ge (by omega)]; rfl
theorem rowOk_at {m : Nat} {most : Int} {xs : List Int} (h : rowOk m most xs = true) (h0 : 0 ≤ most) (i : Nat) : 0 ≤ xs.getD i 0 ∧ xs.getD i 0 ≤ most := by
  unfold rowOk at h
  rw [Bool.and_eq_true, List.all_eq_true] at h
  by_cases c : i < xs.length
  · rw [getD_of_lt c]
    have := h.2 _ (List.getElem_mem c)
    simpa using this
  · rw [getD_of_ge (by omega)]; omega
theorem rowOk_len {m : Nat} {most : Int} {xs : List Int} (h : rowOk m most xs = true) : xs.length = m := by
  unfold rowOk at h
  rw [Bool.and_eq_true] at h
  simpa using h.1
structure Lets (rules : List Kd) (L : List Nat) (R : Nat → Int) : Prop where
  len : L.length = rules.length
  le20 : ∀ i : Nat, L.getD i 0 ≤ 20
  low : ∀ i, i < rules.length → L.getD i 0 ≤ low L (rules.getD i .void)
  st : ∀ i, i < rules.length → stands L (rules.getD i .void) = true
  nd : ∀ i, i < rules.length → ∀ j ∈ needs L (rules.getD i .void), R j < R i
theorem lets_out {rules : List Kd} {ls rs : List Int} (h : lets rules ls rs = true) : Lets rules (nats ls) (fun i => rs.getD i 0) := by
  unfold lets shapeOk at h
  rw [Bool.and_eq_true, Bool.and_eq_true, List.all_eq_true] at h
  obtain ⟨⟨h1, h2⟩, h3⟩ := h
  have q : ∀ i, i < rules.length → okAt rules (nats ls) rs i = true := fun i hi => h3 i (List.mem_range.mpr hi)
  refine ⟨by unfold nats; rw [List.length_map, rowOk_len h1], fun i => ?_, fun i hi => ?_, fun i hi => ?_, fun i hi j hj => ?_⟩
  · rw [nats_getD]
    have := rowOk_at h1 (by omega) i
    omega
  · have a := q i hi
    unfold okAt at a
    rw [Bool.and_eq_true] at a
    exact of_decide_eq_true a.1
  · have a := q i hi
    unfold okAt at a
    rw [Bool.and_eq_true, Bool.and_eq_true] at a
    exact a.2.1
  · have a := q i hi
    unfold okAt at a
    rw [Bool.and_eq_true, Bool.and_eq_true, List.all_eq_true] at a
    exact of_decide_eq_true (a.2.2 j hj)
def wfs (rules : List Kd) : Prop := ∀ i, i < rules.length → wf rules.length (rules.getD i .void)
theorem all_getD {α : Type} {p : α → Bool} {l : List α} {d : α} : l.all p = true ↔ ∀ i, i < l.length → p (l.getD i d) = true := by
  rw [List.all_eq_true]
  constructor
  · intro h i hi
    rw [getD_of_lt hi]
    exact h _ (List.getElem_mem hi)
  · intro h x hx
    obtain ⟨i, hi, e⟩ := List.mem_iff_getElem.mp hx
    have := h i hi
    rw [getD_of_lt hi, e] at this
    exact this
theorem Lets.le_glow {rules : List Kd} {L : List Nat} {R : Nat → Int} (p : Lets rules L R) (hw : wfs rules) : leL L (glow rules) := le_iter p.len p.le20 hw p.low _
/-- a paper that is let by: the rules are founded by the greatest lows -/
theorem Lets.founded {rules : List Kd} {L : List Nat} {R : Nat → Int} (p : Lets rules L R) (hw : wfs rules) : founded rules = true := by
  have le := p.le_glow hw
  unfold KM.founded
  rw [Bool.and_eq_true]
  constructor
  · rw [all_getD (d := Kd.void)]
    intro i hi
    exact stands_mono le (hw i hi) (p.st i hi)
  · have := jac_nil (L := glow rules) (rules := rules) R hw fun i hi j hj => p.nd i hi j (needs_anti le (hw i hi) hj)
    simp [this]

/-! ### the told paper: ranks filled turn by turn -/
/-- rule i is seen: it gets a rank where all its needs have one -/
def look (rk : List (Nat × Nat)) (i : Nat) : Option Nat := (rk.find? fun p => decide (p.1 = i)).map (·.2)
def has (rk : List (Nat × Nat)) (i : Nat) : Bool := (look rk i).isSome
/-- a greatest one of the ranks of needs, each one more; 0 where there is none -/
def IsTop (rk : List (Nat × Nat)) (ns : List Nat) (r : Nat) : Prop := (∀ j ∈ ns, (look rk j).getD 0 + 1 ≤ r) ∧ (ns ≠ [] → ∃ j ∈ ns, (look rk j).getD 0 + 1 = r) ∧ (ns = [] → r = 0)
/-- one step -/
inductive RStep (L : List Nat) (rules : List Kd) (i : Nat) (rk : List (Nat × Nat)) : List (Nat × Nat) → Prop
  | put (r : Nat) (h1 : has rk i = false) (h2 : ∀ j ∈ needs L (rules.getD i .void), has rk j = true) (h3 : IsTop rk (needs L (rules.getD i .void)) r) : RStep L rules i rk (rk ++ [(i, r)])
  | skip (h : has rk i = true ∨ ∃ j ∈ needs L (rules.getD i .void), has rk j = false) : RStep L rules i rk rk
theorem look_app {rk : List (Nat × Nat)} {i j r : Nat} : look (rk ++ [(i, r)]) j = (look rk j).or (if i = j then some r else none) := by
  unfold look
  rw [List.find?_append]
  cases h : rk.find? (fun p => decide (p.1 = j)) with
  | some p => simp
  | none =>
    by_cases c : i = j
    · simp [c]
    · simp [c]
theorem look_mem {rk : List (Nat × Nat)} {i r : Nat} (h : look rk i = some r) : (i, r) ∈ rk := by
  unfold look at h
  rw [Option.map_eq_some_iff] at h
  obtain ⟨p, hp, e⟩ := h
  have a := List.mem_of_find?_eq_some hp
  have b := List.find?_some hp
  simp only [decide_eq_true_eq] at b
  rw [← b, ← e]
  exact a
theorem has_mem {rk : List (Nat × Nat)} {i : Nat} : has rk i = true ↔ i ∈ rk.map (·.1) := by
  unfold has look
  rw [Option.isSome_map]
  rw [List.find?_isSome]
  simp only [decide_eq_true_eq, List.mem_map]
structure RInv (L : List Nat) (rules : List Kd) (rk : List (Nat × Nat)) : Prop where
  lt : ∀ i ∈ rk.map (·.1), i < rules.length
  nd : (rk.map (·.1)).Nodup
  bd : ∀ i r, look rk i = some r → r < rk.length
  up : ∀ i r, look rk i = some r → ∀ j ∈ needs L (rules.getD i .void), ∃ q, look rk j = some q ∧ q < r
theorem RInv.nil {L : List Nat} {rules : List Kd} : RInv L rules [] :=
  ⟨fun i h => (by cases h), List.nodup_nil, fun i r h => (by simp [look] at h), fun i r h => (by simp [look] at h)⟩
theorem RStep.grows {L : List Nat} {rules : List Kd} {i : Nat} {rk rk' : List (Nat × Nat)} (s : RStep L rules i rk rk') {j r : Nat} (h : look rk j = some r) : look rk' j = some r := by
  cases s with
  | put r' h1 h2 h3 => rw [look_app, h]; rfl
  | skip _ => exact h
theorem RStep.inv {L : List Nat} {rules : List Kd} {i : Nat} {rk rk' : List (Nat × Nat)} (s : RStep L rules i rk rk') (hi : i < rules.length) (I : RInv L rules rk) : RInv L rules rk' := by
  have gr := @RStep.grows L rules i rk rk' s
  cases s with
  | skip _ => exact I
  | put r h1 h2 h3 =>
    have hn : ¬ i ∈ rk.map (·.1) := fun q => by
      rw [has_mem.mpr q] at h1
      cases h1
    have hr : r ≤ rk.length := by
      obtain ⟨_, t2, t3⟩ := h3
      by_cases c : needs L (rules.getD i .void) = []
      · rw [t3 c]; omega
      · obtain ⟨j, hj, e⟩ := t2 c
        have := h2 j hj
        unfold has at this
        obtain ⟨q, hq⟩ := Option.isSome_iff_exists.mp this
        have b := I.bd j q hq
        rw [hq] at e
        simp only [Option.getD_some] at e
        omega
    refine ⟨fun j hj => ?_, ?_, fun j q hq => ?_, fun j q hq x hx => ?_⟩
    · rw [List.map_append, List.mem_append] at hj
      rcases hj with hj | hj
      · exact I.lt j hj
      · simp only [List.map_cons, List.map_nil, List.mem_singleton] at hj
        rw [hj]; exact hi
    · rw [List.map_append]
      refine List.nodup_append.mpr ⟨I.nd, by simp, fun a ha b hb => ?_⟩
      simp only [List.map_cons, List.map_nil, List.mem_singleton] at hb
      rw [hb]
      intro e
      rw [e] at ha
      exact hn ha
    · rw [List.length_append]
      rw [look_app] at hq
      cases c : look rk j with
      | some q' =>
        rw [c] at hq
        have := I.bd j q' c
        simp at hq
        rw [← hq]
        simp
        omega
      | none =>
        rw [c] at hq
        simp at hq
        simp
        omega
    · rw [look_app] at hq
      cases c : look rk j with
      | some q' =>
        rw [c] at hq
        simp at hq
        obtain ⟨z, hz, hl⟩ := I.up j q' c x hx
        exact ⟨z, gr hz, by omega⟩
      | none =>
        rw [c] at hq
        simp at hq
        obtain ⟨e1, e2⟩ := hq
        subst e1
        subst e2
        have := h2 x hx
        unfold has at this
        obtain ⟨z, hz⟩ := Option.isSome_iff_exists.mp this
        refine ⟨z, gr hz, ?_⟩
        have a := h3.1 x hx
        rw [hz] at a
        simp only [Option.getD_some] at a
        omega
/-- behind a turn's steps 0 .. n - 1 -/
structure RTurn (L : List Nat) (rules : List Kd) (t n : Nat) (rk : List (Nat × Nat)) : Prop where
  inv : RInv L rules rk
  old : ∀ i, i < rules.length → ¬ i ∈ jacN L rules t → has rk i = true
  new : ∀ i, i < n → i < rules.length → ¬ i ∈ jacN L rules (t + 1) → has rk i = true
theorem has_grows {L : List Nat} {rules : List Kd} {i : Nat} {rk rk' : List (Nat × Nat)} (s : RStep L rules i rk rk') {j : Nat} (h : has rk j = true) : has rk' j = true := by
  unfold has at h ⊢
  obtain ⟨q, hq⟩ := Option.isSome_iff_exists.mp h
  rw [s.grows hq]; rfl
theorem RTurn.step {L : List Nat} {rules : List Kd} {t n : Nat} {rk rk' : List (Nat × Nat)} (hw : wfs rules) (T : RTurn L rules t n rk) (hn : n < rules.length) (s : RStep L rules n rk rk') : RTurn L rules t (n + 1) rk' := by
  have hg := @has_grows L rules n rk rk' s
  refine ⟨s.inv hn T.inv, fun i hi h => hg (T.old i hi h), fun i hi hl h => ?_⟩
  by_cases c : i < n
  · exact hg (T.new i c hl h)
  · have e : i = n := by omega
    subst e
    by_cases c2 : i ∈ jacN L rules t
    · have h2 : ∀ j ∈ needs L (rules.getD i .void), has rk j = true := fun j hj => by
        refine T.old j (needs_lt (hw i hl) hj) fun q => h ?_
        exact mem_jac.mpr ⟨c2, j, hj, q⟩
      cases s with
      | put r h1 _ _ =>
        unfold has
        rw [look_app]
        cases look rk i <;> simp
      | skip q =>
        rcases q with q | ⟨j, hj, q⟩
        · exact q
        · rw [h2 j hj] at q; cases q
    · exact hg (T.old i hl c2)
theorem RTurn.start {L : List Nat} {rules : List Kd} : RTurn L rules 0 0 [] :=
  ⟨.nil, fun i hi h => absurd (List.mem_range.mpr hi) h, fun i hi => by omega⟩
theorem RTurn.next {L : List Nat} {rules : List Kd} {t : Nat} {rk : List (Nat × Nat)} (T : RTurn L rules t rules.length rk) : RTurn L rules (t + 1) 0 rk :=
  ⟨T.inv, fun i hi h => T.new i hi hi h, fun i hi => by omega⟩
theorem nodup_sub_len {l m : List Nat} : l.Nodup → (∀ x ∈ l, x ∈ m) → l.length ≤ m.length := by
  induction l generalizing m with
  | nil => intro _ _; simp
  | cons a l ih =>
    intro h q
    have ha : a ∈ m := q a List.mem_cons_self
    have hn := List.nodup_cons.mp h
    have := ih (m := m.erase a) hn.2 fun x hx => by
      have hx' := q x (List.mem_cons_of_mem _ hx)
      have ne : x ≠ a := fun e => hn.1 (e ▸ hx)
      exact (List.mem_erase_of_ne ne).mpr hx'
    rw [List.length_erase_of_mem ha] at this
    have pos : 0 < m.length := List.length_pos_of_mem ha
    simp only [List.length_cons]
    omega
/-- at the end: as many ranks as rules just where nothing comes back -/
theorem RInv.full {L : List Nat} {rules : List Kd} {rk : List (Nat × Nat)} (I : RInv L rules rk) (h : ¬ rk.length < rules.length) : ∀ i, i < rules.length → has rk i = true := by
  intro i hi
  by_cases c : has rk i = true
  · exact c
  · exfalso
    have hn : ¬ i ∈ rk.map (·.1) := fun q => c (has_mem.mpr q)
    have := nodup_sub_len (l := i :: rk.map (·.1)) (m := List.range rules.length) (List.nodup_cons.mpr ⟨hn, I.nd⟩) fun x hx => by
      rcases List.mem_cons.mp hx with rfl | hx
      · exact List.mem_range.mpr hi
      · exact List.mem_range.mpr (I.lt x hx)
    simp at this
    omega
theorem RInv.le {L : List Nat} {rules : List Kd} {rk : List (Nat × Nat)} (I : RInv L rules rk) : rk.length ≤ rules.length := by
  have := nodup_sub_len (l := rk.map (·.1)) (m := List.range rules.length) I.nd fun x hx => List.mem_range.mpr (I.lt x hx)
  simpa using this
/-- the ranks told -/
def ranks (rules : List Kd) (rk : List (Nat × Nat)) : List Nat := (List.range rules.length).map fun i => (look rk i).getD 0
theorem RTurn.short {L : List Nat} {rules : List Kd} {rk : List (Nat × Nat)} {n : Nat} (T : RTurn L rules rules.length n rk) (h : rk.length < rules.length) : jacN L rules rules.length ≠ [] := fun e => by
  have : ∀ i, i < rules.length → has rk i = true := fun i hi => T.old i hi (by rw [e]; exact List.not_mem_nil)
  have := nodup_sub_len (l := List.range rules.length) (m := rk.map (·.1)) List.nodup_range fun x hx => has_mem.mp (this x (List.mem_range.mp hx))
  simp at this
  omega
theorem ranks_at {rules : List Kd} {rk : List (Nat × Nat)} {i : Nat} (h : i < rules.length) : (ranks rules rk).getD i 0 = (look rk i).getD 0 := by
  unfold ranks
  rw [getD_of_lt (by simpa using h)]
  simp
theorem RInv.told {rules : List Kd} {rk : List (Nat × Nat)} (hw : wfs rules) (hm : rules.length ≤ 4) (I : RInv (glow rules) rules rk) (h : ¬ rk.length < rules.length) (hs : rules.all (stands (glow rules)) = true) :
    lets rules ((glow rules).map Int.ofNat) ((ranks rules rk).map Int.ofNat) = true := by
  have full := I.full h
  have le := I.le
  have en : nats ((glow rules).map Int.ofNat) = glow rules := by
    unfold nats
    rw [List.map_map]
    rw [show (Int.toNat ∘ Int.ofNat) = id from rfl, List.map_id]
  have ei : ∀ (l : List Nat) (i : Nat), (l.map Int.ofNat).getD i 0 = ((l.getD i 0 : Nat) : Int) := fun l i => by
    by_cases c : i < l.length
    · rw [getD_of_lt (by simpa using c), getD_of_lt c]; simp
    · rw [getD_of_ge (by simpa using c), getD_of_ge (by omega)]; rfl
  unfold lets shapeOk
  rw [Bool.and_eq_true, Bool.and_eq_true, List.all_eq_true]
  have row : ∀ (l : List Nat) (m : Nat) (b : Nat), l.length = m → (∀ i : Nat, l.getD i 0 ≤ b) → rowOk m (b : Int) (l.map Int.ofNat) = true := fun l m b e q => by
    unfold rowOk
    rw [Bool.and_eq_true]
    refine ⟨by simpa using e, ?_⟩
    rw [all_getD (d := 0)]
    intro i hi
    rw [ei, Bool.and_eq_true, decide_eq_true_eq, decide_eq_true_eq]
    have := q i
    omega
  refine ⟨⟨row _ _ 20 (glow_len rules) (glow_le20 rules), row _ _ 99 (by simp [ranks]) fun i => ?_⟩, fun i hi => ?_⟩
  · by_cases c : i < rules.length
    · rw [ranks_at c]
      have := full i c
      unfold has at this
      obtain ⟨q, hq⟩ := Option.isSome_iff_exists.mp this
      have b := I.bd i q hq
      rw [hq]
      simp only [Option.getD_some]
      omega
    · rw [getD_of_ge (by simp [ranks]; omega)]; omega
  · have hi' := List.mem_range.mp hi
    unfold okAt
    rw [en, Bool.and_eq_true, Bool.and_eq_true]
    refine ⟨?_, (all_getD (d := Kd.void)).mp hs i hi', ?_⟩
    · rw [decide_eq_true_eq]
      have a := lstep_at (L := glow rules) hi'
      rw [glow_fix] at a
      omega
    · rw [List.all_eq_true]
      intro j hj
      rw [decide_eq_true_eq, ei, ei, ranks_at hi', ranks_at (needs_lt (hw i hi') hj)]
      have := full i hi'
      unfold has at this
      obtain ⟨q, hq⟩ := Option.isSome_iff_exists.mp this
      obtain ⟨z, hz, hl⟩ := I.up i q hq j hj
      rw [hq, hz]
      simp only [Option.getD_some]
      omega
theorem RInv.founded {rules : List Kd} {rk : List (Nat × Nat)} (hw : wfs rules) (hm : rules.length ≤ 4) (I : RInv (glow rules) rules rk) (h : ¬ rk.length < rules.length) (hs : rules.all (stands (glow rules)) = true) : KM.founded rules = true :=
  (lets_out (I.told hw hm h hs)).founded hw
theorem not_founded_of_short {rules : List Kd} {rk : List (Nat × Nat)} {n : Nat} (T : RTurn (glow rules) rules rules.length n rk) (h : rk.length < rules.length) : KM.founded rules = false := by
  unfold KM.founded
  have := T.short h
  cases e : jacN (glow rules) rules rules.length with
  | nil => exact absurd e this
  | cons a l => simp
theorem not_founded_of_stands {rules : List Kd} (h : rules.all (stands (glow rules)) = false) : KM.founded rules = false := by
  unfold KM.founded
  rw [h]; rfl
end KM
namespace KM

/-! ### numbers -/
def waysStep (n : Nat) (f j : Nat) : Nat := f * (n - j) / (j + 1)
def ways (n k : Nat) : Nat := (List.range k).foldl (waysStep n) 1
def fact : Nat → Nat
  | 0 => 1 | 1 => 1 | 2 => 2 | 3 => 6 | _ => 24
def plainMany : Kd → Nat → Nat
  | .row, n => fact n
  | .round, n => if 0 < n then fact n / n else 0
  | .set, _ => 1
  | .unit, n => if n = 0 then 1 else 0
  | .one, n => if n = 1 then 1 else 0
  | _, _ => 0
def sizesOf : Nat → List (List Nat)
  | 0 => [[]]
  | 1 => [[1]]
  | 2 => [[2], [1, 1]]
  | 3 => [[3], [1, 2], [1, 2], [1, 2], [1, 1, 1]]
  | _ => []
abbrev Tab := List (List Nat)
def cell (N : Tab) (i n : Nat) : Nat := (N.getD i []).getD n 0
def reck (N : Tab) : Kd → Nat → Nat
  | .rule i, n => cell N i n
  | .this x y, n => reck N x n + reck N y n
  | .both x y, n => (List.range (n + 1)).foldl (fun f k => f + ways n k * reck N x k * reck N y (n - k)) 0
  | .inn x y, n => (sizesOf n).foldl (fun f ss => f + ss.foldl (fun p s => p * reck N y s) (reck N x ss.length)) 0
  | .point x, n => n * reck N x n
  | .hole x, n => plainMany x (n + 1)
  | .sized x a b, n => if a ≤ n ∧ n ≤ b then reck N x n else 0
  | .void, n => plainMany .void n
  | .unit, n => plainMany .unit n
  | .one, n => plainMany .one n
  | .set, n => plainMany .set n
  | .row, n => plainMany .row n
  | .round, n => plainMany .round n
def cap : Nat := 10 ^ 30
def stepN (rules : List Kd) (N : Tab) : Tab := rules.map fun r => (List.range 4).map fun n => min cap (reck N r n)
def stepsN (rules : List Kd) : Nat → Tab
  | 0 => rules.map fun _ => List.replicate 4 0
  | t + 1 => stepN rules (stepsN rules t)

theorem reck_both0 {N : Tab} {x y : Kd} : reck N (.both x y) 0 = reck N x 0 * reck N y 0 := by
  simp [reck, List.range_succ, ways]
theorem reck_both1 {N : Tab} {x y : Kd} : reck N (.both x y) 1 = reck N x 0 * reck N y 1 + reck N x 1 * reck N y 0 := by
  simp [reck, List.range_succ, ways, waysStep]
theorem reck_both2 {N : Tab} {x y : Kd} : reck N (.both x y) 2 = reck N x 0 * reck N y 2 + 2 * reck N x 1 * reck N y 1 + reck N x 2 * reck N y 0 := by
  simp [reck, List.range_succ, ways, waysStep]
theorem reck_both3 {N : Tab} {x y : Kd} : reck N (.both x y) 3 = reck N x 0 * reck N y 3 + 3 * reck N x 1 * reck N y 2 + 3 * reck N x 2 * reck N y 1 + reck N x 3 * reck N y 0 := by
  simp [reck, List.range_succ, ways, waysStep]
theorem reck_in0 {N : Tab} {x y : Kd} : reck N (.inn x y) 0 = reck N x 0 := by simp [reck, sizesOf]
theorem reck_in1 {N : Tab} {x y : Kd} : reck N (.inn x y) 1 = reck N x 1 * reck N y 1 := by simp [reck, sizesOf]
theorem reck_in2 {N : Tab} {x y : Kd} : reck N (.inn x y) 2 = reck N x 1 * reck N y 2 + reck N x 2 * reck N y 1 * reck N y 1 := by simp [reck, sizesOf]
theorem reck_in3 {N : Tab} {x y : Kd} : reck N (.inn x y) 3 = reck N x 1 * reck N y 3 + reck N x 2 * reck N y 1 * reck N y 2 + reck N x 2 * reck N y 1 * reck N y 2 + reck N x 2 * reck N y 1 * reck N y 2 + reck N x 3 * reck N y 1 * reck N y 1 * reck N y 1 := by simp [reck, sizesOf]
/-- nothing below the lows -/
def obeys (N : Tab) (L : List Nat) : Prop := ∀ i n, n ≤ 3 → n < L.getD i 0 → cell N i n = 0
theorem mul0 {a b : Nat} (h : a = 0 ∨ b = 0) : a * b = 0 := by
  rcases h with h | h <;> simp [h]
theorem four {n : Nat} (h : n ≤ 3) : n = 0 ∨ n = 1 ∨ n = 2 ∨ n = 3 := by omega
theorem reck_low {N : Tab} {L : List Nat} (ob : obeys N L) : ∀ {k : Kd} {m n : Nat}, wf m k → n ≤ 3 → n < low L k → reck N k n = 0
  | .void, _, n, _, _, _ => by simp [reck, plainMany]
  | .unit, _, n, _, _, h => by simp [low] at h
  | .one, _, n, _, _, h => by
    simp only [low] at h
    simp only [reck, plainMany]; rw [if_neg (by omega)]
  | .set, _, n, _, _, h => by simp [low] at h
  | .row, _, n, _, _, h => by simp [low] at h
  | .round, _, n, _, _, h => by
    simp only [low] at h
    simp only [reck, plainMany]; rw [if_neg (by omega)]
  | .rule i, _, n, _, h3, h => ob i n h3 h
  | .this x y, m, n, w, h3, h => by
    simp only [low] at h
    simp only [reck]
    rw [reck_low ob w.1 h3 (by omega), reck_low ob w.2 h3 (by omega)]
  | .point x, m, n, w, h3, h => by
    simp only [low] at h
    simp only [reck]
    by_cases c : n = 0
    · rw [c]; simp
    · rw [reck_low ob (k := x) (m := m) w h3 (by omega)]; simp
  | .hole x, m, n, w, _, h => by
    cases x <;> simp [wf, plainK] at w <;> simp [low] at h
  | .sized x a b, m, n, w, h3, h => by
    have w1 := w.2.1
    have w2 := w.2.2
    simp only [low] at h
    simp only [reck]
    split
    · rename_i c
      refine reck_low ob w.1 h3 ?_
      split at h <;> omega
    · rfl
  | .both x y, m, n, w, h3, h => by
    simp only [low] at h
    have X := fun q (h : q ≤ 3 ∧ q < low L x) => reck_low ob (n := q) w.1 h.1 h.2
    have Y := fun q (h : q ≤ 3 ∧ q < low L y) => reck_low ob (n := q) w.2 h.1 h.2
    have P : ∀ p q, p + q = n → reck N x p * reck N y q = 0 := fun p q e => mul0 (by
      by_cases c : p < low L x
      · exact .inl (X p ⟨by omega, c⟩)
      · exact .inr (Y q ⟨by omega, by omega⟩))
    have P3 : ∀ c p q, p + q = n → c * reck N x p * reck N y q = 0 := fun c p q e => by rw [Nat.mul_assoc, P p q e]; simp
    rcases four h3 with rfl | rfl | rfl | rfl
    · rw [reck_both0, P 0 0 rfl]
    · rw [reck_both1, P 0 1 rfl, P 1 0 rfl]
    · rw [reck_both2, P 0 2 rfl, P 2 0 rfl, P3 2 1 1 rfl]
    · rw [reck_both3, P 0 3 rfl, P 3 0 rfl, P3 3 1 2 rfl, P3 3 2 1 rfl]
  | .inn x y, m, n, w, h3, h => by
    simp only [low] at h
    have X := fun q (h : q ≤ 3 ∧ q < low L x) => reck_low ob (n := q) w.1 h.1 h.2
    have Y := fun q (h : q ≤ 3 ∧ q < low L y) => reck_low ob (n := q) w.2 h.1 h.2
    have hm : n < low L x * low L y := by omega
    rcases four h3 with rfl | rfl | rfl | rfl
    · rw [reck_in0]
      refine X 0 ⟨by omega, ?_⟩
      exact Nat.pos_of_ne_zero fun e => by rw [e] at hm; simp at hm
    all_goals
      generalize low L x = lx at *
      generalize low L y = ly at *
    · rw [reck_in1]
      refine mul0 ?_
      by_cases c : 1 < lx
      · exact .inl (X 1 ⟨by omega, c⟩)
      · refine .inr (Y 1 ⟨by omega, ?_⟩)
        have : lx * ly ≤ 1 * ly := Nat.mul_le_mul_right _ (by omega)
        omega
    · rw [reck_in2]
      by_cases c : 2 < lx
      · rw [X 1 ⟨by omega, by omega⟩, X 2 ⟨by omega, by omega⟩]; simp
      · by_cases d : 1 < ly
        · rw [Y 1 ⟨by omega, d⟩]
          by_cases c1 : 1 < lx
          · rw [X 1 ⟨by omega, by omega⟩]; simp
          · have : lx * ly ≤ 1 * ly := Nat.mul_le_mul_right _ (by omega)
            rw [Y 2 ⟨by omega, by omega⟩]; simp
        · have : lx * ly ≤ 2 * 1 := Nat.mul_le_mul (by omega) (by omega)
          omega
    · rw [reck_in3]
      by_cases c : 3 < lx
      · rw [X 1 ⟨by omega, by omega⟩, X 2 ⟨by omega, by omega⟩, X 3 ⟨by omega, by omega⟩]; simp
      · by_cases d : 1 < ly
        · rw [Y 1 ⟨by omega, d⟩]
          by_cases c1 : 1 < lx
          · rw [X 1 ⟨by omega, by omega⟩]; simp
          · have : lx * ly ≤ 1 * ly := Nat.mul_le_mul_right _ (by omega)
            rw [Y 3 ⟨by omega, by omega⟩]; simp
        · have : lx * ly ≤ 3 * 1 := Nat.mul_le_mul (by omega) (by omega)
          omega
/-- two tables that are one below n, and at n for the rules needed, reckon alike at n -/
theorem reck_congr {A B : Tab} {L : List Nat} (oa : obeys A L) (ob : obeys B L) : ∀ {k : Kd} {m n : Nat}, wf m k → n ≤ 3 → (∀ j q, j < m → q < n → cell A j q = cell B j q) → (∀ j ∈ needs L k, cell A j n = cell B j n) → reck A k n = reck B k n
  | .void, _, _, _, _, _, _ => rfl
  | .unit, _, _, _, _, _, _ => rfl
  | .one, _, _, _, _, _, _ => rfl
  | .set, _, _, _, _, _, _ => rfl
  | .row, _, _, _, _, _, _ => rfl
  | .round, _, _, _, _, _, _ => rfl
  | .hole x, _, _, _, _, _, _ => rfl
  | .rule i, _, _, _, _, _, h => h i (by simp [needs])
  | .this x y, m, n, w, h3, hb, h => by
    simp only [reck]
    rw [reck_congr oa ob w.1 h3 hb fun j hj => h j (by simp [needs, hj]), reck_congr oa ob w.2 h3 hb fun j hj => h j (by simp [needs, hj])]
  | .point x, m, n, w, h3, hb, h => by
    simp only [reck]
    rw [reck_congr oa ob (k := x) (m := m) w h3 hb h]
  | .sized x a b, m, n, w, h3, hb, h => by
    simp only [reck]
    rw [reck_congr oa ob (k := x) (m := m) w.1 h3 hb h]
  | .both x y, m, n, w, h3, hb, h => by
    have XL : ∀ q, q ≤ 3 ∧ q < low L x → reck A x q = 0 ∧ reck B x q = 0 := fun q hq => ⟨reck_low oa (n := q) w.1 hq.1 hq.2, reck_low ob (n := q) w.1 hq.1 hq.2⟩
    have YL : ∀ q, q ≤ 3 ∧ q < low L y → reck A y q = 0 ∧ reck B y q = 0 := fun q hq => ⟨reck_low oa (n := q) w.2 hq.1 hq.2, reck_low ob (n := q) w.2 hq.1 hq.2⟩
    have X : ∀ q, q < n → reck A x q = reck B x q := fun q hq => reck_congr oa ob w.1 (by omega) (fun j r hj hr => hb j r hj (by omega)) fun j hj => hb j q (needs_lt w.1 hj) hq
    have Y : ∀ q, q < n → reck A y q = reck B y q := fun q hq => reck_congr oa ob w.2 (by omega) (fun j r hj hr => hb j r hj (by omega)) fun j hj => hb j q (needs_lt w.2 hj) hq
    have P0 : reck A x n * reck A y 0 = reck B x n * reck B y 0 := by
      by_cases c : low L y = 0
      · rw [reck_congr oa ob w.1 h3 hb fun j hj => h j (by simp [needs, c, hj])]
        by_cases e : n = 0
        · subst e
          by_cases d : low L x = 0
          · rw [reck_congr oa ob w.2 h3 hb fun j hj => h j (by simp [needs, d, hj])]
          · have z := XL 0 ⟨by omega, by omega⟩
            rw [z.2]; simp
        · rw [Y 0 (by omega)]
      · have z := YL 0 ⟨by omega, by omega⟩
        rw [z.1, z.2]; simp
    have P1 : reck A x 0 * reck A y n = reck B x 0 * reck B y n := by
      by_cases c : low L x = 0
      · rw [reck_congr oa ob w.2 h3 hb fun j hj => h j (by simp [needs, c, hj])]
        by_cases e : n = 0
        · subst e
          by_cases d : low L y = 0
          · rw [reck_congr oa ob w.1 h3 hb fun j hj => h j (by simp [needs, d, hj])]
          · have z := YL 0 ⟨by omega, by omega⟩
            rw [z.2]; simp
        · rw [X 0 (by omega)]
      · have z := XL 0 ⟨by omega, by omega⟩
        rw [z.1, z.2]; simp
    rcases four h3 with rfl | rfl | rfl | rfl
    · rw [reck_both0, reck_both0, P0]
    · rw [reck_both1, reck_both1, P0, P1]
    · rw [reck_both2, reck_both2, P0, P1, X 1 (by omega), Y 1 (by omega)]
    · rw [reck_both3, reck_both3, P0, P1, X 1 (by omega), Y 1 (by omega), X 2 (by omega), Y 2 (by omega)]
  | .inn x y, m, n, w, h3, hb, h => by
    have XL : ∀ q, q ≤ 3 ∧ q < low L x → reck A x q = 0 ∧ reck B x q = 0 := fun q hq => ⟨reck_low oa (n := q) w.1 hq.1 hq.2, reck_low ob (n := q) w.1 hq.1 hq.2⟩
    have YL : ∀ q, q ≤ 3 ∧ q < low L y → reck A y q = 0 ∧ reck B y q = 0 := fun q hq => ⟨reck_low oa (n := q) w.2 hq.1 hq.2, reck_low ob (n := q) w.2 hq.1 hq.2⟩
    have X : ∀ q, q < n → reck A x q = reck B x q := fun q hq => reck_congr oa ob w.1 (by omega) (fun j r hj hr => hb j r hj (by omega)) fun j hj => hb j q (needs_lt w.1 hj) hq
    have Y : ∀ q, q < n → reck A y q = reck B y q := fun q hq => reck_congr oa ob w.2 (by omega) (fun j r hj hr => hb j r hj (by omega)) fun j hj => hb j q (needs_lt w.2 hj) hq
    have XN : low L y < 2 ∨ low L x = 0 → reck A x n = reck B x n := fun c => reck_congr oa ob w.1 h3 hb fun j hj => h j (by simp [needs, c, hj])
    have YN : low L x < 2 → reck A y n = reck B y n := fun c => reck_congr oa ob w.2 h3 hb fun j hj => h j (by simp [needs, c, hj])
    have P0 : n ≠ 0 → reck A x 1 * reck A y n = reck B x 1 * reck B y n := fun e => by
      by_cases c : low L x < 2
      · rw [YN c]
        by_cases f : n = 1
        · subst f
          by_cases d : low L y < 2
          · rw [XN (.inl d)]
          · have z := YL 1 ⟨by omega, by omega⟩
            rw [z.2]; simp
        · rw [X 1 (by omega)]
      · have z := XL 1 ⟨by omega, by omega⟩
        rw [z.1, z.2]; simp
    have P1 : n ≠ 0 → reck A x n * reck A y 1 = reck B x n * reck B y 1 := fun e => by
      by_cases c : low L y < 2
      · rw [XN (.inl c)]
        by_cases f : n = 1
        · subst f
          by_cases d : low L x < 2
          · rw [YN d]
          · have z := XL 1 ⟨by omega, by omega⟩
            rw [z.2]; simp
        · rw [Y 1 (by omega)]
      · have z := YL 1 ⟨by omega, by omega⟩
        rw [z.1, z.2]; simp
    rcases four h3 with rfl | rfl | rfl | rfl
    · rw [reck_in0, reck_in0]
      by_cases c : low L x = 0
      · exact XN (.inr c)
      · have z := XL 0 ⟨by omega, by omega⟩
        rw [z.1, z.2]
    · rw [reck_in1, reck_in1, P0 (by omega)]
    · rw [reck_in2, reck_in2, P0 (by omega), P1 (by omega), Y 1 (by omega)]
    · rw [reck_in3, reck_in3, P0 (by omega), P1 (by omega), Y 1 (by omega), X 2 (by omega), Y 2 (by omega)]
/-! ### steps -/
theorem stepN_at {rules : List Kd} {N : Tab} {i n : Nat} (hi : i < rules.length) (hn : n ≤ 3) : cell (stepN rules N) i n = min cap (reck N (rules.getD i .void) n) := by
  unfold cell stepN
  rw [getD_of_lt (l := List.map _ rules) (by simpa using hi), List.getElem_map, getD_of_lt (by simp; omega), getD_of_lt hi]
  simp
theorem stepN_len {rules : List Kd} {N : Tab} : (stepN rules N).length = rules.length := by simp [stepN]
theorem stepsN_len {rules : List Kd} : ∀ t, (stepsN rules t).length = rules.length
  | 0 => by simp [stepsN]
  | t + 1 => by simp [stepsN, stepN]
theorem cell_off {N : Tab} {i n : Nat} (h : N.length ≤ i) : cell N i n = 0 := by
  unfold cell
  rw [getD_of_ge h]; simp
theorem stepsN_cell0 {rules : List Kd} {i n : Nat} : cell (stepsN rules 0) i n = 0 := by
  by_cases c : i < rules.length
  · unfold cell stepsN
    rw [getD_of_lt (l := List.map _ rules) (by simpa using c), List.getElem_map]
    by_cases d : n < 4
    · rw [getD_of_lt (by simpa using d), List.getElem_replicate]
    · rw [getD_of_ge (by simpa using d)]
  · exact cell_off (by rw [stepsN_len]; omega)
theorem stepN_obeys {rules : List Kd} {L : List Nat} {R : Nat → Int} (p : Lets rules L R) (hw : wfs rules) {N : Tab} (o : obeys N L) : obeys (stepN rules N) L := fun i n hn hl => by
  by_cases c : i < rules.length
  · rw [stepN_at c hn, reck_low o (hw i c) hn (by have := p.low i c; omega)]; simp
  · exact cell_off (by rw [stepN_len]; omega)
theorem stepsN_obeys {rules : List Kd} {L : List Nat} {R : Nat → Int} (p : Lets rules L R) (hw : wfs rules) : ∀ t, obeys (stepsN rules t) L
  | 0 => fun i n _ _ => stepsN_cell0
  | t + 1 => stepN_obeys p hw (stepsN_obeys p hw t)
/-- when (i, n) has come to its end -/
def lev (m : Nat) (R : Nat → Int) (i n : Nat) : Nat := n * m + rho m R i + 1
theorem steps_end {rules : List Kd} {L : List Nat} {R : Nat → Int} (p : Lets rules L R) (hw : wfs rules) : ∀ t i n, i < rules.length → n ≤ 3 → lev rules.length R i n ≤ t → cell (stepsN rules (t + 1)) i n = cell (stepsN rules t) i n
  | 0, i, n, _, _, h => by unfold lev at h; omega
  | t + 1, i, n, hi, hn, h => by
    have ih := steps_end p hw t
    have oa := stepsN_obeys p hw (t + 1)
    have ob := stepsN_obeys p hw t
    show cell (stepN rules (stepsN rules (t + 1))) i n = cell (stepN rules (stepsN rules t)) i n
    rw [stepN_at hi hn, stepN_at hi hn]
    rw [reck_congr oa ob (hw i hi) hn (fun j q hj hq => ih j q hj (by omega) ?_) (fun j hj => ih j n (needs_lt (hw i hi) hj) hn ?_)]
    · unfold lev at h ⊢
      have a := rho_lt (R := R) hj
      have b : (q + 1) * rules.length ≤ n * rules.length := Nat.mul_le_mul_right _ hq
      rw [Nat.add_mul] at b
      omega
    · unfold lev at h ⊢
      have hjl := needs_lt (hw i hi) hj
      have a := rho_mono (m := rules.length) (R := R) hjl (p.nd i hi j hj)
      omega
def Shaped (m : Nat) (N : Tab) : Prop := N.length = m ∧ ∀ r ∈ N, r.length = 4
theorem stepN_shaped {rules : List Kd} {N : Tab} : Shaped rules.length (stepN rules N) := by
  refine ⟨stepN_len, fun r hr => ?_⟩
  unfold stepN at hr
  rw [List.mem_map] at hr
  obtain ⟨_, _, rfl⟩ := hr
  simp
theorem stepsN_shaped {rules : List Kd} : ∀ t, Shaped rules.length (stepsN rules t)
  | 0 => by
    refine ⟨stepsN_len 0, fun r hr => ?_⟩
    unfold stepsN at hr
    rw [List.mem_map] at hr
    obtain ⟨_, _, rfl⟩ := hr
    simp
  | t + 1 => stepN_shaped
theorem tab_ext {m : Nat} {A B : Tab} (a : Shaped m A) (b : Shaped m B) (h : ∀ i n, i < m → n ≤ 3 → cell A i n = cell B i n) : A = B := by
  apply List.ext_getElem (by rw [a.1, b.1])
  intro i h1 h2
  have la := a.2 _ (List.getElem_mem h1)
  have lb := b.2 _ (List.getElem_mem h2)
  apply List.ext_getElem (by rw [la, lb])
  intro n h3 h4
  have q := h i n (by rw [← a.1]; exact h1) (by omega)
  unfold cell at q
  rw [getD_of_lt h1, getD_of_lt h2, getD_of_lt h3, getD_of_lt h4] at q
  exact q
/-- what comes in so many steps comes to an end -/
theorem Lets.ends {rules : List Kd} {L : List Nat} {R : Nat → Int} (p : Lets rules L R) (hw : wfs rules) : stepN rules (stepsN rules (4 * rules.length + 1)) = stepsN rules (4 * rules.length + 1) := by
  refine tab_ext (stepN_shaped) (stepsN_shaped _) fun i n hi hn => ?_
  refine steps_end p hw (4 * rules.length + 1) i n hi hn ?_
  unfold lev
  have a := rho_lt (R := R) hi
  have b : n * rules.length ≤ 3 * rules.length := Nat.mul_le_mul_right _ hn
  omega
theorem Lets.inside {rules : List Kd} {L : List Nat} {R : Nat → Int} (p : Lets rules L R) (hw : wfs rules) {i : Nat} (hi : i < rules.length) {y : Kd} (hy : y ∈ insides (rules.getD i .void)) (t : Nat) : reck (stepsN rules t) y 0 = 0 := by
  refine reck_low (stepsN_obeys p hw t) (insides_wf (hw i hi) y hy) (by omega) ?_
  have := p.st i hi
  unfold stands at this
  rw [List.all_eq_true] at this
  exact of_decide_eq_true (this y hy)
/-! ### how great numbers are -/
def bd (d : Nat) : Nat := 2 ^ (100 * 5 ^ d)
theorem bd_pos (d : Nat) : 0 < bd d := Nat.pow_pos (by decide)
theorem five_pos (d : Nat) : 1 ≤ 5 ^ d := Nat.pow_pos (by decide)
theorem bd_mono {c d : Nat} (h : c ≤ d) : bd c ≤ bd d := Nat.pow_le_pow_right (by decide) (Nat.mul_le_mul_left _ (Nat.pow_le_pow_right (by decide) h))
theorem bd_big (d : Nat) : 2 ^ 100 ≤ bd d := Nat.pow_le_pow_right (by decide) (by have := five_pos d; omega)
theorem bd_succ (d : Nat) : bd d * bd d * bd d * bd d * bd d = bd (d + 1) := by
  unfold bd
  rw [← Nat.pow_add, ← Nat.pow_add, ← Nat.pow_add, ← Nat.pow_add]
  congr 1
  rw [Nat.pow_succ]; omega
theorem fact_le : ∀ n, fact n ≤ 24
  | 0 => by decide
  | 1 => by decide
  | 2 => by decide
  | 3 => by decide
  | n + 4 => by simp [fact]
theorem plainMany_le (k : Kd) (n : Nat) : plainMany k n ≤ 24 := by
  have f := fact_le n
  cases k <;> simp only [plainMany] <;> (try omega)
  all_goals (split <;> try omega)
  have := Nat.div_le_self (fact n) n
  omega
theorem le_bd_of_small {x d : Nat} (h : x ≤ 24) : x ≤ bd d := by
  have := bd_big d
  have h2 : (24 : Nat) ≤ 2 ^ 100 := by decide
  omega
def tame (N : Tab) : Prop := ∀ i n, cell N i n ≤ cap
theorem cap_le (d : Nat) : cap ≤ bd d := Nat.le_trans (by decide) (bd_big d)
theorem m5 {b q r s t : Nat} (hb : 8 ≤ b) (h1 : q ≤ b) (h2 : r ≤ b) (h3 : s ≤ b) (h4 : t ≤ b) : 8 * (q * r * s * t) ≤ b * b * b * b * b := by
  have a := Nat.mul_le_mul (Nat.mul_le_mul (Nat.mul_le_mul h1 h2) h3) h4
  have c := Nat.mul_le_mul a hb
  rw [Nat.mul_comm] at c
  exact c
theorem reck_le {N : Tab} (ht : tame N) : ∀ {k : Kd} {n : Nat}, n ≤ 3 → reck N k n ≤ bd (dep k)
  | .void, n, _ => le_bd_of_small (plainMany_le _ _)
  | .unit, n, _ => le_bd_of_small (plainMany_le _ _)
  | .one, n, _ => le_bd_of_small (plainMany_le _ _)
  | .set, n, _ => le_bd_of_small (plainMany_le _ _)
  | .row, n, _ => le_bd_of_small (plainMany_le _ _)
  | .round, n, _ => le_bd_of_small (plainMany_le _ _)
  | .hole x, n, _ => le_bd_of_small (plainMany_le _ _)
  | .rule i, n, _ => Nat.le_trans (ht i n) (cap_le _)
  | .sized x a b, n, h => by
    simp only [reck]
    split
    · exact Nat.le_trans (reck_le ht h) (bd_mono (by simp only [dep]; omega))
    · exact Nat.zero_le _
  | .point x, n, h => by
    simp only [reck, dep]
    have a := reck_le ht (k := x) h
    have b := bd_big (dep x)
    have p := bd_pos (dep x)
    rw [← bd_succ]
    have q := m5 (b := bd (dep x)) (q := reck N x n) (r := 1) (s := 1) (t := 1) (by omega) a (by omega) (by omega) (by omega)
    have c : n * reck N x n ≤ 3 * reck N x n := Nat.mul_le_mul_right _ h
    omega
  | .this x y, n, h => by
    simp only [reck, dep]
    have a := Nat.le_trans (reck_le ht (k := x) h) (bd_mono (show dep x ≤ max (dep x) (dep y) by omega))
    have a2 := Nat.le_trans (reck_le ht (k := y) h) (bd_mono (show dep y ≤ max (dep x) (dep y) by omega))
    rw [← bd_succ]
    generalize max (dep x) (dep y) = d at *
    have b := bd_big d
    have q := m5 (b := bd d) (q := reck N x n) (r := 1) (s := 1) (t := 1) (by omega) a (by omega) (by omega) (by omega)
    have q2 := m5 (b := bd d) (q := reck N y n) (r := 1) (s := 1) (t := 1) (by omega) a2 (by omega) (by omega) (by omega)
    omega
  | .both x y, n, h => by
    have X : ∀ q, q ≤ 3 → reck N x q ≤ bd (max (dep x) (dep y)) := fun q hq => Nat.le_trans (reck_le ht (k := x) hq) (bd_mono (by omega))
    have Y : ∀ q, q ≤ 3 → reck N y q ≤ bd (max (dep x) (dep y)) := fun q hq => Nat.le_trans (reck_le ht (k := y) hq) (bd_mono (by omega))
    show reck N (.both x y) n ≤ bd (max (dep x) (dep y) + 1)
    rw [← bd_succ]
    have b := bd_big (max (dep x) (dep y))
    generalize max (dep x) (dep y) = d at *
    have one : (1 : Nat) ≤ bd d := by omega
    have M : ∀ p q, p ≤ 3 → q ≤ 3 → 8 * (reck N x p * reck N y q) ≤ bd d * bd d * bd d * bd d * bd d := fun p q hp hq => by
      have z := m5 (b := bd d) (q := reck N x p) (r := reck N y q) (s := 1) (t := 1) (by omega) (X p hp) (Y q hq) one one
      rw [Nat.mul_one, Nat.mul_one] at z
      exact z
    rcases four h with rfl | rfl | rfl | rfl
    · rw [reck_both0]
      have := M 0 0 (by omega) (by omega)
      omega
    · rw [reck_both1]
      have := M 0 1 (by omega) (by omega)
      have := M 1 0 (by omega) (by omega)
      omega
    · rw [reck_both2, Nat.mul_assoc]
      have := M 0 2 (by omega) (by omega)
      have := M 1 1 (by omega) (by omega)
      have := M 2 0 (by omega) (by omega)
      omega
    · rw [reck_both3, Nat.mul_assoc, Nat.mul_assoc]
      have := M 0 3 (by omega) (by omega)
      have := M 1 2 (by omega) (by omega)
      have := M 2 1 (by omega) (by omega)
      have := M 3 0 (by omega) (by omega)
      omega
  | .inn x y, n, h => by
    have X : ∀ q, q ≤ 3 → reck N x q ≤ bd (max (dep x) (dep y)) := fun q hq => Nat.le_trans (reck_le ht (k := x) hq) (bd_mono (by omega))
    have Y : ∀ q, q ≤ 3 → reck N y q ≤ bd (max (dep x) (dep y)) := fun q hq => Nat.le_trans (reck_le ht (k := y) hq) (bd_mono (by omega))
    show reck N (.inn x y) n ≤ bd (max (dep x) (dep y) + 1)
    rw [← bd_succ]
    have b := bd_big (max (dep x) (dep y))
    generalize max (dep x) (dep y) = d at *
    have one : (1 : Nat) ≤ bd d := by omega
    have M2 : ∀ p q, p ≤ 3 → q ≤ 3 → 8 * (reck N x p * reck N y q) ≤ bd d * bd d * bd d * bd d * bd d := fun p q hp hq => by
      have z := m5 (b := bd d) (q := reck N x p) (r := reck N y q) (s := 1) (t := 1) (by omega) (X p hp) (Y q hq) one one
      rw [Nat.mul_one, Nat.mul_one] at z
      exact z
    have M3 : ∀ p q r, p ≤ 3 → q ≤ 3 → r ≤ 3 → 8 * (reck N x p * reck N y q * reck N y r) ≤ bd d * bd d * bd d * bd d * bd d := fun p q r hp hq hr => by
      have z := m5 (b := bd d) (q := reck N x p) (r := reck N y q) (s := reck N y r) (t := 1) (by omega) (X p hp) (Y q hq) (Y r hr) one
      rw [Nat.mul_one] at z
      exact z
    have M4 : 8 * (reck N x 3 * reck N y 1 * reck N y 1 * reck N y 1) ≤ bd d * bd d * bd d * bd d * bd d := m5 (by omega) (X 3 (by omega)) (Y 1 (by omega)) (Y 1 (by omega)) (Y 1 (by omega))
    rcases four h with rfl | rfl | rfl | rfl
    · rw [reck_in0]
      have z := m5 (b := bd d) (q := reck N x 0) (r := 1) (s := 1) (t := 1) (by omega) (X 0 (by omega)) one one one
      omega
    · rw [reck_in1]
      have := M2 1 1 (by omega) (by omega)
      omega
    · rw [reck_in2]
      have := M2 1 2 (by omega) (by omega)
      have := M3 2 1 1 (by omega) (by omega) (by omega)
      omega
    · rw [reck_in3]
      have := M2 1 3 (by omega) (by omega)
      have := M3 2 1 2 (by omega) (by omega) (by omega)
      omega
theorem stepN_tame {rules : List Kd} {N : Tab} : tame (stepN rules N) := fun i n => by
  by_cases c : i < rules.length
  · by_cases d : n ≤ 3
    · rw [stepN_at c d]; omega
    · have := stepN_shaped (rules := rules) (N := N)
      unfold cell
      rw [getD_of_ge (l := (stepN rules N).getD i [])]
      · exact Nat.zero_le _
      · rw [getD_of_lt (by rw [stepN_len]; exact c), this.2 _ (List.getElem_mem _)]; omega
  · rw [cell_off (by rw [stepN_len]; omega)]; exact Nat.zero_le _
theorem stepsN_tame {rules : List Kd} : ∀ t, tame (stepsN rules t)
  | 0 => fun i n => by rw [stepsN_cell0]; exact Nat.zero_le _
  | t + 1 => stepN_tame
end KM
/-! # The head: where the defs stand behind the top, the tables, the error's class -/
namespace KH
open PySem PySem.Spec PyProof.Rows L2
def top (i : Nat) : Stmt := PySem.Challenge.pw_kindmakes_k90_whole_founded_rules.main.body.getD i (.Pass ⟨0, 0, 0, 0⟩)
abbrev s_init : Stmt := inClass (top 2) 0
abbrev s_is_whole : Stmt := top 4
abbrev s_inner_kinds : Stmt := top 7
abbrev s_kinds_in : Stmt := top 8
abbrev s_by_parts : Stmt := top 12
abbrev s_low_of : Stmt := top 13
abbrev s_needed : Stmt := top 14
abbrev s_needs_of : Stmt := top 15
abbrev s_stands_by : Stmt := top 16
abbrev s_is_row : Stmt := top 19
abbrev s_is_paper : Stmt := top 20
abbrev s_amiss_at : Stmt := top 21
abbrev s_lets_found : Stmt := top 22
abbrev s_greatest_lows : Stmt := top 24
abbrev s_found_told : Stmt := top 25
abbrev s_is_right : Stmt := top 26
abbrev s_law_tape : Stmt := top 28
abbrev s_law_next : Stmt := top 29
abbrev s_law_low : Stmt := top 30
abbrev s_law_lows : Stmt := top 31
abbrev s_law_wild : Stmt := top 32
abbrev s_law_needs : Stmt := top 33
abbrev s_law_insides : Stmt := top 34
abbrev s_law_is_founded : Stmt := top 35
abbrev s_law_ways : Stmt := top 36
abbrev s_law_plain_many : Stmt := top 37
abbrev s_law_reckon : Stmt := top 38
abbrev s_law_steps : Stmt := top 39
abbrev s_law_back : Stmt := top 40
abbrev s_law_lets : Stmt := top 41
abbrev s_law_is_so : Stmt := top 42
abbrev s_law_bent : Stmt := top 43
abbrev s_law_papers : Stmt := top 44
abbrev s_law_right : Stmt := top 45
abbrev s_law : Stmt := top 46
def d_init : He.DefD := ⟨("NoPaper", some "__init__"), "__init__", "NoPaper.__init__", defArgs s_init, defBody s_init, defScope s_init, [], []⟩
def d_is_whole : He.DefD := ⟨("is_whole", none), "is_whole", "is_whole", defArgs s_is_whole, defBody s_is_whole, defScope s_is_whole, [], []⟩
def d_inner_kinds : He.DefD := ⟨("inner_kinds", none), "inner_kinds", "inner_kinds", defArgs s_inner_kinds, defBody s_inner_kinds, defScope s_inner_kinds, [], []⟩
def d_kinds_in : He.DefD := ⟨("kinds_in", none), "kinds_in", "kinds_in", defArgs s_kinds_in, defBody s_kinds_in, defScope s_kinds_in, [], []⟩
def d_by_parts : He.DefD := ⟨("by_parts", none), "by_parts", "by_parts", defArgs s_by_parts, defBody s_by_parts, defScope s_by_parts, [], []⟩
def d_low_of : He.DefD := ⟨("low_of", none), "low_of", "low_of", defArgs s_low_of, defBody s_low_of, defScope s_low_of, [], []⟩
def d_needed : He.DefD := ⟨("needed", none), "needed", "needed", defArgs s_needed, defBody s_needed, defScope s_needed, [], []⟩
def d_needs_of : He.DefD := ⟨("needs_of", none), "needs_of", "needs_of", defArgs s_needs_of, defBody s_needs_of, defScope s_needs_of, [], []⟩
def d_stands_by : He.DefD := ⟨("stands_by", none), "stands_by", "stands_by", defArgs s_stands_by, defBody s_stands_by, defScope s_stands_by, [], []⟩
def d_is_row : He.DefD := ⟨("is_row", none), "is_row", "is_row", defArgs s_is_row, defBody s_is_row, defScope s_is_row, [], []⟩
def d_is_paper : He.DefD := ⟨("is_paper", none), "is_paper", "is_paper", defArgs s_is_paper, defBody s_is_paper, defScope s_is_paper, [], []⟩
def d_amiss_at : He.DefD := ⟨("amiss_at", none), "amiss_at", "amiss_at", defArgs s_amiss_at, defBody s_amiss_at, defScope s_amiss_at, [], []⟩
def d_lets_found : He.DefD := ⟨("lets_found", none), "lets_found", "lets_found", defArgs s_lets_found, defBody s_lets_found, defScope s_lets_found, [], []⟩
def d_greatest_lows : He.DefD := ⟨("greatest_lows", none), "greatest_lows", "greatest_lows", defArgs s_greatest_lows, defBody s_greatest_lows, defScope s_greatest_lows, [], []⟩
def d_found_told : He.DefD := ⟨("found_told", none), "found_told", "found_told", defArgs s_found_told, defBody s_found_told, defScope s_found_told, [], []⟩
def d_is_right : He.DefD := ⟨("is_right", none), "is_right", "is_right", defArgs s_is_right, defBody s_is_right, defScope s_is_right, [], []⟩
def d_law_tape : He.DefD := ⟨("_law_tape", none), "_law_tape", "_law_tape", defArgs s_law_tape, defBody s_law_tape, defScope s_law_tape, [], []⟩
def d_law_next : He.DefD := ⟨("_law_next", none), "_law_next", "_law_next", defArgs s_law_next, defBody s_law_next, defScope s_law_next, [], []⟩
def d_law_low : He.DefD := ⟨("_law_low", none), "_law_low", "_law_low", defArgs s_law_low, defBody s_law_low, defScope s_law_low, [], []⟩
def d_law_lows : He.DefD := ⟨("_law_lows", none), "_law_lows", "_law_lows", defArgs s_law_lows, defBody s_law_lows, defScope s_law_lows, [], []⟩
def d_law_wild : He.DefD := ⟨("_law_wild", none), "_law_wild", "_law_wild", defArgs s_law_wild, defBody s_law_wild, defScope s_law_wild, [], []⟩
def d_law_needs : He.DefD := ⟨("_law_needs", none), "_law_needs", "_law_needs", defArgs s_law_needs, defBody s_law_needs, defScope s_law_needs, [], []⟩
def d_law_insides : He.DefD := ⟨("_law_insides", none), "_law_insides", "_law_insides", defArgs s_law_insides, defBody s_law_insides, defScope s_law_insides, [], []⟩
def d_law_is_founded : He.DefD := ⟨("_law_is_founded", none), "_law_is_founded", "_law_is_founded", defArgs s_law_is_founded, defBody s_law_is_founded, defScope s_law_is_founded, [], []⟩
def d_law_ways : He.DefD := ⟨("_law_ways", none), "_law_ways", "_law_ways", defArgs s_law_ways, defBody s_law_ways, defScope s_law_ways, [], []⟩
def d_law_plain_many : He.DefD := ⟨("_law_plain_many", none), "_law_plain_many", "_law_plain_many", defArgs s_law_plain_many, defBody s_law_plain_many, defScope s_law_plain_many, [], []⟩
def d_law_reckon : He.DefD := ⟨("_law_reckon", none), "_law_reckon", "_law_reckon", defArgs s_law_reckon, defBody s_law_reckon, defScope s_law_reckon, [], []⟩
def d_law_steps : He.DefD := ⟨("_law_steps", none), "_law_steps", "_law_steps", defArgs s_law_steps, defBody s_law_steps, defScope s_law_steps, [], []⟩
def d_law_back : He.DefD := ⟨("_law_back", none), "_law_back", "_law_back", defArgs s_law_back, defBody s_law_back, defScope s_law_back, [], []⟩
def d_law_lets : He.DefD := ⟨("_law_lets", none), "_law_lets", "_law_lets", defArgs s_law_lets, defBody s_law_lets, defScope s_law_lets, [], []⟩
def d_law_is_so : He.DefD := ⟨("_law_is_so", none), "_law_is_so", "_law_is_so", defArgs s_law_is_so, defBody s_law_is_so, defScope s_law_is_so, [], []⟩
def d_law_bent : He.DefD := ⟨("_law_bent", none), "_law_bent", "_law_bent", defArgs s_law_bent, defBody s_law_bent, defScope s_law_bent, [], []⟩
def d_law_papers : He.DefD := ⟨("_law_papers", none), "_law_papers", "_law_papers", defArgs s_law_papers, defBody s_law_papers, defScope s_law_papers, [], []⟩
def d_law_right : He.DefD := ⟨("_law_right", none), "_law_right", "_law_right", defArgs s_law_right, defBody s_law_right, defScope s_law_right, [], []⟩
def d_law : He.DefD := ⟨("law", none), "law", "law", defArgs s_law, defBody s_law, defScope s_law, [], []⟩
def fn0 : List He.DefD := [d_init, d_is_whole, d_inner_kinds, d_kinds_in, d_by_parts, d_low_of, d_needed, d_needs_of, d_stands_by, d_is_row, d_is_paper, d_amiss_at]
def fn1 : List He.DefD := [d_lets_found, d_greatest_lows, d_found_told, d_is_right, d_law_tape, d_law_next, d_law_low, d_law_lows, d_law_wild, d_law_needs, d_law_insides, d_law_is_founded]
def fn2 : List He.DefD := [d_law_ways, d_law_plain_many, d_law_reckon, d_law_steps, d_law_back, d_law_lets, d_law_is_so, d_law_bent, d_law_papers, d_law_right, d_law]
def fn : List He.DefD := fn0 ++ fn1 ++ fn2
def fa0 : List He.Fa := [.glo "is_whole", .glo "inner_kinds", .glo "kinds_in", .glo "by_parts", .glo "low_of", .glo "needed", .glo "needs_of", .glo "stands_by", .glo "is_row", .glo "is_paper", .glo "amiss_at", .glo "lets_found", .glo "greatest_lows", .glo "found_told", .glo "is_right", .glo "_law_tape"]
def fa1 : List He.Fa := [.glo "_law_next", .glo "_law_low", .glo "_law_lows", .glo "_law_wild", .glo "_law_needs", .glo "_law_insides", .glo "_law_is_founded", .glo "_law_ways", .glo "_law_plain_many", .glo "_law_reckon", .glo "_law_steps", .glo "_law_back", .glo "_law_lets", .glo "_law_is_so", .glo "_law_bent", .glo "_law_papers"]
def fa2 : List He.Fa := [.glo "_law_right", .glo "law", .free "len", .free "list", .free "range", .free "min", .free "max", .free "all", .free "set", .free "sorted", .free "tuple", .free "isinstance", .free "int", .free "bool", .free "repr", .free "ValueError"]
def fa3 : List He.Fa := [.int "MOST_LOW" 20, .int "MOST_RANK" 99, .glo "PAIRED", .glo "BARE_LOWS", .glo "NoPaper", .glo "KindError", .exm "NoPaper" "NoPaper" true, .noat "NoPaper" "word", .noat "NoPaper" "number", .keep "NoPaper"]
def fa : List He.Fa := fa0 ++ fa1 ++ fa2 ++ fa3
def bareKeys : List Str := ["void", "unit", "one", "set", "row", "round"]
def bareVals : List (Str × He.Dv) := [("void", .int 20), ("unit", .int 0), ("one", .int 1), ("set", .int 0), ("row", .int 0), ("round", .int 1)]
def ts : List He.Tab := [(fun K => He.ga K "BARE_LOWS", bareKeys)]
def oexB (K : PySem.W.Frag) (C : Addr) : Bool := match K.lookup C with
  | some ⟨.type "type", _, .cls cd, sl⟩ => (match cd.mro, sl.toList with
    | .ref C' :: bm, [_, _, _, _, some (.builtin n), _] => C' == C && (n == "ValueError.__new__" && (!cd.hasDel && (cd.hasDict && PySem.HandSPX.refsVE bm)))
    | _, _ => false)
  | _ => false
def noKeys (K : PySem.W.Frag) (a : Addr) (ks : List Str) : Bool := ks.all fun k => He.eqO (PySem.W.nsIn K a k) (some none)
def eqOA (a b : Option Value) : Bool := decide (a = b)
def ex (K : PySem.W.Frag) : Bool :=
  He.tupB K "PAIRED" [.str "this", .str "both", .str "in"] && (He.valsB K (He.ga K "BARE_LOWS") bareVals && (noKeys K (He.ga K "BARE_LOWS") ["this", "both", "in", "point", "hole", "sized", "rule"] &&
  (oexB K (He.ga K "NoPaper") && (He.eqO (PySem.W.findIn K (.ref (He.ga K "NoPaper")) "__setattr__") (some (some (.builtin "object.__setattr__"))) &&
  (decide (PySem.W.subIn K (.ref (He.ga K "NoPaper")) (.type "BaseException") = some true) && (decide (PySem.W.typeIn K (.ref (He.ga K "NoPaper")) = some (.type "type")) &&
  (He.eqO (PySem.W.findIn K (.ref (He.ga K "NoPaper")) "__init__") (some (some (.ref (He.ma K (He.ga K "NoPaper") "__init__")))) &&
  (decide (PySem.W.typeIn K (.ref (He.ma K (He.ga K "NoPaper") "__init__")) = some (.type "function")) &&
  (PySem.W.readsIn K (He.ga K "KindError") (.type "type") && (He.eqO (PySem.W.specialIn K (.ref (He.ga K "KindError")) "__getattribute__") (some (some (.builtin "type.__getattribute__"))) &&
  (match PySem.W.findCls K (.ref (He.ga K "KindError")) (.type "type") "__init__" with
    | some (.val (.builtin n)) => decide (n = "ValueError.__init__")
    | _ => false)))))))))))
def loose : List Str := (["KindError", "NoPaper", "is_whole", "PAIRED", "inner_kinds", "kinds_in", "MOST_LOW", "BARE_LOWS"] : List Str) ++ (["by_parts", "low_of", "needed", "needs_of", "stands_by", "MOST_RANK", "is_row", "is_paper"] : List Str) ++ (["amiss_at", "lets_found", "greatest_lows", "found_told", "is_right", "_law_tape", "_law_next", "_law_low"] : List Str) ++ (["_law_lows", "_law_wild", "_law_needs", "_law_insides", "_law_is_founded", "_law_ways", "_law_plain_many", "_law_reckon"] : List Str) ++ (["_law_steps", "_law_back", "_law_lets", "_law_is_so", "_law_bent", "_law_papers", "_law_right"] : List Str)
abbrev R : PySem.W.OpenRow := PySem.W.OpenLaw.row PySem.Challenge.rw_kindmakes_k90_whole_founded_rules
/-- what is looked at: the module's names, what they reach, and the statics -/
def asY (g : Addr → Option Obj) : List Addr := PySem.cStatics :: He.asD g 5
abbrev AlY : Type := He.AlT × Bool
def obsY (g : Addr → Option Obj) : AlY := (He.obsT fa fn ts (He.frG g (asY g)), ex (He.frG g (asY g)))
def hk : PySem.W.Hook where
  α := AlY
  obs := fun s => obsY s.heap.get?
  val := fun w => (He.valT fn ts w, true)
  says := fun w h => ∃ K : PySem.W.Frag, K.In h ∧ He.SaysT fa fn ts w K ∧ ex K = true
  of := fun _ _ e => ⟨_, He.frG_in, congrArg (fun z : AlY => z.1) e, congrArg (fun z : AlY => z.2) e⟩
  keeps := fun _ _ _ ⟨K, hK, c⟩ k => ⟨K, PySem.W.Frag.In.keeps hK k, c⟩
def ob (s : PySem.W.SharedT) : AlY := obsY (HandSHeadRun.getT s)
theorem ob_eq (s : PySem.W.SharedT) : ob s = hk.obs s.abs := by
  have e : HandSHeadRun.getT s = s.abs.heap.get? := funext (HandSHeadRun.getT_eq s)
  show obsY _ = obsY _
  rw [e]
theorem run (w : World) : HandSHeadRun.RunEq R (PySem.W.view R.prog [46]) hk ob 4000 loose w := by
  revert w
  refine PySem.W.byRow2 "special-get-raises" (fun w => ?_) (fun w => ?_)
  · intro os
    kernel_rfl
  · intro os
    kernel_rfl
end KH
/-! # Rules of our own: repr of a truth, max with a default, a tuple times a number, the set of a list of numbers, a base class's __init__ -/
namespace KR
open PySem PySem.Spec PyProof.Rows L2
section
variable {X : Cx}
/-! ### repr(True), repr(False) -/
def rReprB : List V → Hp → VK → Prop := fun xs H Q => ∃ b : Bool, xs = [.bl b] ∧ Q (.str (if b then "True" else "False")) H
theorem cr_reprB : CallR X (.builtin "repr") rReprB := by
  intro pins s σ H xs us Q I r h
  obtain ⟨b, rfl, q⟩ := h
  obtain ⟨u, rfl, hu⟩ := vals1 r
  obtain rfl : u = Value.bool b := hu
  exact PySem.P.repr_of_bool ⟨.str _, H, I.tok _, ⟨_, rfl⟩, q⟩
/-! ### max(xs, default=d) -/
def rMaxD (K : PySem.W.Frag) : List V → List V → Hp → VK → Prop := fun vs zs H Q => ∃ (a : Addr) (ns : List Int) (d : V), vs = [V.ref a] ∧ zs = [d] ∧ SqL K H a (ns.map V.int) ∧
  (ns = [] → Q d H) ∧ ∀ m, m ∈ ns → (∀ y ∈ ns, y ≤ m) → Q (.int m) H
theorem foldMax : ∀ (xs : List Int) (x : Int), PySem.W.maxOf x xs ∈ x :: xs ∧ (∀ y ∈ x :: xs, y ≤ PySem.W.maxOf x xs) := by
  intro xs
  induction xs with
  | nil => exact fun x => ⟨List.mem_cons_self, fun y hy => by
      rw [List.mem_singleton.mp hy]
      exact Int.le_refl x⟩
  | cons z zs ih =>
    intro x
    have e : PySem.W.maxOf x (z :: zs) = PySem.W.maxOf (if decide (x < z) = true then z else x) zs := rfl
    rw [e]
    by_cases c : x < z
    · rw [decide_eq_true c, if_pos rfl]
      obtain ⟨h1, h2⟩ := ih z
      refine ⟨List.mem_cons_of_mem _ h1, fun y hy => ?_⟩
      rcases List.mem_cons.mp hy with rfl | hy
      · have := h2 z List.mem_cons_self
        omega
      · exact h2 y hy
    · rw [decide_eq_false c, if_neg Bool.false_ne_true]
      obtain ⟨h1, h2⟩ := ih x
      refine ⟨?_, fun y hy => ?_⟩
      · rcases List.mem_cons.mp h1 with q | q
        · rw [q]
          exact List.mem_cons_self
        · exact List.mem_cons_of_mem _ (List.mem_cons_of_mem _ q)
      · rcases List.mem_cons.mp hy with rfl | hy
        · exact h2 y List.mem_cons_self
        · rcases List.mem_cons.mp hy with rfl | hy
          · have := h2 x List.mem_cons_self
            omega
          · exact h2 y (List.mem_cons_of_mem _ hy)
theorem ints_at : ∀ {vs : List Value} {ns : List Int} {i : Nat} {v : Value}, IntsAre vs ns → vs[i]? = some v → ∃ k t, v = .int k t ∧ ns[i]? = some k
  | _, _, _, _, .nil, e => by simp at e
  | _, _, 0, v, .cons n t _, e => ⟨n, t, (Option.some.inj e).symm, rfl⟩
  | _, _, i + 1, v, .cons n t h, e => ints_at (i := i) h e
theorem cr_maxD (hc : X.calm = true) (hu : X.A.units + 64 < cLine) : CallRK X (.builtin "max") ["default"] (rMaxD X.K) := by
  intro pins s σ H vs zs us ws Q I r rz h
  obtain ⟨a, ns, d, rfl, rfl, hs, q0, q1⟩ := h
  obtain ⟨its, rv, hl, _⟩ := I.list hs
  rw [Vals.ref1 r]
  obtain ⟨u, rfl, hd⟩ := vals1 rz
  have hi : IntsAre its ns := rv.ints
  have HA : PySem.W.HoldAll s.heap its.toArray.toList ns := by
    simpa using PySem.W.HoldAll.of_ints (h := s.heap) hi
  refine PySem.W.max_list_datum_default (I.ok.hd hc) hl.isList HA (show X.A.units + 1 + 0 < cLine by omega) (fun e h' tk k => ⟨d, H, I.kept k, hd, q0 e⟩) fun y ys i v h' tk e hv hh k => ?_
  obtain ⟨z, t, rfl, hz⟩ := ints_at hi (show its[i]? = some v by simpa using hv)
  obtain ⟨as, hr⟩ := hh
  have ez : z = PySem.W.maxOf y ys := by
    have hr' : Reads h' (.int z t) (.int (PySem.W.maxOf y ys)) as := hr
    cases hr'
    rfl
  obtain ⟨m1, m2⟩ := foldMax ys y
  rw [← e, ← ez] at m1 m2
  exact ⟨.int z, H, I.kept k, ⟨t, rfl⟩, q1 z m1 m2⟩
/-! ### t * k, t a tuple, k from 1 on -/
theorem tup_one (l : Addr) (items : Array Value) (n : Nat) (dd : Option Addr) (sl : Array (Option Value)) (u : Tok) (ne : items.isEmpty = false) :
    Meets (Builtin.«tuple.__mul__» ⟨[.ref l, .int 1 u], []⟩) (fun _ R s => s.heap.get? l = some { cls := .type "tuple", dict := dd, data := .seq items n, slots := sl } ∧ R (.ok (.ret (Value.ref l))) s) := by
  refine .of_wp fun prog w A R s h => ?_
  obtain ⟨hp, g, d, tk, os⟩ := s
  obtain ⟨hl, h⟩ := h
  have one := AutoSeq1.idx_int
  wp_walk using wpAny_loadPart' hl
  exact ⟨_, rfl, h⟩
def rMulT (K : PySem.W.Frag) : R2 := fun x y H Q => ∃ (l : Addr) (k : Int) (xs : List V), x = .ref l ∧ y = .int k ∧ SqT K H l xs ∧ xs ≠ [] ∧ 1 ≤ k ∧ k ≤ 1000 ∧ xs.length ≤ 1000 ∧
  (k = 1 → Q (.ref l) H) ∧ (2 ≤ k → ∀ p, H p = none → Q (.ref p) (upd H p (.tup (List.replicate k.toNat xs).flatten)))
theorem op_mulT : OpR X (binaryOp .Mult) (rMulT X.K) := by
  intro pins s σ H x y v u Q I rx ry h
  obtain ⟨l, k, xs, rfl, rfl, hT, hne, h1, h2, hz, q1, q2⟩ := h
  by_cases c : k = 1
  · subst c
    cases rx
    obtain ⟨t, rfl⟩ := ry
    obtain ⟨its, r, ⟨⟨cls, dd, data, sl⟩, ho, hc, n, hd⟩, hs⟩ := I.tuple hT
    simp only at hc hd
    subst hc hd
    have hi : its.toArray.isEmpty = false := by
      cases its with
      | nil =>
        have e := r.length
        exact absurd (List.eq_nil_of_length_eq_zero e) hne
      | cons a b => rfl
    refine wpAny_binaryOp_repeat_ref (T := "tuple") (U := "int") (by decide) ⟨_, ho, rfl⟩ (fun s' => typeIs_int s' 1 t) noFill_tuple_mul
      F.fills_int_mul F.slot_int_rmul repeat_tuple F.slot_int_index.lookup ?_
    refine call_meets F.slot_int_rmul (typeIs_int s 1 t) F.entry_int_rmul (F.args_int_rmul_2 _ _) (int_rmul_tuple 1 t l its.toArray n dd sl) ⟨ho, rfl, ⟨_, ho, rfl⟩, ?_⟩
    refine call_meets F.slot_tuple_mul ⟨_, ho, rfl⟩ F.entry_tuple_mul (F.args_tuple_mul_2 _ _) (tup_one l its.toArray n dd sl t hi) ⟨ho, ?_⟩
    exact ⟨.ref l, H, I, rfl, q1 rfl⟩
  · exact op_repT pins s σ H _ _ v u Q I rx ry ⟨l, k, xs, rfl, rfl, hT, hne, by omega, h2, hz, q2 (by omega)⟩
end
/-! ### set(xs), xs a list of whole numbers -/
section
variable {P : Program} {w : World} {A : Around} {E : Value → Shared → Prop} {s : Shared}
/-- an empty set, new -/
abbrev newSet (w : World) : Obj := { cls := .type "set", dict := none, data := .set #[] 0 (.fresh 0 0 (!w.params.followText "set-order")) }
set_option maxHeartbeats 8000000 in
theorem set_of_list {at_ : Addr} {its : Array Value} (ks : List Int) {Q : Value → Shared → Prop}
    (calm : A.handled = none) (isl : s.heap.IsList at_ its) (are : IntsAre its.toList ks) (few : ks.length + 1 < scanBound)
    (then_ : ∀ (g : Heap) (tk n : Nat), SetR w g s.heap.objs.size (fun j => decide (j ∈ ks)) n → n ≤ ks.length →
      (∀ b o, s.heap.get? b = some o → g.get? b = some o) → Q (.ref s.heap.objs.size) { s with heap := g, toks := tk }) :
    wpAny (model P w) A (call (.type "set") [.ref at_]) Q E s := by
  have sz : its.size = ks.length := by
    have z := are.length
    rw [Array.length_toList] at z
    exact z
  have called := F.called_set
  obtain ⟨_, _, mroIs⟩ := called.mro
  have made := called.made
  have below := called.sub
  have noType := called.notType
  have creates := called.canCreate
  have checked := F.typeCall_set_1 (.ref at_)
  refine wpAny_call (codeAny_of_tree ?_)
  show wpAny (model P w) _
    (callAny (.type "set") ⟨[.ref at_], []⟩) _ _ s
  refine wpAny_pure ⟨Code.quiet_builtin _ (by decide +kernel),
    codeAny_builtin F.entry_type_call ?_⟩
  rw [Around.under_plain
    (weight_type_call_type "set" [.ref at_] []) rfl]
  repeat (any_goals (first
    | assumption
    | wp_step))
  refine codeAny_mono (code_set_led1 (.ref at_) (E := E)
    (Q₁ := fun o s₁ => o = .ref s.heap.objs.size ∧ s₁ = { s with heap := s.heap.push (newSet w) }) ⟨rfl, rfl⟩) fun r s₁ got => ?_
  match r, got with
  | .error _, got => exact got
  | .ok .next, got => exact got.elim
  | .ok .brk, got => exact got.elim
  | .ok .cont, got => exact got.elim
  | .ok (.ret o), ⟨e1, e2⟩ =>
    subst e1
    subst e2
    have here : (s.heap.push (newSet w)).get? s.heap.objs.size = some (newSet w) := Heap.get?_push_size _ rfl
    have isSet : Shared.TypeIs { s with heap := s.heap.push (newSet w) } (.ref s.heap.objs.size) "set" := ⟨_, here, rfl⟩
    have lookInit := called.init.lookup
    have bindInit := called.init.bind (.ref s.heap.objs.size)
    repeat (any_goals (first
      | assumption
      | wp_step))
    -- what the filling leaves
    let Left : Value → Shared → Prop := fun r s₂ => r = .none ∧ ∃ (g : Heap) (tk n : Nat), s₂ = { s with heap := g, toks := tk } ∧
      SetR w g s.heap.objs.size (fun j => decide (j ∈ ks)) n ∧ n ≤ ks.length ∧ ∀ b o, s.heap.get? b = some o → g.get? b = some o
    refine codeAny_mono (codeAny_call_builtin (R := wants Left E) called.init.plain
      F.entry_set_init (check_set_init_1 isSet ?_)) fun r₂ s₂ got₂ => ?_
    · obtain ⟨⟨oc, od, odt, osl⟩, look, cls, nn, dat⟩ := isl
      simp only at cls dat
      subst cls
      subst dat
      have look1 : (s.heap.push (newSet w)).get? at_ = some ⟨.type "list", od, .seq its nn, osl⟩ := Heap.get?_push_of_some _ look
      have n1 := F.sub_list_set
      have n2 := F.sub_list_frozenset
      have n3 : (Value.type "list" == Value.type "dict") = false := by decide
      have isl1 : (s.heap.push (newSet w)).IsList at_ its := ⟨_, look1, rfl, nn, rfl⟩
      unfold Builtin.«set.__init__» noKeywords
      unfold Builtin.Frozenset.updateFrom
      generalize walk : pyIter = PI
      wp_walk
      subst walk
      refine wpAny_pyIter_list
        isl1 ?_
      repeat (any_goals (first
        | assumption
        | wp_step))
      have old : at_ < s.heap.objs.size := Heap.lt_size look
      have size1 : (s.heap.push (newSet w)).objs.size = s.heap.objs.size + 1 := Heap.size_push ..
      have apart : at_ ≠ (s.heap.push (newSet w)).objs.size := by
        rw [size1]
        exact Nat.ne_of_lt (Nat.lt_succ_of_lt old)
      have outside : s.heap.objs.size ∉ [(s.heap.push (newSet w)).objs.size, at_] := by
        rw [size1]
        intro hm
        rcases List.mem_cons.mp hm with q | q
        · exact absurd q (Nat.ne_of_lt (Nat.lt_succ_self _))
        · exact absurd (List.mem_singleton.mp q) (Nat.ne_of_gt old)
      have free3 : A.in1.in1.in1.handled = none := by simp [calm]
      refine set_update_ints (Walks.list free3 _ at_ apart its).toS s.heap.objs.size outside ks sz few (fun i v hv => ?_) its.size 0 _ rfl
        (Nat.zero_le _) ⟨⟨_, Heap.get?_push_size _ rfl, rfl, rfl⟩, isl1.push _⟩ ⟨0, Nat.le_refl 0, setR_new_at (Heap.get?_push_of_some _ here)⟩ fun s' n moved small R => ?_
      · obtain ⟨k, t, e, hk⟩ := ints_at (i := i) are (by rw [Array.getElem?_toList]; exact hv)
        exact ⟨k, t, hk, e⟩
      · obtain ⟨g, gs, dr, tk, os⟩ := s'
        obtain rfl : gs = s.gens := moved.gens
        obtain rfl : dr = s.drawn := moved.drawn
        obtain rfl : os = s.os := moved.os
        refine wpAny_pure (wpAny_pure ⟨rfl, g, tk, n, rfl, R, by omega, fun b o e => ?_⟩)
        have lt : b < s.heap.objs.size := Heap.lt_size e
        refine moved.heap b o (fun hm => ?_) (Heap.get?_push_of_some _ (Heap.get?_push_of_some _ e))
        rcases List.mem_cons.mp hm with q | q
        · exact absurd q (Nat.ne_of_lt lt)
        · exact absurd ((List.mem_singleton.mp q).trans size1) (Nat.ne_of_lt (Nat.lt_succ_of_lt lt))
    · match r₂, got₂ with
      | .error _, got₂ => exact got₂
      | .ok .next, got₂ => exact got₂.elim
      | .ok .brk, got₂ => exact got₂.elim
      | .ok .cont, got₂ => exact got₂.elim
      | .ok (.ret r), ⟨e1, g, tk, n, e2, h1, h2, h3⟩ =>
        subst e1
        subst e2
        repeat (any_goals (first
          | assumption
          | wp_step))
        exact then_ g tk n h1 h2 h3
end
section
variable {X : Cx}
def rSetL (K : PySem.W.Frag) (w : World) : List V → Hp → VK → Prop := fun vs H Q => ∃ (a : Addr) (ks : List Int), vs = [V.ref a] ∧ SqL K H a (ks.map V.int) ∧ ks.length ≤ 1000 ∧
  ∀ (p : Addr) (n : Nat), n ≤ ks.length → H p = none → Q (.ref p) (upd H p (SetO w p (fun j => decide (j ∈ ks)) n))
theorem cr_setL (hc : X.calm = true) : CallR X (.type "set") (rSetL X.K X.w) := by
  intro pins s σ H vs us Q I r h
  obtain ⟨a, ks, rfl, hs, few, q⟩ := h
  obtain ⟨its, rv, hl, _⟩ := I.list hs
  rw [Vals.ref1 r]
  refine set_of_list ks (I.ok.hd hc) hl.isList (by simpa using rv.ints) (by unfold scanBound; omega) fun g tk n R hn k => ?_
  exact ⟨.ref _, _, I.laid (t' := tk) k (Nat.le_refl _) (setO_new R), rfl, q _ n hn (I.hok.fresh (Nat.le_refl _))⟩
/-! ### C.__init__(self, ..), C an own class over ValueError without an __init__ of its own -/
theorem pe_cinit {x : Str} {CB : Addr} {e : Expr} {es : List Expr} {ta : TA} {p1 p2 pos : Pos} {pl : Sem Bool} (hg : Gl X x) (hm : X.mg x = some (.ref CB)) (rd : ClX.CRead X.K CB (.type "type"))
    (vI : PySem.W.findCls X.K (.ref CB) (.type "type") "__init__" = some (.val (.builtin "ValueError.__init__"))) (ha : PA X (e :: es) ta)
    (hdb : (x == ("__debug__" : Str)) = false := by decide)
    (hc : eval (.Call (.Attribute (.Name x p1) "__init__" p2) (e :: es) [] pos) X.env = (do
      let ov ← eval (.Name x p1) X.env
      standAt p2.atName
      let (f, first) ← holding [ov] (getMethod ov "__init__" pl)
      callWith pos f first (backTo pos (starEach (e :: es) X.env)) (backToKw pos (keywordEach [] X.env))) := by rfl)
    (he : starEach (e :: es) X.env = (false, eval e X.env) :: starEach es X.env := by rfl) (hpl : (backTo pos (starEach es X.env)).any (·.1) = false := by rfl) :
    PE X (.Call (.Attribute (.Name x p1) "__init__" p2) (e :: es) [] pos) (tVeI X.K ta) := by
  refine ⟨fun pins s σ H Q I h => PySem.W.methodCall_KW (ld_glob I hg hm ?_ hdb) hc⟩
  refine PySem.W.method_cls I.kIn rd.ga (PySem.W.cls_value I.kIn rd.rd vI (by decide +kernel) ?_)
  refine PyProof.Rows.callWith_method1 (thn (ha.run pos pins _ σ H _ (I.tok _) h) fun us s1 got => ?_) he hpl
  obtain ⟨vs, H1, I1, r1, a, C, ws, ev, few, T, ea, q⟩ := got
  subst ev
  match us, r1 with
  | u0 :: ur, .cons r0 rw' =>
    obtain rfl : u0 = Value.ref a := r0
    refine oinit_ok T I1 ea ?_ fun s' J => ⟨.non, H1, J, rfl, q⟩
    rw [← Paired.length rw', sizeLine_eq]
    omega
end
end KR
/-! # What the walks lean on -/
namespace KB
open PySem PySem.Spec PyProof.Rows L2
/-! ### the text -/
/-- what the top has left -/
structure Txt (w : World) (K : PySem.W.Frag) (mg : Str → Option Value) : Prop where
  hp : ∃ h : Heap, K.In h ∧ h.Ns mainGlobals mg
  d : He.SaysD KH.fa KH.fn K
  t : ∃ es n, KDict K w (He.ga K "BARE_LOWS") es n
  x : KH.ex K = true
/-- a def as it stands -/
def Dn (K : PySem.W.Frag) (mg : Str → Option Value) (x : Str) (st : Stmt) (ps : List Str) : Prop :=
  ∃ (f : Addr) (fd : FuncData), FunD K x x (defArgs st) (defBody st) (defScope st) [] [] f fd ∧ mg x = some (.ref f) ∧ Binds K fd ps []
/-- the def called x keeps its promise -/
def Prm (P : Program) (w : World) (K : PySem.W.Frag) (mg : Str → Option Value) (base : Heap) (CX : CXT) (k : Nat) (x : Str) (ps : List Str) (sp : Sp) : Prop :=
  ∃ (f : Addr) (fd : FuncData), FnOk P w K mg base CX k f fd ps sp ∧ mg x = some (.ref f) ∧ PySem.W.keepIn K (.ref f) = true ∧ Binds K fd ps []
section
variable {w : World} {K : PySem.W.Frag} {mg : Str → Option Value}
theorem Txt.glo (T : Txt w K mg) {i : Nat} {x : Str} (h : KH.fa[i]? = some (.glo x)) : mg x = some (.ref (He.ga K x)) := by
  obtain ⟨h0, X, G⟩ := T.hp
  exact He.glo_ok X G (T.d.fact i h)
theorem Txt.free (T : Txt w K mg) {i : Nat} {x : Str} (h : KH.fa[i]? = some (.free x)) : mg x = none := by
  obtain ⟨h0, X, G⟩ := T.hp
  exact He.free_ok X G (T.d.fact i h)
theorem Txt.int (T : Txt w K mg) {i : Nat} {x : Str} {n : Int} (h : KH.fa[i]? = some (.int x n)) : ∃ t, mg x = some (.int n t) := by
  obtain ⟨h0, X, G⟩ := T.hp
  exact He.int_ok X G (T.d.fact i h)
theorem Txt.dn (T : Txt w K mg) {i j : Nat} {x : Str} {st : Stmt} {ps : List Str} (h : KH.fn[i]? = some ⟨(x, none), x, x, defArgs st, defBody st, defScope st, [], []⟩) (g : KH.fa[j]? = some (.glo x))
    (b : ∀ (kV doc pm : Value) (an : Option Addr) (cdv ct : Value) (us : List Value), us.length = ps.length → bindArgs (PySem.W.fnOf x x (defArgs st) (defBody st) (defScope st) .none kV doc pm an cdv ct) ⟨us, []⟩ = pure (ps.zip us)) : Dn K mg x st ps := by
  obtain ⟨fd, F⟩ := T.d.def_ i h
  exact ⟨_, fd, F, T.glo g, FunD.bindsN (ps := ps) F b⟩
end
section
variable {P : Program} {w : World} {K : PySem.W.Frag} {mg : Str → Option Value} {base : Heap}
theorem Dn.ok {x : Str} {st : Stmt} {N ps : List Str} {k : Nat} {sp : Sp} (D : Dn K mg x st ps) (S : FnScope N ps (defScope st)) (len : ∀ vs H Q E, sp vs H Q E → vs.length = ps.length)
    (hbody : ∀ (f : Addr) (cdv : Value) (A : Around) (outer : List Env) (s : Shared) (H : Hp) (vs : List V) (Q : VK) (E : XK), Room k (A.deeper (envOfC x (defScope st) s.heap.objs.size f cdv)) → sp vs H Q E →
      ∃ t, PSs (cxOf CX0 P w K mg base N x (defScope st) f cdv A outer s H E).nox (defBody st) t ∧ t { nx := fun _ H' => Q .non H', rt := Q } (start N vs) H) : Prm P w K mg base CX0 (k + 1) x ps sp := by
  obtain ⟨f, fd, F, hm, hb⟩ := D
  refine ⟨f, fd, F.ok S len fun cdv A outer s H vs Q E hr h => ?_, hm, F.kp, hb⟩
  obtain ⟨t, h1, h2⟩ := hbody f cdv A outer s H vs Q E hr h
  exact ⟨t, h1.nox, h2⟩
theorem Dn.okX {x : Str} {st : Stmt} {N ps : List Str} {k : Nat} {sp : Sp} (D : Dn K mg x st ps) (S : FnScope N ps (defScope st)) (len : ∀ vs H Q E, sp vs H Q E → vs.length = ps.length)
    (hbody : ∀ (f : Addr) (cdv : Value) (A : Around) (outer : List Env) (s : Shared) (H : Hp) (vs : List V) (Q : VK) (E : XK), Room k (A.deeper (envOfC x (defScope st) s.heap.objs.size f cdv)) → sp vs H Q E →
      ∃ t, PSs (cxOf (L2.CX P w) P w K mg base N x (defScope st) f cdv A outer s H E) (defBody st) t ∧ t { nx := fun _ H' => Q .non H', rt := Q } (start N vs) H) : Prm P w K mg base (L2.CX P w) (k + 1) x ps sp := by
  obtain ⟨f, fd, F, hm, hb⟩ := D
  exact ⟨f, fd, F.ok S len fun cdv A outer s H vs Q E hr h => hbody f cdv A outer s H vs Q E hr h, hm, F.kp, hb⟩
theorem Prm.mono {CX : CXT} {j k : Nat} {x : Str} {ps : List Str} {sp : Sp} (F : Prm P w K mg base CX j x ps sp) (h : j ≤ k) : Prm P w K mg base CX k x ps sp := by
  obtain ⟨f, fd, F, r⟩ := F
  exact ⟨f, fd, F.mono h, r⟩
/-- nothing can be asked of it -/
theorem Dn.never {CX : CXT} {x : Str} {st : Stmt} {ps : List Str} {k : Nat} {sp : Sp} (D : Dn K mg x st ps) (no : ∀ vs H Q E, ¬ sp vs H Q E) : Prm P w K mg base CX k x ps sp := by
  obtain ⟨f, fd, F, hm, hb⟩ := D
  exact ⟨f, fd, ⟨fun vs H Q E h => absurd h (no vs H Q E), fun A outer s H args us vs Q E _ _ _ _ h => absurd h (no vs H Q E)⟩, hm, F.kp, hb⟩
end
section
variable {X : Cx} {x : Str} {k : Nat} {ps : List Str} {sp : Sp} {e : Expr} {es : List Expr} {t : TA} {p pos : Pos}
/-- a call of such a def -/
theorem pcl (F : Prm X.prog X.w X.K X.mg X.base CX0 k x ps sp) (hr : Room k X.A) (ha : PA X (e :: es) t) (hg : Gl X x := by rfl) (hdb : (x == ("__debug__" : Str)) = false := by decide)
    (he : starEach (e :: es) X.env = (false, eval e X.env) :: starEach es X.env := by rfl) (hpl : (backTo pos (starEach es X.env)).any (·.1) = false := by rfl) : PE X (.Call (.Name x p) (e :: es) [] pos) (tCall sp [] E0 t) := by
  obtain ⟨f, fd, F, hm, kp, hb⟩ := F
  exact pe_call F hr hg hm kp hb .nil pass0 ha hdb he hpl
/-- a whole number of the module -/
theorem pe_gi {n : Int} (h : ∃ t, X.mg x = some (.int n t)) (hg : Gl X x := by rfl) (hd : (x == ("__debug__" : Str)) = false := by decide) : PE X (.Name x pos) (tC (.int n)) := by
  obtain ⟨t, h⟩ := h
  exact pe_glob hg h ⟨t, rfl⟩ hd
/-- an object of the module -/
theorem pe_gr {a : Addr} (h : X.mg x = some (.ref a)) (hg : Gl X x := by rfl) (hd : (x == ("__debug__" : Str)) = false := by decide) : PE X (.Name x pos) (tC (.ref a)) := pe_glob hg h rfl hd
end
section
variable {w : World} {K : PySem.W.Frag} {mg : Str → Option Value}

theorem Txt.d_is_whole (T : Txt w K mg) : Dn K mg "is_whole" KH.s_is_whole ["thing"] := T.dn (i := 1) (j := 0) (x := "is_whole") (st := KH.s_is_whole) rfl rfl fun _ _ _ _ _ _ us hl => match us, hl with | [_], _ => rfl
theorem Txt.d_inner_kinds (T : Txt w K mg) : Dn K mg "inner_kinds" KH.s_inner_kinds ["kind"] := T.dn (i := 2) (j := 1) (x := "inner_kinds") (st := KH.s_inner_kinds) rfl rfl fun _ _ _ _ _ _ us hl => match us, hl with | [_], _ => rfl
theorem Txt.d_kinds_in (T : Txt w K mg) : Dn K mg "kinds_in" KH.s_kinds_in ["kind"] := T.dn (i := 3) (j := 2) (x := "kinds_in") (st := KH.s_kinds_in) rfl rfl fun _ _ _ _ _ _ us hl => match us, hl with | [_], _ => rfl
theorem Txt.d_by_parts (T : Txt w K mg) : Dn K mg "by_parts" KH.s_by_parts ["kind", "inner"] := T.dn (i := 4) (j := 3) (x := "by_parts") (st := KH.s_by_parts) rfl rfl fun _ _ _ _ _ _ us hl => match us, hl with | [_, _], _ => rfl
theorem Txt.d_low_of (T : Txt w K mg) : Dn K mg "low_of" KH.s_low_of ["lows", "kind"] := T.dn (i := 5) (j := 4) (x := "low_of") (st := KH.s_low_of) rfl rfl fun _ _ _ _ _ _ us hl => match us, hl with | [_, _], _ => rfl
theorem Txt.d_needed (T : Txt w K mg) : Dn K mg "needed" KH.s_needed ["lows", "kind"] := T.dn (i := 6) (j := 5) (x := "needed") (st := KH.s_needed) rfl rfl fun _ _ _ _ _ _ us hl => match us, hl with | [_, _], _ => rfl
theorem Txt.d_needs_of (T : Txt w K mg) : Dn K mg "needs_of" KH.s_needs_of ["lows", "kind"] := T.dn (i := 7) (j := 6) (x := "needs_of") (st := KH.s_needs_of) rfl rfl fun _ _ _ _ _ _ us hl => match us, hl with | [_, _], _ => rfl
theorem Txt.d_stands_by (T : Txt w K mg) : Dn K mg "stands_by" KH.s_stands_by ["lows", "kind"] := T.dn (i := 8) (j := 7) (x := "stands_by") (st := KH.s_stands_by) rfl rfl fun _ _ _ _ _ _ us hl => match us, hl with | [_, _], _ => rfl
theorem Txt.d_is_row (T : Txt w K mg) : Dn K mg "is_row" KH.s_is_row ["many", "most", "thing"] := T.dn (i := 9) (j := 8) (x := "is_row") (st := KH.s_is_row) rfl rfl fun _ _ _ _ _ _ us hl => match us, hl with | [_, _, _], _ => rfl
theorem Txt.d_is_paper (T : Txt w K mg) : Dn K mg "is_paper" KH.s_is_paper ["many", "thing"] := T.dn (i := 10) (j := 9) (x := "is_paper") (st := KH.s_is_paper) rfl rfl fun _ _ _ _ _ _ us hl => match us, hl with | [_, _], _ => rfl
theorem Txt.d_amiss_at (T : Txt w K mg) : Dn K mg "amiss_at" KH.s_amiss_at ["rules", "lows", "ranks", "i"] := T.dn (i := 11) (j := 10) (x := "amiss_at") (st := KH.s_amiss_at) rfl rfl fun _ _ _ _ _ _ us hl => match us, hl with | [_, _, _, _], _ => rfl
theorem Txt.d_lets_found (T : Txt w K mg) : Dn K mg "lets_found" KH.s_lets_found ["rules", "thing"] := T.dn (i := 12) (j := 11) (x := "lets_found") (st := KH.s_lets_found) rfl rfl fun _ _ _ _ _ _ us hl => match us, hl with | [_, _], _ => rfl
theorem Txt.d_greatest_lows (T : Txt w K mg) : Dn K mg "greatest_lows" KH.s_greatest_lows ["rules"] := T.dn (i := 13) (j := 12) (x := "greatest_lows") (st := KH.s_greatest_lows) rfl rfl fun _ _ _ _ _ _ us hl => match us, hl with | [_], _ => rfl
theorem Txt.d_found_told (T : Txt w K mg) : Dn K mg "found_told" KH.s_found_told ["rules"] := T.dn (i := 14) (j := 13) (x := "found_told") (st := KH.s_found_told) rfl rfl fun _ _ _ _ _ _ us hl => match us, hl with | [_], _ => rfl
theorem Txt.d_is_right (T : Txt w K mg) : Dn K mg "is_right" KH.s_is_right ["rules", "kind"] := T.dn (i := 15) (j := 14) (x := "is_right") (st := KH.s_is_right) rfl rfl fun _ _ _ _ _ _ us hl => match us, hl with | [_, _], _ => rfl
theorem Txt.d_law_tape (T : Txt w K mg) : Dn K mg "_law_tape" KH.s_law_tape ["_law_script"] := T.dn (i := 16) (j := 15) (x := "_law_tape") (st := KH.s_law_tape) rfl rfl fun _ _ _ _ _ _ us hl => match us, hl with | [_], _ => rfl
theorem Txt.d_law_next (T : Txt w K mg) : Dn K mg "_law_next" KH.s_law_next ["_law_tape_here", "_law_many"] := T.dn (i := 17) (j := 16) (x := "_law_next") (st := KH.s_law_next) rfl rfl fun _ _ _ _ _ _ us hl => match us, hl with | [_, _], _ => rfl
theorem Txt.d_law_low (T : Txt w K mg) : Dn K mg "_law_low" KH.s_law_low ["_law_lows_here", "_law_kind"] := T.dn (i := 18) (j := 17) (x := "_law_low") (st := KH.s_law_low) rfl rfl fun _ _ _ _ _ _ us hl => match us, hl with | [_, _], _ => rfl
theorem Txt.d_law_lows (T : Txt w K mg) : Dn K mg "_law_lows" KH.s_law_lows ["_law_rules"] := T.dn (i := 19) (j := 18) (x := "_law_lows") (st := KH.s_law_lows) rfl rfl fun _ _ _ _ _ _ us hl => match us, hl with | [_], _ => rfl
theorem Txt.d_law_wild (T : Txt w K mg) : Dn K mg "_law_wild" KH.s_law_wild ["_law_tape_here", "_law_many", "_law_deep"] := T.dn (i := 20) (j := 19) (x := "_law_wild") (st := KH.s_law_wild) rfl rfl fun _ _ _ _ _ _ us hl => match us, hl with | [_, _, _], _ => rfl
theorem Txt.d_law_needs (T : Txt w K mg) : Dn K mg "_law_needs" KH.s_law_needs ["_law_lows_here", "_law_kind"] := T.dn (i := 21) (j := 20) (x := "_law_needs") (st := KH.s_law_needs) rfl rfl fun _ _ _ _ _ _ us hl => match us, hl with | [_, _], _ => rfl
theorem Txt.d_law_insides (T : Txt w K mg) : Dn K mg "_law_insides" KH.s_law_insides ["_law_kind"] := T.dn (i := 22) (j := 21) (x := "_law_insides") (st := KH.s_law_insides) rfl rfl fun _ _ _ _ _ _ us hl => match us, hl with | [_], _ => rfl
theorem Txt.d_law_is_founded (T : Txt w K mg) : Dn K mg "_law_is_founded" KH.s_law_is_founded ["_law_rules"] := T.dn (i := 23) (j := 22) (x := "_law_is_founded") (st := KH.s_law_is_founded) rfl rfl fun _ _ _ _ _ _ us hl => match us, hl with | [_], _ => rfl
theorem Txt.d_law_ways (T : Txt w K mg) : Dn K mg "_law_ways" KH.s_law_ways ["_law_n", "_law_k"] := T.dn (i := 24) (j := 23) (x := "_law_ways") (st := KH.s_law_ways) rfl rfl fun _ _ _ _ _ _ us hl => match us, hl with | [_, _], _ => rfl
theorem Txt.d_law_plain_many (T : Txt w K mg) : Dn K mg "_law_plain_many" KH.s_law_plain_many ["_law_word", "_law_n"] := T.dn (i := 25) (j := 24) (x := "_law_plain_many") (st := KH.s_law_plain_many) rfl rfl fun _ _ _ _ _ _ us hl => match us, hl with | [_, _], _ => rfl
theorem Txt.d_law_reckon (T : Txt w K mg) : Dn K mg "_law_reckon" KH.s_law_reckon ["_law_numbers", "_law_kind", "_law_n"] := T.dn (i := 26) (j := 25) (x := "_law_reckon") (st := KH.s_law_reckon) rfl rfl fun _ _ _ _ _ _ us hl => match us, hl with | [_, _, _], _ => rfl
theorem Txt.d_law_steps (T : Txt w K mg) : Dn K mg "_law_steps" KH.s_law_steps ["_law_rules", "_law_turns"] := T.dn (i := 27) (j := 26) (x := "_law_steps") (st := KH.s_law_steps) rfl rfl fun _ _ _ _ _ _ us hl => match us, hl with | [_, _], _ => rfl
theorem Txt.d_law_back (T : Txt w K mg) : Dn K mg "_law_back" KH.s_law_back ["_law_tape_here", "_law_many"] := T.dn (i := 28) (j := 27) (x := "_law_back") (st := KH.s_law_back) rfl rfl fun _ _ _ _ _ _ us hl => match us, hl with | [_, _], _ => rfl
theorem Txt.d_law_lets (T : Txt w K mg) : Dn K mg "_law_lets" KH.s_law_lets ["_law_rules", "_law_paper"] := T.dn (i := 29) (j := 28) (x := "_law_lets") (st := KH.s_law_lets) rfl rfl fun _ _ _ _ _ _ us hl => match us, hl with | [_, _], _ => rfl
theorem Txt.d_law_is_so (T : Txt w K mg) : Dn K mg "_law_is_so" KH.s_law_is_so ["_law_rules", "_law_lows_here", "_law_numbers"] := T.dn (i := 30) (j := 29) (x := "_law_is_so") (st := KH.s_law_is_so) rfl rfl fun _ _ _ _ _ _ us hl => match us, hl with | [_, _, _], _ => rfl
theorem Txt.d_law_bent (T : Txt w K mg) : Dn K mg "_law_bent" KH.s_law_bent ["_law_tape_here", "_law_paper"] := T.dn (i := 31) (j := 30) (x := "_law_bent") (st := KH.s_law_bent) rfl rfl fun _ _ _ _ _ _ us hl => match us, hl with | [_, _], _ => rfl
theorem Txt.d_law_papers (T : Txt w K mg) : Dn K mg "_law_papers" KH.s_law_papers ["_law_tape_here", "_law_rules", "_law_told"] := T.dn (i := 32) (j := 31) (x := "_law_papers") (st := KH.s_law_papers) rfl rfl fun _ _ _ _ _ _ us hl => match us, hl with | [_, _, _], _ => rfl
theorem Txt.d_law_right (T : Txt w K mg) : Dn K mg "_law_right" KH.s_law_right ["_law_tape_here", "_law_rules"] := T.dn (i := 33) (j := 32) (x := "_law_right") (st := KH.s_law_right) rfl rfl fun _ _ _ _ _ _ us hl => match us, hl with | [_, _], _ => rfl
theorem Txt.d_law (T : Txt w K mg) : Dn K mg "law" KH.s_law ["_law_script"] := T.dn (i := 34) (j := 33) (x := "law") (st := KH.s_law) rfl rfl fun _ _ _ _ _ _ us hl => match us, hl with | [_], _ => rfl
theorem Txt.z_len (T : Txt w K mg) : mg "len" = none := T.free (i := 34) rfl
theorem Txt.z_list (T : Txt w K mg) : mg "list" = none := T.free (i := 35) rfl
theorem Txt.z_range (T : Txt w K mg) : mg "range" = none := T.free (i := 36) rfl
theorem Txt.z_min (T : Txt w K mg) : mg "min" = none := T.free (i := 37) rfl
theorem Txt.z_max (T : Txt w K mg) : mg "max" = none := T.free (i := 38) rfl
theorem Txt.z_all (T : Txt w K mg) : mg "all" = none := T.free (i := 39) rfl
theorem Txt.z_set (T : Txt w K mg) : mg "set" = none := T.free (i := 40) rfl
theorem Txt.z_sorted (T : Txt w K mg) : mg "sorted" = none := T.free (i := 41) rfl
theorem Txt.z_tuple (T : Txt w K mg) : mg "tuple" = none := T.free (i := 42) rfl
theorem Txt.z_isinstance (T : Txt w K mg) : mg "isinstance" = none := T.free (i := 43) rfl
theorem Txt.z_int (T : Txt w K mg) : mg "int" = none := T.free (i := 44) rfl
theorem Txt.z_bool (T : Txt w K mg) : mg "bool" = none := T.free (i := 45) rfl
theorem Txt.z_repr (T : Txt w K mg) : mg "repr" = none := T.free (i := 46) rfl
theorem Txt.z_ValueError (T : Txt w K mg) : mg "ValueError" = none := T.free (i := 47) rfl
theorem Txt.g_MOST_LOW (T : Txt w K mg) : ∃ t, mg "MOST_LOW" = some (.int 20 t) := T.int (i := 48) rfl
theorem Txt.g_MOST_RANK (T : Txt w K mg) : ∃ t, mg "MOST_RANK" = some (.int 99 t) := T.int (i := 49) rfl
theorem Txt.g_PAIRED (T : Txt w K mg) : mg "PAIRED" = some (.ref (He.ga K "PAIRED")) := T.glo (i := 50) rfl
theorem Txt.g_BARE_LOWS (T : Txt w K mg) : mg "BARE_LOWS" = some (.ref (He.ga K "BARE_LOWS")) := T.glo (i := 51) rfl
theorem Txt.g_NoPaper (T : Txt w K mg) : mg "NoPaper" = some (.ref (He.ga K "NoPaper")) := T.glo (i := 52) rfl
theorem Txt.g_KindError (T : Txt w K mg) : mg "KindError" = some (.ref (He.ga K "KindError")) := T.glo (i := 53) rfl
theorem Txt.x_exm (T : Txt w K mg) : (He.Fa.exm "NoPaper" "NoPaper" true).ok K = true := T.d.fact 54 rfl
theorem Txt.x_word (T : Txt w K mg) : (He.Fa.noat "NoPaper" "word").ok K = true := T.d.fact 55 rfl
theorem Txt.x_number (T : Txt w K mg) : (He.Fa.noat "NoPaper" "number").ok K = true := T.d.fact 56 rfl
theorem Txt.x_keep (T : Txt w K mg) : (He.Fa.keep "NoPaper").ok K = true := T.d.fact 57 rfl
/-! ### the tables, the error's class -/
theorem Txt.parts (T : Txt w K mg) : He.tupB K "PAIRED" [.str "this", .str "both", .str "in"] = true ∧ He.valsB K (He.ga K "BARE_LOWS") KH.bareVals = true ∧
    KH.noKeys K (He.ga K "BARE_LOWS") ["this", "both", "in", "point", "hole", "sized", "rule"] = true ∧ KH.oexB K (He.ga K "NoPaper") = true ∧
    PySem.W.findIn K (.ref (He.ga K "NoPaper")) "__setattr__" = some (some (.builtin "object.__setattr__")) ∧ PySem.W.subIn K (.ref (He.ga K "NoPaper")) (.type "BaseException") = some true ∧
    PySem.W.typeIn K (.ref (He.ga K "NoPaper")) = some (.type "type") ∧ PySem.W.findIn K (.ref (He.ga K "NoPaper")) "__init__" = some (some (.ref (He.ma K (He.ga K "NoPaper") "__init__"))) ∧
    PySem.W.typeIn K (.ref (He.ma K (He.ga K "NoPaper") "__init__")) = some (.type "function") ∧ PySem.W.readsIn K (He.ga K "KindError") (.type "type") = true ∧
    PySem.W.specialIn K (.ref (He.ga K "KindError")) "__getattribute__" = some (some (.builtin "type.__getattribute__")) ∧
    PySem.W.findCls K (.ref (He.ga K "KindError")) (.type "type") "__init__" = some (.val (.builtin "ValueError.__init__")) := by
  have h := T.x
  unfold KH.ex at h
  simp only [Bool.and_eq_true] at h
  obtain ⟨h1, h2, h3, h4, h5, h6, h7, h8, h9, h10, h11, h12⟩ := h
  refine ⟨h1, h2, h3, h4, He.eqO_ok h5, of_decide_eq_true h6, of_decide_eq_true h7, He.eqO_ok h8, of_decide_eq_true h9, h10, He.eqO_ok h11, ?_⟩
  split at h12
  · rename_i n e
    rw [e, of_decide_eq_true h12]
  · cases h12
theorem Txt.paired (T : Txt w K mg) (H : Hp) : SqT K H (He.ga K "PAIRED") [.str "this", .str "both", .str "in"] := He.tupB_ok T.parts.1 H
theorem Txt.bare (T : Txt w K mg) {z : Str} {n : Int} (h : (z, He.Dv.int n) ∈ KH.bareVals) : ∃ u, PySem.W.nsIn K (He.ga K "BARE_LOWS") z = some (some u) ∧ RelV (.int n) u := He.valsB_ok T.parts.2.1 h
theorem Txt.noBare (T : Txt w K mg) {z : Str} (h : z ∈ (["this", "both", "in", "point", "hole", "sized", "rule"] : List Str)) : PySem.W.nsIn K (He.ga K "BARE_LOWS") z = some none :=
  He.eqO_ok (List.all_eq_true.mp T.parts.2.2.1 z h)
theorem oex_ok {C : Addr} (h : KH.oexB K C = true) : ∃ nm q N bs bm sn sub ab col dd k0 k1 k2 k3 k5, K.lookup C = some (excClassObj nm q C N bs bm true sn sub ab col dd k0 k1 k2 k3 k5 "ValueError.__new__") ∧ PySem.HandSPX.refsVE bm = true := by
  unfold KH.oexB at h
  split at h
  · rename_i dd cd sl ho
    split at h
    · rename_i C' bm k0 k1 k2 k3 n k5 hm hs
      simp only [Bool.and_eq_true, beq_iff_eq, Bool.not_eq_true'] at h
      obtain ⟨rfl, rfl, h3, h4, h5⟩ := h
      obtain ⟨nm, bs, mro, ns, qn, hd, sn, sub, ab, col, del⟩ := cd
      dsimp only at hm h3 h4
      subst hm
      subst h3
      subst h4
      have e : sl = #[k0, k1, k2, k3, some (.builtin "ValueError.__new__"), k5] := by
        obtain ⟨l⟩ := sl
        simp only at hs
        rw [hs]
      subst e
      exact ⟨nm, qn, ns, bs, bm, sn, sub, ab, col, dd, k0, k1, k2, k3, k5, ho, h5⟩
    · cases h
  · cases h
theorem Txt.oex (T : Txt w K mg) : OexC K (He.ga K "NoPaper") := by
  obtain ⟨_, _, _, h4, h5, h6, h7, _⟩ := T.parts
  exact ⟨oex_ok h4, h5, h6, h7, T.x_keep⟩
theorem Txt.noWord (T : Txt w K mg) : PySem.W.findIn K (.ref (He.ga K "NoPaper")) "word" = some none := He.eqO_ok T.x_word
theorem Txt.noNumber (T : Txt w K mg) : PySem.W.findIn K (.ref (He.ga K "NoPaper")) "number" = some none := He.eqO_ok T.x_number
theorem Txt.te (T : Txt w K mg) : PySem.W.exmOne K (.ref (He.ga K "NoPaper")) (.ref (He.ga K "NoPaper")) = some true := of_decide_eq_true T.x_exm
theorem Txt.rd (T : Txt w K mg) : ClX.CRead K (He.ga K "KindError") (.type "type") := by
  obtain ⟨_, _, _, _, _, _, _, _, _, h10, h11, _⟩ := T.parts
  exact ⟨h10, h11⟩
end
/-! ### heaps -/
theorem same_new {H : Hp} {p : Addr} (h : H p = none) (o : HO) : Same H (upd H p o) := fun b u q => by rw [upd_ne (ne_of_none q h)]; exact q
/-- tuples stay -/
def TK (H H' : Hp) : Prop := ∀ b xs, H b = some (.tup xs) → H' b = some (.tup xs)
theorem TK.of {H H' : Hp} (s : Same H H') : TK H H' := fun b xs q => s b _ q
theorem TK.trans {H H1 H2 : Hp} (a : TK H H1) (b : TK H1 H2) : TK H H2 := fun c xs q => b c xs (a c xs q)
theorem TK.refl (H : Hp) : TK H H := fun _ _ q => q
/-- all but what is at t stays -/
def SB (t : Addr) (H H' : Hp) : Prop := ∀ b o, b ≠ t → H b = some o → H' b = some o
theorem SB.refl (t : Addr) (H : Hp) : SB t H H := fun _ _ _ q => q
theorem SB.trans {t : Addr} {H H1 H2 : Hp} (a : SB t H H1) (b : SB t H1 H2) : SB t H H2 := fun c o n q => b c o n (a c o n q)
theorem SB.of {t : Addr} {H H' : Hp} (s : Same H H') : SB t H H' := fun b o _ q => s b o q
theorem SB.upd {t : Addr} {H : Hp} {o : HO} : SB t H (upd H t o) := fun b u n q => by rw [upd_ne n]; exact q
theorem SB.new {t p : Addr} {H : Hp} {o : HO} (h : H p = none) : SB t H (L2.upd H p o) := SB.of (same_new h o)
theorem SB.tk {t : Addr} {H H' : Hp} {xs : List V} (s : SB t H H') (h : H t = some (.lst xs)) : TK H H' := fun b ys q => s b _ (fun e => by
  rw [e, h] at q
  cases q) q
/-! ### kinds as they lie in the heap -/
open KM
def kw : Kd → Str
  | .void => "void" | .unit => "unit" | .one => "one" | .set => "set" | .row => "row" | .round => "round"
  | .rule _ => "rule" | .this _ _ => "this" | .both _ _ => "both" | .inn _ _ => "in" | .point _ => "point" | .hole _ => "hole" | .sized _ _ _ => "sized"
def KAt (H : Hp) : Kd → V → Prop
  | .void, v => ∃ a, v = .ref a ∧ H a = some (.tup [.str "void"])
  | .unit, v => ∃ a, v = .ref a ∧ H a = some (.tup [.str "unit"])
  | .one, v => ∃ a, v = .ref a ∧ H a = some (.tup [.str "one"])
  | .set, v => ∃ a, v = .ref a ∧ H a = some (.tup [.str "set"])
  | .row, v => ∃ a, v = .ref a ∧ H a = some (.tup [.str "row"])
  | .round, v => ∃ a, v = .ref a ∧ H a = some (.tup [.str "round"])
  | .rule i, v => ∃ a, v = .ref a ∧ H a = some (.tup [.str "rule", .int (i : Nat)])
  | .this x y, v => ∃ a vx vy, v = .ref a ∧ H a = some (.tup [.str "this", vx, vy]) ∧ KAt H x vx ∧ KAt H y vy
  | .both x y, v => ∃ a vx vy, v = .ref a ∧ H a = some (.tup [.str "both", vx, vy]) ∧ KAt H x vx ∧ KAt H y vy
  | .inn x y, v => ∃ a vx vy, v = .ref a ∧ H a = some (.tup [.str "in", vx, vy]) ∧ KAt H x vx ∧ KAt H y vy
  | .point x, v => ∃ a vx, v = .ref a ∧ H a = some (.tup [.str "point", vx]) ∧ KAt H x vx
  | .hole x, v => ∃ a vx, v = .ref a ∧ H a = some (.tup [.str "hole", vx]) ∧ KAt H x vx
  | .sized x m n, v => ∃ a vx, v = .ref a ∧ H a = some (.tup [.str "sized", vx, .int (m : Nat), .int (n : Nat)]) ∧ KAt H x vx
/-- the parts -/
def kp : Kd → List Kd
  | .this x y => [x, y] | .both x y => [x, y] | .inn x y => [x, y] | .point x => [x] | .hole x => [x] | .sized x _ _ => [x] | _ => []
/-- what stands behind them -/
def km : Kd → List V
  | .rule i => [.int (i : Nat)] | .sized _ m n => [.int (m : Nat), .int (n : Nat)] | _ => []
def KsAt (H : Hp) : List Kd → List V → Prop
  | [], [] => True
  | k :: ks, v :: vs => KAt H k v ∧ KsAt H ks vs
  | _, _ => False
theorem KAt.shape {H : Hp} : ∀ {k : Kd} {v : V}, KAt H k v → ∃ a vs, v = .ref a ∧ H a = some (.tup (.str (kw k) :: (vs ++ km k))) ∧ KsAt H (kp k) vs
  | .void, _, ⟨a, e, h⟩ => ⟨a, [], e, h, trivial⟩
  | .unit, _, ⟨a, e, h⟩ => ⟨a, [], e, h, trivial⟩
  | .one, _, ⟨a, e, h⟩ => ⟨a, [], e, h, trivial⟩
  | .set, _, ⟨a, e, h⟩ => ⟨a, [], e, h, trivial⟩
  | .row, _, ⟨a, e, h⟩ => ⟨a, [], e, h, trivial⟩
  | .round, _, ⟨a, e, h⟩ => ⟨a, [], e, h, trivial⟩
  | .rule i, _, ⟨a, e, h⟩ => ⟨a, [], e, h, trivial⟩
  | .this x y, _, ⟨a, vx, vy, e, h, hx, hy⟩ => ⟨a, [vx, vy], e, h, hx, hy, trivial⟩
  | .both x y, _, ⟨a, vx, vy, e, h, hx, hy⟩ => ⟨a, [vx, vy], e, h, hx, hy, trivial⟩
  | .inn x y, _, ⟨a, vx, vy, e, h, hx, hy⟩ => ⟨a, [vx, vy], e, h, hx, hy, trivial⟩
  | .point x, _, ⟨a, vx, e, h, hx⟩ => ⟨a, [vx], e, h, hx, trivial⟩
  | .hole x, _, ⟨a, vx, e, h, hx⟩ => ⟨a, [vx], e, h, hx, trivial⟩
  | .sized x m n, _, ⟨a, vx, e, h, hx⟩ => ⟨a, [vx], e, h, hx, trivial⟩
theorem KAt.tk {H H' : Hp} (t : TK H H') : ∀ {k : Kd} {v : V}, KAt H k v → KAt H' k v
  | .void, _, ⟨a, e, h⟩ => ⟨a, e, t _ _ h⟩
  | .unit, _, ⟨a, e, h⟩ => ⟨a, e, t _ _ h⟩
  | .one, _, ⟨a, e, h⟩ => ⟨a, e, t _ _ h⟩
  | .set, _, ⟨a, e, h⟩ => ⟨a, e, t _ _ h⟩
  | .row, _, ⟨a, e, h⟩ => ⟨a, e, t _ _ h⟩
  | .round, _, ⟨a, e, h⟩ => ⟨a, e, t _ _ h⟩
  | .rule i, _, ⟨a, e, h⟩ => ⟨a, e, t _ _ h⟩
  | .this x y, _, ⟨a, vx, vy, e, h, hx, hy⟩ => ⟨a, vx, vy, e, t _ _ h, hx.tk t, hy.tk t⟩
  | .both x y, _, ⟨a, vx, vy, e, h, hx, hy⟩ => ⟨a, vx, vy, e, t _ _ h, hx.tk t, hy.tk t⟩
  | .inn x y, _, ⟨a, vx, vy, e, h, hx, hy⟩ => ⟨a, vx, vy, e, t _ _ h, hx.tk t, hy.tk t⟩
  | .point x, _, ⟨a, vx, e, h, hx⟩ => ⟨a, vx, e, t _ _ h, hx.tk t⟩
  | .hole x, _, ⟨a, vx, e, h, hx⟩ => ⟨a, vx, e, t _ _ h, hx.tk t⟩
  | .sized x m n, _, ⟨a, vx, e, h, hx⟩ => ⟨a, vx, e, t _ _ h, hx.tk t⟩
theorem KsAt.tk {H H' : Hp} (t : TK H H') : ∀ {ks : List Kd} {vs : List V}, KsAt H ks vs → KsAt H' ks vs
  | [], [], _ => trivial
  | k :: ks, v :: vs, ⟨h, r⟩ => ⟨h.tk t, KsAt.tk t r⟩
  | [], _ :: _, h => h.elim
  | _ :: _, [], h => h.elim
theorem KsAt.len {H : Hp} : ∀ {ks : List Kd} {vs : List V}, KsAt H ks vs → vs.length = ks.length
  | [], [], _ => rfl
  | k :: ks, v :: vs, ⟨_, r⟩ => congrArg Nat.succ (KsAt.len r)
  | [], _ :: _, h => h.elim
  | _ :: _, [], h => h.elim
theorem KsAt.get {H : Hp} : ∀ {ks : List Kd} {vs : List V} {i : Nat} {v : V}, KsAt H ks vs → vs[i]? = some v → i < ks.length ∧ KAt H (ks.getD i .void) v
  | [], [], _, _, _, e => by simp at e
  | k :: ks, v' :: vs, 0, v, ⟨h, _⟩, e => ⟨Nat.succ_pos _, (Option.some.inj e) ▸ h⟩
  | k :: ks, v' :: vs, i + 1, v, ⟨_, r⟩, e => by
    obtain ⟨h1, h2⟩ := KsAt.get (i := i) r e
    exact ⟨Nat.succ_lt_succ h1, h2⟩
  | [], _ :: _, _, _, h, _ => h.elim
  | _ :: _, [], _, _, h, _ => h.elim
theorem KsAt.at {H : Hp} {ks : List Kd} {vs : List V} {i : Nat} (h : KsAt H ks vs) (hi : i < ks.length) : ∃ v, vs[i]? = some v ∧ KAt H (ks.getD i .void) v := by
  have hl : i < vs.length := by rw [h.len]; exact hi
  exact ⟨vs[i], List.getElem?_eq_getElem hl, (h.get (List.getElem?_eq_getElem hl)).2⟩
theorem KsAt.app {H : Hp} : ∀ {ks ls : List Kd} {vs us : List V}, KsAt H ks vs → KsAt H ls us → KsAt H (ks ++ ls) (vs ++ us)
  | [], _, [], _, _, h => h
  | k :: ks, _, v :: vs, _, ⟨h, r⟩, q => ⟨h, KsAt.app r q⟩
  | [], _, _ :: _, _, h, _ => h.elim
  | _ :: _, _, [], _, h, _ => h.elim
theorem KsAt.rev {H : Hp} : ∀ {ks : List Kd} {vs : List V}, KsAt H ks vs → KsAt H ks.reverse vs.reverse
  | [], [], _ => trivial
  | k :: ks, v :: vs, ⟨h, r⟩ => by
    rw [List.reverse_cons, List.reverse_cons]
    exact KsAt.app (KsAt.rev r) ⟨h, trivial⟩
  | [], _ :: _, h => h.elim
  | _ :: _, [], h => h.elim
/-- rules: a tuple of kinds -/
def RAt (H : Hp) (ks : List Kd) (v : V) : Prop := ∃ a vs, v = .ref a ∧ H a = some (.tup vs) ∧ KsAt H ks vs
theorem RAt.tk {H H' : Hp} (t : TK H H') {ks : List Kd} {v : V} (h : RAt H ks v) : RAt H' ks v := by
  obtain ⟨a, vs, e, h1, h2⟩ := h
  exact ⟨a, vs, e, t _ _ h1, h2.tk t⟩
/-- the words tell the form -/
theorem kw_rule {k : Kd} (h : kw k = "rule") : ∃ i, k = .rule i := by cases k <;> first | exact ⟨_, rfl⟩ | (exfalso; simp only [kw] at h; revert h; decide +kernel)
theorem kw_this {k : Kd} (h : kw k = "this") : ∃ x y, k = .this x y := by cases k <;> first | exact ⟨_, _, rfl⟩ | (exfalso; simp only [kw] at h; revert h; decide +kernel)
theorem kw_both {k : Kd} (h : kw k = "both") : ∃ x y, k = .both x y := by cases k <;> first | exact ⟨_, _, rfl⟩ | (exfalso; simp only [kw] at h; revert h; decide +kernel)
theorem kw_in {k : Kd} (h : kw k = "in") : ∃ x y, k = .inn x y := by cases k <;> first | exact ⟨_, _, rfl⟩ | (exfalso; simp only [kw] at h; revert h; decide +kernel)
theorem kw_point {k : Kd} (h : kw k = "point") : ∃ x, k = .point x := by cases k <;> first | exact ⟨_, rfl⟩ | (exfalso; simp only [kw] at h; revert h; decide +kernel)
theorem kw_hole {k : Kd} (h : kw k = "hole") : ∃ x, k = .hole x := by cases k <;> first | exact ⟨_, rfl⟩ | (exfalso; simp only [kw] at h; revert h; decide +kernel)
theorem kw_sized {k : Kd} (h : kw k = "sized") : ∃ x m n, k = .sized x m n := by cases k <;> first | exact ⟨_, _, _, rfl⟩ | (exfalso; simp only [kw] at h; revert h; decide +kernel)
theorem strEq {a b : Str} : decide (V.str a = V.str b) = decide (a = b) := by
  by_cases c : a = b
  · rw [c]; simp
  · rw [decide_eq_false c, decide_eq_false (fun e => c (V.str.inj e))]
theorem intEq {a b : Int} : decide (V.int a = V.int b) = decide (a = b) := by
  by_cases c : a = b
  · rw [c]; simp
  · rw [decide_eq_false c, decide_eq_false (fun e => c (V.int.inj e))]
theorem small {n : Nat} (h : n ≤ 1000) : n ≤ sizeLine := Nat.le_of_lt (small1000 h)
/-! ### == of kinds -/
def dat : Kd → PyData
  | .rule i => .tuple [.str "rule", .int (i : Nat)]
  | .this x y => .tuple [.str "this", dat x, dat y]
  | .both x y => .tuple [.str "both", dat x, dat y]
  | .inn x y => .tuple [.str "in", dat x, dat y]
  | .point x => .tuple [.str "point", dat x]
  | .hole x => .tuple [.str "hole", dat x]
  | .sized x m n => .tuple [.str "sized", dat x, .int (m : Nat), .int (n : Nat)]
  | k => .tuple [.str (kw k)]
theorem KAt.dp {K : PySem.W.Frag} {H : Hp} : ∀ {k : Kd} {v : V}, KAt H k v → Dp K H v (dat k)
  | .void, _, ⟨a, e, h⟩ => by rw [e]; exact .tup (SqT.of h) (.cons (.str _) .nil)
  | .unit, _, ⟨a, e, h⟩ => by rw [e]; exact .tup (SqT.of h) (.cons (.str _) .nil)
  | .one, _, ⟨a, e, h⟩ => by rw [e]; exact .tup (SqT.of h) (.cons (.str _) .nil)
  | .set, _, ⟨a, e, h⟩ => by rw [e]; exact .tup (SqT.of h) (.cons (.str _) .nil)
  | .row, _, ⟨a, e, h⟩ => by rw [e]; exact .tup (SqT.of h) (.cons (.str _) .nil)
  | .round, _, ⟨a, e, h⟩ => by rw [e]; exact .tup (SqT.of h) (.cons (.str _) .nil)
  | .rule i, _, ⟨a, e, h⟩ => by rw [e]; exact .tup (SqT.of h) (.cons (.str _) (.cons (.int _) .nil))
  | .this x y, _, ⟨a, vx, vy, e, h, hx, hy⟩ => by rw [e]; exact .tup (SqT.of h) (.cons (.str _) (.cons hx.dp (.cons hy.dp .nil)))
  | .both x y, _, ⟨a, vx, vy, e, h, hx, hy⟩ => by rw [e]; exact .tup (SqT.of h) (.cons (.str _) (.cons hx.dp (.cons hy.dp .nil)))
  | .inn x y, _, ⟨a, vx, vy, e, h, hx, hy⟩ => by rw [e]; exact .tup (SqT.of h) (.cons (.str _) (.cons hx.dp (.cons hy.dp .nil)))
  | .point x, _, ⟨a, vx, e, h, hx⟩ => by rw [e]; exact .tup (SqT.of h) (.cons (.str _) (.cons hx.dp .nil))
  | .hole x, _, ⟨a, vx, e, h, hx⟩ => by rw [e]; exact .tup (SqT.of h) (.cons (.str _) (.cons hx.dp .nil))
  | .sized x m n, _, ⟨a, vx, e, h, hx⟩ => by rw [e]; exact .tup (SqT.of h) (.cons (.str _) (.cons hx.dp (.cons (.int _) (.cons (.int _) .nil))))
theorem KsAt.dp {K : PySem.W.Frag} {H : Hp} : ∀ {ks : List Kd} {vs : List V}, KsAt H ks vs → DpAll K H vs (ks.map dat)
  | [], [], _ => .nil
  | k :: ks, v :: vs, ⟨h, r⟩ => .cons h.dp (KsAt.dp r)
  | [], _ :: _, h => h.elim
  | _ :: _, [], h => h.elim
theorem kw_ok (k : Kd) : PyData.canLay0 (.str (kw k)) = true := by cases k <;> simp only [kw] <;> decide +kernel
theorem dat_lay : ∀ k : Kd, (dat k).canLay0 = true ∧ (dat k).depth ≤ dep k + 1
  | .void => by decide +kernel
  | .unit => by decide +kernel
  | .one => by decide +kernel
  | .set => by decide +kernel
  | .row => by decide +kernel
  | .round => by decide +kernel
  | .rule i => ⟨by have := kw_ok (.rule i); simp only [dat, PyData.canLay0, PyData.canLayAll0, kw] at this ⊢; simp [this], by simp [dat, PyData.depth, PyData.depthAll]⟩
  | .this x y => by
    have a := dat_lay x
    have b := dat_lay y
    have c := kw_ok (.this x y)
    refine ⟨by simp only [dat, PyData.canLay0, PyData.canLayAll0, kw] at c ⊢; simp [c, a.1, b.1], ?_⟩
    simp only [dat, PyData.depth, PyData.depthAll, dep]
    omega
  | .both x y => by
    have a := dat_lay x
    have b := dat_lay y
    have c := kw_ok (.both x y)
    refine ⟨by simp only [dat, PyData.canLay0, PyData.canLayAll0, kw] at c ⊢; simp [c, a.1, b.1], ?_⟩
    simp only [dat, PyData.depth, PyData.depthAll, dep]
    omega
  | .inn x y => by
    have a := dat_lay x
    have b := dat_lay y
    have c := kw_ok (.inn x y)
    refine ⟨by simp only [dat, PyData.canLay0, PyData.canLayAll0, kw] at c ⊢; simp [c, a.1, b.1], ?_⟩
    simp only [dat, PyData.depth, PyData.depthAll, dep]
    omega
  | .point x => by
    have a := dat_lay x
    have c := kw_ok (.point x)
    refine ⟨by simp only [dat, PyData.canLay0, PyData.canLayAll0, kw] at c ⊢; simp [c, a.1], ?_⟩
    simp only [dat, PyData.depth, PyData.depthAll, dep]
    omega
  | .hole x => by
    have a := dat_lay x
    have c := kw_ok (.hole x)
    refine ⟨by simp only [dat, PyData.canLay0, PyData.canLayAll0, kw] at c ⊢; simp [c, a.1], ?_⟩
    simp only [dat, PyData.depth, PyData.depthAll, dep]
    omega
  | .sized x m n => by
    have a := dat_lay x
    have c := kw_ok (.sized x m n)
    refine ⟨by simp only [dat, PyData.canLay0, PyData.canLayAll0, kw] at c ⊢; simp [c, a.1], ?_⟩
    simp only [dat, PyData.depth, PyData.depthAll, dep]
    omega
theorem dats_lay {d : Nat} : ∀ {ks : List Kd}, (∀ k ∈ ks, dep k ≤ d) → PyData.canLayAll0 (ks.map dat) = true ∧ PyData.depthAll (ks.map dat) ≤ d + 1
  | [], _ => ⟨by simp [PyData.canLayAll0], by simp [PyData.depthAll]⟩
  | k :: ks, h => by
    have a := dat_lay k
    have b := h k List.mem_cons_self
    have c := dats_lay (ks := ks) fun x hx => h x (List.mem_cons_of_mem _ hx)
    refine ⟨by simp [PyData.canLayAll0, a.1, c.1], ?_⟩
    simp only [List.map_cons, PyData.depthAll]
    omega
theorem shapedKs {ks : List Kd} (h : ∀ k ∈ ks, dep k ≤ 60) : SeqAt.shaped (.list (ks.map dat)) = true := by
  have a := dats_lay h
  unfold SeqAt.shaped
  rw [Bool.and_eq_true]
  refine ⟨by simp only [PyData.canLay0]; exact a.1, ?_⟩
  rw [decide_eq_true_eq]
  simp only [PyData.depth]
  omega
theorem shapedNil : SeqAt.shaped (.list []) = true := by decide +kernel
theorem eqvNil : ∀ ds : List PyData, PyData.eqv (.list ds) (.list []) = ds.isEmpty
  | [] => by simp [PyData.eqv, PyData.eqvAll]
  | _ :: _ => by simp [PyData.eqv, PyData.eqvAll]
end KB
/-! # Comprehensions whose parts change nothing -/
namespace KB
open PySem PySem.Spec PyProof.Rows L2
theorem fm_succ {α : Type} (f : Nat → Option α) (i : Nat) : (List.range (i + 1)).filterMap f = (List.range i).filterMap f ++ (f i).toList := by
  rw [List.range_succ, List.filterMap_append]
  cases h : f i <;> simp [h]
theorem fm_len {α : Type} (f : Nat → Option α) (n : Nat) : ((List.range n).filterMap f).length ≤ n := by
  have := List.length_filterMap_le f (List.range n)
  rw [List.length_range] at this
  exact this
theorem fm_map {α : Type} (f : Nat → α) (n : Nat) : (List.range n).filterMap (fun i => some (f i)) = (List.range n).map f := by
  induction n with
  | zero => rfl
  | succ n ih => rw [fm_succ, ih, List.range_succ, List.map_append]; rfl
section
variable {K : PySem.W.Frag} {a : Addr} {xs : List V} {j : Nat} {tt : TT} {te : TE} {vs : List Nat} {σ : L2.St} {H1 : Hp} {D : Addr} {Qd : Hp → Prop}
/-- what a turn of such a comprehension must show -/
def Turn1 (f : Option V) (tt : TT) (te : TE) (σ : L2.St) (H : Hp) : Prop := ∀ (Y : V → Hp → Prop) (N : Hp → Prop), (∀ y H4, f = some y → Same H H4 → Y y H4) → (∀ H4, f = none → Same H H4 → N H4) →
  tt σ H fun b H3 => if b = true then te σ H3 Y else N H3
theorem turn_step {f : Nat → Option V} {i : Nat} {H : Hp} {σ' : L2.St} (hD : H1 D = none) (hi : i < 1000) (s : Same H1 H) (e : H D = some (.lst ((List.range i).filterMap f))) (h : Turn1 (f i) tt te σ' H) :
    tt σ' H fun b H3 => if b = true then te σ' H3 fun y H4 => ∃ acc, H4 D = some (.lst acc) ∧ acc.length < sizeLine ∧ (Same H1 (upd H4 D (.lst (acc ++ [y]))) ∧ (upd H4 D (.lst (acc ++ [y]))) D = some (.lst ((List.range (i + 1)).filterMap f)))
      else (Same H1 H3 ∧ H3 D = some (.lst ((List.range (i + 1)).filterMap f))) := by
  refine h _ _ (fun y H4 ef s4 => ⟨_, s4 _ _ e, Nat.lt_of_le_of_lt (fm_len f i) (small1000 (by omega)), fun b o q => ?_, ?_⟩) fun H4 ef s4 => ⟨s.trans s4, ?_⟩
  · rw [upd_ne (ne_of_none q hD)]
    exact s4 _ _ (s _ _ q)
  · rw [upd_same, fm_succ, ef] <;> rfl
  · rw [s4 _ _ e, fm_succ, ef]
    simp
theorem pc_list (f : Nat → Option V) (hD : H1 D = none) (hS : SqL K H1 a xs) (hn : xs.length ≤ 1000) (hw : ∀ x, wipe ((wipe σ vs).set j (some x)) vs = wipe σ vs)
    (hs : ∀ i x H, xs[i]? = some x → Same H1 H → Turn1 (f i) tt te ((wipe σ vs).set j (some x)) H)
    (hd : ∀ H, Same H1 H → H D = some (.lst ((List.range xs.length).filterMap f)) → Qd H) :
    ∃ W : Nat → Nat → Hp → Prop, (∃ m, W 0 m (upd H1 D (.lst []))) ∧ ∀ i m H, W i m H →
      ((Itl K a).stop i H ∧ Qd H) ∨ ((Itl K a).go i H ∧ ∃ Nx : Hp → Prop, (∀ H', Nx H' → ∃ m', m' < m ∧ W (i + 1) m' H') ∧ ∀ x H', (Itl K a).yld i H x H' → gName j x (wipe σ vs) H' fun σ2 H2 => wipe σ2 vs = wipe σ vs ∧ tt σ2 H2 fun b H3 =>
        if b = true then te σ2 H3 fun y H4 => ∃ acc, H4 D = some (.lst acc) ∧ acc.length < sizeLine ∧ Nx (upd H4 D (.lst (acc ++ [y]))) else Nx H3) :=
  lc_list (fun i H => Same H1 H ∧ H D = some (.lst ((List.range i).filterMap f))) ⟨same_new hD _, upd_same⟩ (fun i H _ p => p.1.seq hS)
    (fun i x H hx p => ⟨hw x, turn_step hD (by have := (List.getElem?_eq_some_iff.mp hx).1; omega) p.1 p.2 (hs i x H hx p.1)⟩) fun H p => hd H p.1 p.2
theorem pc_tup (f : Nat → Option V) (hD : H1 D = none) (hS : SqT K H1 a xs) (hn : xs.length ≤ 1000) (hw : ∀ x, wipe ((wipe σ vs).set j (some x)) vs = wipe σ vs)
    (hs : ∀ i x H, xs[i]? = some x → Same H1 H → Turn1 (f i) tt te ((wipe σ vs).set j (some x)) H)
    (hd : ∀ H, Same H1 H → H D = some (.lst ((List.range xs.length).filterMap f)) → Qd H) :
    ∃ W : Nat → Nat → Hp → Prop, (∃ m, W 0 m (upd H1 D (.lst []))) ∧ ∀ i m H, W i m H →
      ((Itt K a).stop i H ∧ Qd H) ∨ ((Itt K a).go i H ∧ ∃ Nx : Hp → Prop, (∀ H', Nx H' → ∃ m', m' < m ∧ W (i + 1) m' H') ∧ ∀ x H', (Itt K a).yld i H x H' → gName j x (wipe σ vs) H' fun σ2 H2 => wipe σ2 vs = wipe σ vs ∧ tt σ2 H2 fun b H3 =>
        if b = true then te σ2 H3 fun y H4 => ∃ acc, H4 D = some (.lst acc) ∧ acc.length < sizeLine ∧ Nx (upd H4 D (.lst (acc ++ [y]))) else Nx H3) :=
  lc_tup (fun i H => Same H1 H ∧ H D = some (.lst ((List.range i).filterMap f))) ⟨same_new hD _, upd_same⟩ (fun i H _ p => by
      rcases hS with h | h
      · rcases h with h | ⟨o, h⟩
        · exact .inl (.inl (p.1 _ _ h))
        · exact .inl (.inr ⟨o, p.1 _ _ h⟩)
      · exact .inr h)
    (fun i x H hx p => ⟨hw x, turn_step hD (by have := (List.getElem?_eq_some_iff.mp hx).1; omega) p.1 p.2 (hs i x H hx p.1)⟩) fun H p => hd H p.1 p.2
theorem pc_range {lo : Int} {n : Nat} (f : Nat → Option V) (hD : H1 D = none) (hn : n ≤ 1000) (hw : ∀ x, wipe ((wipe σ vs).set j (some x)) vs = wipe σ vs)
    (hs : ∀ (i : Nat) H, i < n → Same H1 H → Turn1 (f i) tt te ((wipe σ vs).set j (some (.int (lo + i)))) H)
    (hd : ∀ H, Same H1 H → H D = some (.lst ((List.range n).filterMap f)) → Qd H) :
    ∃ W : Nat → Nat → Hp → Prop, (∃ m, W 0 m (upd H1 D (.lst []))) ∧ ∀ i m H, W i m H →
      ((Itr lo n).stop i H ∧ Qd H) ∨ ((Itr lo n).go i H ∧ ∃ Nx : Hp → Prop, (∀ H', Nx H' → ∃ m', m' < m ∧ W (i + 1) m' H') ∧ ∀ x H', (Itr lo n).yld i H x H' → gName j x (wipe σ vs) H' fun σ2 H2 => wipe σ2 vs = wipe σ vs ∧ tt σ2 H2 fun b H3 =>
        if b = true then te σ2 H3 fun y H4 => ∃ acc, H4 D = some (.lst acc) ∧ acc.length < sizeLine ∧ Nx (upd H4 D (.lst (acc ++ [y]))) else Nx H3) :=
  lc_range (fun i H => Same H1 H ∧ H D = some (.lst ((List.range i).filterMap f))) ⟨same_new hD _, upd_same⟩
    (fun i H hx p => ⟨hw _, turn_step hD (by omega) p.1 p.2 (hs i H hx p.1)⟩) fun H p => hd H p.1 p.2
/-- .. over range(n) -/
theorem pc_range0 {n k : Nat} (f : Nat → Option V) (hk : n = k) (hD : H1 D = none) (hn : k ≤ 1000) (hw : ∀ x, wipe ((wipe σ vs).set j (some x)) vs = wipe σ vs)
    (hs : ∀ (i : Nat) H, i < k → Same H1 H → Turn1 (f i) tt te ((wipe σ vs).set j (some (.int (i : Nat)))) H)
    (hd : ∀ H, Same H1 H → H D = some (.lst ((List.range k).filterMap f)) → Qd H) :
    ∃ W : Nat → Nat → Hp → Prop, (∃ m, W 0 m (upd H1 D (.lst []))) ∧ ∀ i m H, W i m H →
      ((Itr 0 n).stop i H ∧ Qd H) ∨ ((Itr 0 n).go i H ∧ ∃ Nx : Hp → Prop, (∀ H', Nx H' → ∃ m', m' < m ∧ W (i + 1) m' H') ∧ ∀ x H', (Itr 0 n).yld i H x H' → gName j x (wipe σ vs) H' fun σ2 H2 => wipe σ2 vs = wipe σ vs ∧ tt σ2 H2 fun b H3 =>
        if b = true then te σ2 H3 fun y H4 => ∃ acc, H4 D = some (.lst acc) ∧ acc.length < sizeLine ∧ Nx (upd H4 D (.lst (acc ++ [y]))) else Nx H3) := by
  subst hk
  exact pc_range f hD hn hw (fun i H hi s => by rw [Int.zero_add]; exact hs i H hi s) hd
/-- without an if -/
theorem turn_yes {y : V} {te : TE} {σ : L2.St} {H : Hp} (h : ∀ Y : V → Hp → Prop, (∀ H4, Same H H4 → Y y H4) → te σ H Y) : Turn1 (some y) tYes te σ H := fun Y N hy _ => by
  show (if true = true then te σ H Y else N H)
  exact iteT (h Y fun H4 s => hy y H4 rfl s)
end
/-! ### ways joined -/
def tMidS (t u : TS) : TS := fun D σ H => ∃ Mid : L2.St → Hp → Prop, t { D with nx := Mid } σ H ∧ ∀ σ' H', Mid σ' H' → u D σ' H'
theorem pss_mid {X : Cx} {st : Stmt} {rest : List Stmt} {t u : TS} (h1 : PS X st t) (h2 : PSs X rest u) : PSs X (st :: rest) (tMidS t u) := by
  refine ⟨fun pins s σ H D I h => ?_⟩
  obtain ⟨Mid, a, b⟩ := h
  refine wpAny_execs_cons (thn (h1.run pins s σ H _ I a) fun fl s1 q => ?_)
  cases fl with
  | next =>
    obtain ⟨σ', H', I', m⟩ := q
    exact h2.run pins s1 σ' H' D I' (b σ' H' m)
  | brk => exact q
  | cont => exact q
  | ret u => exact q
def tMidT (t : TT) : TT := fun σ H Q => ∃ Mid : Bool → Hp → Prop, t σ H Mid ∧ ∀ b H', Mid b H' → Q b H'
theorem pt_mid {X : Cx} {e : Expr} {t : TT} (h : PT X e t) : PT X e (tMidT t) := ⟨fun pins s σ H Q I ⟨Mid, a, b⟩ => thn (h.run pins s σ H Mid I a) fun c s' ⟨H', I', q⟩ => ⟨H', I', b c H' q⟩⟩
def tMidE (t : TE) : TE := fun σ H Q => ∃ Mid : V → Hp → Prop, t σ H Mid ∧ ∀ v H', Mid v H' → Q v H'
theorem pe_mid {X : Cx} {e : Expr} {t : TE} (h : PE X e t) : PE X e (tMidE t) := ⟨fun pins s σ H Q I ⟨Mid, a, b⟩ => thn (h.run pins s σ H Mid I a) fun c s' ⟨v, H', I', r, q⟩ => ⟨v, H', I', r, b v H' q⟩⟩
/-! ### rules with the written part named (within a block it must not hang on the block) -/
section
variable {X : Cx} (K : PySem.W.Frag) (hK : X.K = K := by rfl)
include hK
theorem ixT : IxR X (rIxT K) := by subst hK; exact ix_tup
theorem ixL : IxR X (rIxL K) := by subst hK; exact ix_list
theorem slT : SlR X (rSlA K) := by subst hK; exact sl_tupA
theorem slL : SlR X (rSlL K) := by subst hK; exact sl_list
theorem inQ : OpR X (compareOp .In) (rIn K false) := by subst hK; exact op_in_seq
theorem notInQ : OpR X (compareOp .NotIn) (rIn K true) := by subst hK; exact op_notIn_seq
theorem catT : OpR X (binaryOp .Add) (rCatA K) := by subst hK; exact op_catA
theorem mulT : OpR X (binaryOp .Mult) (KR.rMulT K) := by subst hK; exact KR.op_mulT
theorem eqD (hu : X.A.units + 64 < cLine) : OpR X (compareOp .Eq) (rEqD K) := by subst hK; exact op_eqD hu
theorem neD (hu : X.A.units + 64 < cLine) : OpR X (compareOp .NotEq) (rNeD K) := by subst hK; exact op_neD hu
theorem isiC : CallR X (.builtin "isinstance") (rIsi K) := by subst hK; exact call_isi
theorem allC (hc : X.calm = true) : CallR X (.builtin "all") (rAll K) := by subst hK; exact cr_all hc
def rLenQ (K : PySem.W.Frag) : List V → Hp → VK → Prop := fun xs H Q => ∃ p ys, xs = [.ref p] ∧ (SqL K H p ys ∨ SqT K H p ys) ∧ Q (.int ys.length) H
theorem lenC : CallR X (.builtin "len") (rLenQ K) := by subst hK; exact call_len_seq
def rListQ (K : PySem.W.Frag) : List V → Hp → VK → Prop := fun xs H Q => ∃ p ys, xs = [.ref p] ∧ (SqL K H p ys ∨ SqT K H p ys) ∧ ∀ l, H l = none → Q (.ref l) (upd H l (.lst ys))
theorem listC : CallR X (.type "list") (rListQ K) := by subst hK; exact call_list_of
def rTupQ (K : PySem.W.Frag) : List V → Hp → VK → Prop := fun xs H Q => ∃ p ys, xs = [.ref p] ∧ ((SqL K H p ys ∧ ∀ l, H l = none → Q (.ref l) (upd H l (.tup ys))) ∨ (SqT K H p ys ∧ Q (.ref p) H))
theorem tupC : CallR X (.type "tuple") (rTupQ K) := by subst hK; exact call_tuple_of
theorem setC (w : World) (hw : X.w = w) (hc : X.calm = true) : CallR X (.type "set") (KR.rSetL K w) := by subst hK; subst hw; exact KR.cr_setL hc
theorem maxC (hc : X.calm = true) (hu : X.A.units + 64 < cLine) : CallRK X (.builtin "max") ["default"] (KR.rMaxD K) := by subst hK; exact KR.cr_maxD hc hu
theorem piL {tg l : Expr} {tl : TE} (hl : PE X l tl) : PI X tg l (iList K tl) := by subst hK; exact pi_list hl
theorem piT {tg l : Expr} {tl : TE} (hl : PE X l tl) : PI X tg l (iTup K tl) := by subst hK; exact pi_tup hl
end
/-- a new object changes -/
theorem Same.wr {H H' : Hp} {a : Addr} {o : HO} (s : Same H H') (h : H a = none) : Same H (upd H' a o) := fun b u q => by
  rw [upd_ne (ne_of_none q h)]
  exact s b u q
theorem TK.lst {H : Hp} {a : Addr} {xs ys : List V} (h : H a = some (.lst xs)) : TK H (upd H a (.lst ys)) := fun b zs q => by
  rw [upd_ne (ne_of q h (by intro z; cases z))]
  exact q
theorem TK.new {H : Hp} {p : Addr} {o : HO} (h : H p = none) : TK H (upd H p o) := TK.of (same_new h o)
theorem snoc_of {α : Type} {xs : List α} (h : xs ≠ []) : ∃ ys y, xs = ys ++ [y] := ⟨xs.dropLast, xs.getLast h, (List.dropLast_concat_getLast h).symm⟩
theorem KsAt.snoc {H : Hp} : ∀ {ks : List KM.Kd} {vs : List V} {k : KM.Kd}, KsAt H (ks ++ [k]) vs → ∃ us u, vs = us ++ [u] ∧ KsAt H ks us ∧ KAt H k u
  | [], [v], k, ⟨h, _⟩ => ⟨[], v, rfl, trivial, h⟩
  | [], [], _, h => h.elim
  | [], _ :: _ :: _, _, ⟨_, h⟩ => h.elim
  | k0 :: ks, v :: vs, k, ⟨h, r⟩ => by
    obtain ⟨us, u, e, h1, h2⟩ := KsAt.snoc (ks := ks) r
    exact ⟨v :: us, u, by rw [e]; rfl, ⟨h, h1⟩, h2⟩
  | _ :: _, [], _, h => h.elim
theorem SqT.sm {K : PySem.W.Frag} {H H' : Hp} {a : Addr} {xs : List V} (s : Same H H') (h : SqT K H a xs) : SqT K H' a xs := by
  rcases h with h | h
  · rcases h with h | ⟨o, h⟩
    · exact .inl (.inl (s _ _ h))
    · exact .inl (.inr ⟨o, s _ _ h⟩)
  · exact .inr h
end KB
/-! # Walks 1: whole numbers, the parts of a kind -/
namespace KB
open PySem PySem.Spec PyProof.Rows L2 KM
section
variable {X : Cx}
theorem op_in_z (h : ∃ es n, KDict X.K X.w (He.ga X.K "BARE_LOWS") es n) : OpR X (compareOp .In) (fun x y H Q => ∃ (z : Str) (r : Option Value), x = .str z ∧ y = .ref (He.ga X.K "BARE_LOWS") ∧ PySem.W.nsIn X.K (He.ga X.K "BARE_LOWS") z = some r ∧ Q (.bl r.isSome) H) := by
  obtain ⟨es, n, D⟩ := h
  exact op_in_kd D
theorem ix_z (h : ∃ es n, KDict X.K X.w (He.ga X.K "BARE_LOWS") es n) : IxR X (fun x y H Q => ∃ (z : Str) (u : Value) (v : V), x = .ref (He.ga X.K "BARE_LOWS") ∧ y = .str z ∧ PySem.W.nsIn X.K (He.ga X.K "BARE_LOWS") z = some (some u) ∧ RelV v u ∧ Q v H) := by
  obtain ⟨es, n, D⟩ := h
  intro value slice pins s σ H x y v u Q I rx ry hh hs
  obtain ⟨z, u0, v0, e1, e2, e3, e4, q⟩ := hh
  exact ix_kdict value slice pins s σ H x y v u Q I rx ry ⟨_, z, v0, e1, e2, ⟨es, n, u0, D.at_, D.lit, e3, e4⟩, q⟩ hs
end
def isPair : Kd → Bool
  | .this _ _ => true | .both _ _ => true | .inn _ _ => true | _ => false
def isOne : Kd → Bool
  | .point _ => true | .hole _ => true | .sized _ _ _ => true | _ => false
theorem in_pair (k : Kd) : inV (.str (kw k)) [.str "this", .str "both", .str "in"] = isPair k := by cases k <;> simp only [kw, isPair] <;> decide +kernel
theorem in_one (k : Kd) : inV (.str (kw k)) [.str "point", .str "hole", .str "sized"] = isOne k := by cases k <;> simp only [kw, isOne] <;> decide +kernel
theorem km_pair {k : Kd} (h : isPair k = true) : km k = [] := by cases k <;> first | rfl | cases h
theorem kp_one {k : Kd} (h : isOne k = true) : ∃ x, kp k = [x] := by cases k <;> first | exact ⟨_, rfl⟩ | cases h
theorem kp_none {k : Kd} (h : isPair k = false) (h2 : isOne k = false) : kp k = [] := by cases k <;> first | rfl | (simp [isPair] at h; done) | (simp [isOne] at h2; done)
theorem cut_tail (x : V) (xs : List V) : cutV (x :: xs) (some 1) none = xs := by
  unfold cutV
  rw [show HT.sIx (x :: xs).length 0 (some 1) = min 1 (x :: xs).length from HT.sIx_nat (x :: xs).length 0 1, HT.sIx_none, List.length_cons, show min 1 (xs.length + 1) = 1 by omega]
  show List.take (xs.length + 1 - 1) xs = xs
  rw [Nat.add_sub_cancel]
  exact List.take_length
theorem cut_ne (x : V) (xs : List V) : ¬ (HT.sIx (x :: xs).length 0 (some 1) = 0 ∧ HT.sIx (x :: xs).length (x :: xs).length none = (x :: xs).length) := fun h => by
  have e : HT.sIx (x :: xs).length 0 (some 1) = min 1 (x :: xs).length := HT.sIx_nat (x :: xs).length 0 1
  rw [e, List.length_cons] at h
  omega
section
variable {P : Program} {w : World} {K : PySem.W.Frag} {mg : Str → Option Value} {base : Heap}
/-! ### is_whole -/
theorem sc_is_whole : FnScope ["thing"] ["thing"] (defScope KH.s_is_whole) := ⟨rfl, rfl, rfl, by decide +kernel, rfl, by decide +kernel, by decide +kernel⟩
def sp_is_whole : Sp := fun vs H Q _ => ∃ i : Int, vs = [.int i] ∧ Q (.bl true) H
theorem ok_is_whole (T : Txt w K mg) : Prm P w K mg base CX0 1 "is_whole" ["thing"] sp_is_whole := by
  refine T.d_is_whole.ok sc_is_whole (fun vs H Q E h => ?_) (fun f cdv A outer s H vs Q E hr h => ⟨_, (pss_one (ps_ret (pe_and (pe_callB (isiC K) (by rfl) T.z_isinstance (by decide +kernel) (pa_cons (pv 0) (pa_cons (pe_bltn (v := .ty "int") (by rfl) T.z_int (by decide +kernel) rfl) pa_nil))) (pe_one (pe_not (pe_callB (isiC K) (by rfl) T.z_isinstance (by decide +kernel) (pa_cons (pv 0) (pa_cons (pe_bltn (v := .ty "bool") (by rfl) T.z_bool (by decide +kernel) rfl) pa_nil)))))))), ?_⟩)
  · obtain ⟨i, rfl, _⟩ := h
    rfl
  obtain ⟨i, rfl, q⟩ := h
  refine ⟨_, rfl, _, .ty "int", _, _, true, rfl, .ty _, .base (.int i), kit_ty (by decide +kernel), _, rfl, ?_⟩
  refine iteT ⟨_, rfl, _, .ty "bool", _, _, false, rfl, .ty _, .base (.int i), kit_ty (by decide +kernel), _, rfl, q⟩
/-! ### inner_kinds -/
theorem sc_inner_kinds : FnScope ["kind"] ["kind"] (defScope KH.s_inner_kinds) := ⟨rfl, rfl, rfl, by decide +kernel, rfl, by decide +kernel, by decide +kernel⟩
def sp_inner_kinds : Sp := fun vs H Q _ => ∃ (k : Kd) (v : V), vs = [v] ∧ KAt H k v ∧ ∀ (H' : Hp) (p : Addr) (us : List V), Same H H' → H p = none → H' p = some (.lst us) → KsAt H' (kp k) us → Q (.ref p) H'
theorem ok_inner_kinds (T : Txt w K mg) : Prm P w K mg base CX0 1 "inner_kinds" ["kind"] sp_inner_kinds := by
  refine T.d_inner_kinds.ok sc_inner_kinds (fun vs H Q E h => ?_) (fun f cdv A outer s H vs Q E hr h => ⟨_, (pss_cons (ps_if (pt_cmpR (inQ K) (pe_ix (ixT K) (pv 0) pe_int (fun _ _ => rfl)) (pe_gr T.g_PAIRED) (by rfl)) (pss_one (ps_ret (pe_callTy (listC K) (by rfl) T.z_list (by decide +kernel) (pa_cons (pe_slice (slT K) (pv 0) (po_some pe_int) po_none) pa_nil)))) pss_nil)
      (pss_cons (ps_if (pt_cmpR (inQ K) (pe_ix (ixT K) (pv 0) pe_int (fun _ _ => rfl)) (pe_tup (pa_cons pe_str (pa_cons pe_str (pa_cons pe_str pa_nil)))) (by rfl)) (pss_one (ps_ret (pe_lst (pa_cons (pe_ix (ixT K) (pv 0) pe_int (fun _ _ => rfl)) pa_nil)))) pss_nil)
      (pss_one (ps_ret (pe_lst pa_nil))))), ?_⟩)
  · obtain ⟨k, v, rfl, _⟩ := h
    rfl
  obtain ⟨k, v, rfl, hk, q⟩ := h
  obtain ⟨a, us, rfl, ha, hs⟩ := hk.shape
  refine ⟨_, rfl, _, _, _, _, rfl, rfl, SqT.of ha, atI_nat (j := 0) rfl, _, _, rfl, .inr (T.paired H), rfl, rfl, _, rfl, ?_⟩
  refine ite2 (fun c => ?_) (fun c => ?_)
  · have c' : isPair k = true := (in_pair k).symm.trans c
    rw [km_pair c', List.append_nil] at ha
    refine ⟨_, rfl, 1, rfl, a, _, rfl, SqT.of ha, (fun e => absurd e (cut_ne _ _)), fun _ p hp => ?_⟩
    rw [cut_tail]
    refine ⟨p, us, rfl, .inr (SqT.of upd_same), fun l hl => ?_⟩
    have s1 := same_new hp (.tup us)
    have s2 := same_new hl (.lst us)
    exact q _ l us (s1.trans s2) (s1.free hl) upd_same (hs.tk (TK.of (s1.trans s2)))
  · have c' : isPair k = false := (in_pair k).symm.trans (Bool.eq_false_iff.mpr c)
    refine ⟨_, rfl, _, _, _, _, rfl, rfl, SqT.of ha, atI_nat (j := 0) rfl, (by show 3 ≤ sizeLine; decide), fun t ht => ?_⟩
    have s1 := same_new ht (.tup [.str "point", .str "hole", .str "sized"])
    refine ⟨t, _, rfl, .inr (SqT.of upd_same), rfl, rfl, _, rfl, ?_⟩
    refine ite2 (fun c2 => ?_) (fun c2 => ?_)
    · have c3 : isOne k = true := (in_one k).symm.trans c2
      obtain ⟨x, ex⟩ := kp_one c3
      rw [ex] at hs
      match us, hs with
      | [u], hs =>
        refine ⟨_, rfl, a, _, _, _, rfl, rfl, SqT.of (s1 _ _ ha), atI_nat (j := 1) rfl, (by show 1 ≤ sizeLine; decide), fun l hl => ?_⟩
        have s2 := same_new hl (.lst [u])
        exact q _ l [u] (s1.trans s2) (s1.free hl) upd_same (by rw [ex]; exact hs.tk (TK.of (s1.trans s2)))
    · have c3 : isOne k = false := (in_one k).symm.trans (Bool.eq_false_iff.mpr c2)
      refine ⟨(by show 0 ≤ sizeLine; decide), fun l hl => ?_⟩
      have s2 := same_new hl (.lst [])
      exact q _ l [] (s1.trans s2) (s1.free hl) upd_same (by rw [kp_none c' c3]; exact trivial)
/-! ### kinds_in -/
theorem sc_kinds_in : FnScope ["kind", "found", "pile", "one"] ["kind"] (defScope KH.s_kinds_in) := ⟨rfl, rfl, rfl, by decide +kernel, rfl, by decide +kernel, by decide +kernel⟩
/-- itself, then those of its parts -/
def pre : Kd → List Kd
  | .this x y => .this x y :: (pre x ++ pre y)
  | .both x y => .both x y :: (pre x ++ pre y)
  | .inn x y => .inn x y :: (pre x ++ pre y)
  | .point x => .point x :: pre x
  | .hole x => .hole x :: pre x
  | .sized x m n => .sized x m n :: pre x
  | k => [k]
theorem pre_eq (k : Kd) : pre k = k :: (kp k).flatMap pre := by cases k <;> simp [pre, kp]
theorem pre_dep : ∀ (k : Kd), ∀ x ∈ pre k, dep x ≤ dep k := by
  intro k
  induction k with
  | this x y hx hy =>
    intro z hz
    simp only [pre, List.mem_cons, List.mem_append] at hz
    simp only [dep]
    rcases hz with rfl | hz | hz
    · simp only [dep]; omega
    · have := hx z hz; omega
    · have := hy z hz; omega
  | both x y hx hy =>
    intro z hz
    simp only [pre, List.mem_cons, List.mem_append] at hz
    simp only [dep]
    rcases hz with rfl | hz | hz
    · simp only [dep]; omega
    · have := hx z hz; omega
    · have := hy z hz; omega
  | inn x y hx hy =>
    intro z hz
    simp only [pre, List.mem_cons, List.mem_append] at hz
    simp only [dep]
    rcases hz with rfl | hz | hz
    · simp only [dep]; omega
    · have := hx z hz; omega
    · have := hy z hz; omega
  | point x hx =>
    intro z hz
    simp only [pre, List.mem_cons] at hz
    simp only [dep]
    rcases hz with rfl | hz
    · simp only [dep]; omega
    · have := hx z hz; omega
  | hole x hx =>
    intro z hz
    simp only [pre, List.mem_cons] at hz
    simp only [dep]
    rcases hz with rfl | hz
    · simp only [dep]; omega
    · have := hx z hz; omega
  | sized x m n hx =>
    intro z hz
    simp only [pre, List.mem_cons] at hz
    simp only [dep]
    rcases hz with rfl | hz
    · simp only [dep]; omega
    · have := hx z hz; omega
  | _ =>
    intro z hz
    rw [List.mem_singleton.mp hz]
    exact Nat.le_refl _
theorem flat_len : ∀ ks : List Kd, ks.length ≤ (ks.flatMap pre).length
  | [] => Nat.le_refl _
  | k :: ks => by
    rw [List.flatMap_cons, List.length_append, pre_eq k]
    have := flat_len ks
    simp only [List.length_cons]
    omega
theorem flat_rev (ks : List Kd) : (ks.reverse.flatMap pre).length = (ks.flatMap pre).length := by
  induction ks with
  | nil => rfl
  | cons k ks ih => simp [ih, Nat.add_comm]
theorem pre_len : ∀ k : Kd, (pre k).length + 1 ≤ 2 ^ (dep k + 1) := by
  intro k
  have mono : ∀ {a b : Nat}, a ≤ b → 2 ^ (a + 1) ≤ 2 ^ (b + 1) := fun h => Nat.pow_le_pow_right (by decide) (by omega)
  have pos : ∀ a : Nat, 1 ≤ 2 ^ a := fun a => Nat.pow_pos (by decide)
  have two : ∀ x y : Kd, (pre x).length + 1 ≤ 2 ^ (dep x + 1) → (pre y).length + 1 ≤ 2 ^ (dep y + 1) → (pre x ++ pre y).length + 1 + 1 ≤ 2 ^ (max (dep x) (dep y) + 1 + 1) := fun x y hx hy => by
    have a := mono (show dep x ≤ max (dep x) (dep y) by omega)
    have b := mono (show dep y ≤ max (dep x) (dep y) by omega)
    rw [Nat.pow_succ, List.length_append]
    omega
  have one : ∀ x : Kd, (pre x).length + 1 ≤ 2 ^ (dep x + 1) → (pre x).length + 1 + 1 ≤ 2 ^ (dep x + 1 + 1) := fun x hx => by
    rw [Nat.pow_succ]
    have := pos (dep x + 1)
    omega
  induction k with
  | this x y hx hy => exact two x y hx hy
  | both x y hx hy => exact two x y hx hy
  | inn x y hx hy => exact two x y hx hy
  | point x hx => exact one x hx
  | hole x hx => exact one x hx
  | sized x m n hx => exact one x hx
  | _ => exact (by decide : 1 + 1 ≤ 2 ^ (0 + 1))
def sp_kinds_in : Sp := fun vs H Q _ => ∃ (k : Kd) (v : V), vs = [v] ∧ KAt H k v ∧ dep k ≤ 8 ∧ ∀ (H' : Hp) (p : Addr) (us : List V), Same H H' → H p = none → H' p = some (.lst us) → KsAt H' (pre k) us → Q (.ref p) H'
theorem ok_kinds_in (T : Txt w K mg) (F_inner_kinds : Prm P w K mg base CX0 1 "inner_kinds" ["kind"] sp_inner_kinds) : Prm P w K mg base CX0 2 "kinds_in" ["kind"] sp_kinds_in := by
  refine T.d_kinds_in.ok sc_kinds_in (fun vs H Q E h => ?_) (fun f cdv A outer s H vs Q E hr h => ⟨_, (pss_cons (ps_set (i := 1) sc_kinds_in.nd rfl (.inl rfl) (pe_lst pa_nil))
      (pss_cons (ps_set (i := 2) sc_kinds_in.nd rfl (.inl rfl) (pe_lst (pa_cons (pv 0) pa_nil)))
      (pss_cons (ps_while PassesOwn.never (pt_cmpR (neD K (hu := hr.units)) (pv 2) (pe_lst pa_nil) (by rfl)) (pss_cons (ps_set (i := 3) sc_kinds_in.nd rfl (.inl rfl) (pe_bm0 PySem.F.plainAttrs_list PySem.F.slot_list_pop PySem.F.type_list_pop mt_pop (pv 2)))
      (pss_cons (ps_expr (pe_bm PySem.F.plainAttrs_list PySem.F.slot_list_append PySem.F.type_list_append mt_append (pv 1) (pa_cons (pv 3) pa_nil)))
      (pss_one (ps_expr (pe_bm PySem.F.plainAttrs_list PySem.F.slot_list_extend PySem.F.type_list_extend mt_extend (pv 2) (pa_cons (pe_revL (pcl F_inner_kinds (hr.mono (by omega)) (pa_cons (pv 3) pa_nil))) pa_nil)))))))
      (pss_one (ps_ret (pv 1)))))), ?_⟩)
  · obtain ⟨k, v, rfl, _⟩ := h
    rfl
  obtain ⟨k, v, rfl, hk, hd, q⟩ := h
  have hlen : (pre k).length ≤ 511 := by
    have a := pre_len k
    have b : 2 ^ (dep k + 1) ≤ 2 ^ 9 := Nat.pow_le_pow_right (by decide) (by omega)
    have c : (2 : Nat) ^ 9 = 512 := by decide
    omega
  refine ⟨Nat.zero_le _, fun pf nf => ⟨_, rfl, (by show 1 ≤ sizeLine; decide), fun pp np => ?_⟩⟩
  have nfp : pf ≠ pp := fun e => by
    rw [← e, upd_same] at np
    cases np
  have np0 : H pp = none := by
    rw [upd_ne nfp.symm] at np
    exact np
  refine ⟨fun m σ H' => ∃ (fs ps : List V) (ks1 ks2 : List Kd) (one : Option V), σ = [some v, some (.ref pf), some (.ref pp), one] ∧ Same H H' ∧ H' pf = some (.lst fs) ∧ H' pp = some (.lst ps) ∧ KsAt H' ks1 fs ∧ KsAt H' ks2 ps ∧
      pre k = ks1 ++ ks2.reverse.flatMap pre ∧ m = (ks2.flatMap pre).length ∧ (∀ x ∈ ks2, dep x ≤ 8), ⟨_, [], [v], [], [k], none, rfl, Same.wr (same_new nf _) np0, by rw [upd_ne nfp, upd_same], upd_same, trivial,
      ⟨hk.tk ((TK.new nf).trans (TK.new np)), trivial⟩, by simp, rfl, by simpa using hd⟩, ?_⟩
  rintro m σ H' ⟨fs, ps, ks1, ks2, one, rfl, sm, hf, hp, k1, k2, ek, em, hdp⟩
  have len1 : fs.length + ps.length ≤ 511 := by
    rw [k1.len, k2.len]
    have e := congrArg List.length ek
    rw [List.length_append] at e
    have := flat_len ks2.reverse
    rw [List.length_reverse] at this
    omega
  refine ⟨_, rfl, Nat.zero_le _, fun e ne => ⟨.list (ks2.map dat), .list [], .lst (SqL.of ?_) (k2.tk (TK.new ne)).dp, .lst (SqL.of upd_same) .nil, shapedKs (fun x hx => by have := hdp x hx; omega), shapedNil, _, rfl, ?_⟩⟩
  · rw [upd_ne (ne_of_none hp ne)]
    exact hp
  rw [eqvNil]
  have epf : pf ≠ e := ne_of_none hf ne
  have epp : pp ≠ e := ne_of_none hp ne
  refine ite2 (fun c => ?_) (fun c => ?_)
  · have hne : ks2 ≠ [] := fun z => by
      rw [z] at c
      exact absurd c (by decide)
    obtain ⟨ks3, y, rfl⟩ := snoc_of hne
    obtain ⟨ps3, x, rfl, k3, kx⟩ := k2.snoc
    refine ⟨fun σ' H'' => ∃ (fs ps : List V) (ks1 ks2 : List Kd) (one : Option V), σ' = [some v, some (.ref pf), some (.ref pp), one] ∧ Same H H'' ∧ H'' pf = some (.lst fs) ∧ H'' pp = some (.lst ps) ∧ KsAt H'' ks1 fs ∧ KsAt H'' ks2 ps ∧
      pre k = ks1 ++ ks2.reverse.flatMap pre ∧ (ks2.flatMap pre).length < m ∧ (∀ x ∈ ks2, dep x ≤ 8), ?_, ?_⟩
    · rintro σ' H'' ⟨a1, a2, a3, a4, a5, a6, a7, a8, a9, a10, a11, a12, a13, a14⟩
      exact ⟨_, a13, a1, a2, a3, a4, a5, a6, a7, a8, a9, a10, a11, a12, rfl, a14⟩
    -- one = pile.pop()
    have g1 : upd H' e (.lst []) pp = some (.lst (ps3 ++ [x])) := by rw [upd_ne epp]; exact hp
    refine ⟨_, rfl, .inl ⟨rfl, _, SqL.of g1⟩, pp, _, x, rfl, rfl, g1, by simp, ?_⟩
    rw [List.dropLast_concat]
    have t1 : TK H' (upd (upd H' e (.lst [])) pp (.lst ps3)) := (TK.new ne).trans (TK.lst g1)
    have g2 : (upd (upd H' e (.lst [])) pp (.lst ps3)) pf = some (.lst fs) := by rw [upd_ne nfp, upd_ne epf]; exact hf
    have s1 : Same H (upd (upd H' e (.lst [])) pp (.lst ps3)) := Same.wr (Same.wr sm (sm.free ne)) np0
    -- found.append(one)
    refine ⟨_, rfl, .inl ⟨rfl, _, SqL.of g2⟩, _, rfl, pf, _, _, rfl, rfl, g2, Nat.lt_of_le_of_lt (show fs.length ≤ 1000 by omega) (by decide), ?_⟩
    have t2 := t1.trans (TK.lst (ys := fs ++ [x]) g2)
    have s2 : Same H (upd (upd (upd H' e (.lst [])) pp (.lst ps3)) pf (.lst (fs ++ [x]))) := Same.wr s1 nf
    have g3 : (upd (upd (upd H' e (.lst [])) pp (.lst ps3)) pf (.lst (fs ++ [x]))) pp = some (.lst ps3) := by rw [upd_ne nfp.symm, upd_same]
    have g4 : (upd (upd (upd H' e (.lst [])) pp (.lst ps3)) pf (.lst (fs ++ [x]))) pf = some (.lst (fs ++ [x])) := upd_same
    generalize upd (upd (upd H' e (.lst [])) pp (.lst ps3)) pf (.lst (fs ++ [x])) = H3 at *
    -- pile.extend(inner_kinds(one)[::-1])
    refine ⟨_, rfl, .inl ⟨rfl, _, SqL.of g3⟩, _, rfl, y, x, rfl, kx.tk t2, fun H4 p us s4 np4 hp4 k4 => ⟨p, us, rfl, SqL.of hp4, fun r nr => ?_⟩⟩
    have n1 : pp ≠ r := ne_of_none (s4 _ _ g3) nr
    have n2 : pf ≠ r := ne_of_none (s4 _ _ g4) nr
    have s5 : Same H3 (upd H4 r (.lst us.reverse)) := s4.trans (same_new nr _)
    have lk : us.length ≤ 2 := by
      rw [k4.len]
      cases y <;> simp [kp]
    have hps : ps3.length ≤ 511 := by simp at len1; omega
    refine ⟨pp, r, ps3, us.reverse, rfl, rfl, s5 _ _ g3, upd_same, small (by rw [List.length_reverse]; omega), ?_⟩
    have t3 : TK H' (upd (upd H4 r (.lst us.reverse)) pp (.lst (ps3 ++ us.reverse))) := (t2.trans (TK.of s5)).trans (TK.lst (s5 _ _ g3))
    refine ⟨fs ++ [x], ps3 ++ us.reverse, ks1 ++ [y], ks3 ++ (kp y).reverse, some x, rfl, Same.wr (s2.trans s5) np0, ?_, upd_same, (k1.app (show KsAt H' [y] [x] from ⟨kx, trivial⟩)).tk t3,
      (k3.tk t3).app ((k4.tk ((TK.new nr).trans (TK.lst (s5 _ _ g3)))).rev), ?_, ?_, ?_⟩
    · rw [upd_ne nfp]
      exact s5 _ _ g4
    · rw [ek]
      simp [List.reverse_append, pre_eq y]
    · rw [em, List.flatMap_append, List.flatMap_append, List.length_append, List.length_append]
      have : (List.flatMap pre [y]).length = ((kp y).reverse.flatMap pre).length + 1 := by
        rw [flat_rev]
        simp [pre_eq y]
      omega
    · intro z hz
      rcases List.mem_append.mp hz with hz | hz
      · exact hdp z (List.mem_append_left _ hz)
      · have h1 := hdp y (List.mem_append_right _ List.mem_cons_self)
        have h2 := pre_dep y z (by
          rw [pre_eq]
          refine List.mem_cons_of_mem _ (List.mem_flatMap.mpr ⟨z, List.mem_reverse.mp hz, ?_⟩)
          rw [pre_eq]
          exact List.mem_cons_self)
        omega
  · have hz : ks2 = [] := by
      cases ks2 with
      | nil => rfl
      | cons a l => exact absurd rfl c
    subst hz
    refine ⟨_, rfl, q _ pf fs (Same.wr sm (sm.free ne)) nf (by rw [upd_ne epf]; exact hf) ?_⟩
    rw [ek]
    simpa using k1.tk (TK.new ne)
/-! ### by_parts -/
theorem sc_by_parts : FnScope ["kind", "inner", "word"] ["kind", "inner"] (defScope KH.s_by_parts) := ⟨rfl, rfl, rfl, by decide +kernel, rfl, by decide +kernel, by decide +kernel⟩
/-- the low of a kind by those of its parts -/
def lowP (L : List Nat) (k : Kd) : Nat := match k with
  | .this x y => min (low L x) (low L y)
  | .both x y => low L x + low L y
  | .inn x y => low L x * low L y
  | .point x => max 1 (low L x)
  | .hole x => low L x - 1
  | .sized x a b => if b < low L x then 20 else max (low L x) a
  | _ => 0
def sp_by_parts : Sp := fun vs H Q _ => ∃ (k : Kd) (v : V) (L : List Nat) (p : Addr), vs = [v, .ref p] ∧ KAt H k v ∧ H p = some (.lst ((kp k).map fun x => V.int (low L x : Nat))) ∧ (isPair k = true ∨ isOne k = true) ∧ (∀ x ∈ kp k, low L x ≤ 20) ∧ Q (.int (lowP L k : Nat)) H
theorem ok_by_parts (T : Txt w K mg) : Prm P w K mg base CX0 1 "by_parts" ["kind", "inner"] sp_by_parts := by
  refine T.d_by_parts.ok sc_by_parts (fun vs H Q E h => ?_) (fun f cdv A outer s H vs Q E hr h => ⟨_, (pss_cons (ps_set (i := 2) sc_by_parts.nd rfl (.inl rfl) (pe_ix (ixT K) (pv 0) pe_int (fun _ _ => rfl)))
      (pss_cons (ps_if (pt_cmpR op_eq (pv 2) pe_str (by rfl)) (pss_one (ps_ret (pe_callB (call_min2 rfl) (by rfl) T.z_min (by decide +kernel) (pa_cons (pe_ix (ixL K) (pv 1) pe_int (fun _ _ => rfl)) (pa_cons (pe_ix (ixL K) (pv 1) pe_int (fun _ _ => rfl)) pa_nil))))) pss_nil)
      (pss_cons (ps_if (pt_cmpR op_eq (pv 2) pe_str (by rfl)) (pss_one (ps_ret (pe_op op_add (pe_ix (ixL K) (pv 1) pe_int (fun _ _ => rfl)) (pe_ix (ixL K) (pv 1) pe_int (fun _ _ => rfl))))) pss_nil)
      (pss_cons (ps_if (pt_cmpR op_eq (pv 2) pe_str (by rfl)) (pss_one (ps_ret (pe_op op_mul (pe_ix (ixL K) (pv 1) pe_int (fun _ _ => rfl)) (pe_ix (ixL K) (pv 1) pe_int (fun _ _ => rfl))))) pss_nil)
      (pss_cons (ps_if (pt_cmpR op_eq (pv 2) pe_str (by rfl)) (pss_one (ps_ret (pe_callB (call_max2 rfl) (by rfl) T.z_max (by decide +kernel) (pa_cons pe_int (pa_cons (pe_ix (ixL K) (pv 1) pe_int (fun _ _ => rfl)) pa_nil))))) pss_nil)
      (pss_cons (ps_if (pt_cmpR op_eq (pv 2) pe_str (by rfl)) (pss_one (ps_ret (pe_callB (call_max2 rfl) (by rfl) T.z_max (by decide +kernel) (pa_cons pe_int (pa_cons (pe_op op_sub (pe_ix (ixL K) (pv 1) pe_int (fun _ _ => rfl)) pe_int) pa_nil))))) pss_nil)
      (pss_cons (ps_if (pt_cmpR op_gt (pe_ix (ixL K) (pv 1) pe_int (fun _ _ => rfl)) (pe_ix (ixT K) (pv 0) pe_int (fun _ _ => rfl)) (by rfl)) (pss_one (ps_ret (pe_gi T.g_MOST_LOW))) pss_nil)
      (pss_one (ps_ret (pe_callB (call_max2 rfl) (by rfl) T.z_max (by decide +kernel) (pa_cons (pe_ix (ixT K) (pv 0) pe_int (fun _ _ => rfl)) (pa_cons (pe_ix (ixL K) (pv 1) pe_int (fun _ _ => rfl)) pa_nil)))))))))))), ?_⟩)
  · obtain ⟨k, v, L, p, rfl, _⟩ := h
    rfl
  obtain ⟨k, v, L, p, rfl, hk, hp, hf, hb, q⟩ := h
  obtain ⟨a, us, rfl, ha, hs⟩ := hk.shape
  refine ⟨_, rfl, a, _, _, _, rfl, rfl, SqT.of ha, atI_nat (j := 0) rfl, ?_⟩
  -- word == "this"
  refine ⟨_, rfl, rfl, _, rfl, ite2 (fun c => ?_) (fun c1 => ?_)⟩
  · obtain ⟨x, y, rfl⟩ := kw_this (V.str.inj (of_decide_eq_true c))
    refine ⟨_, rfl, p, _, _, _, rfl, rfl, SqL.of hp, atI_nat (j := 0) rfl, _, rfl, p, _, _, _, rfl, rfl, SqL.of hp, atI_nat (j := 1) rfl, _, _, rfl, ?_⟩
    have e : (if ((low L y : Nat) : Int) < ((low L x : Nat) : Int) then ((low L y : Nat) : Int) else ((low L x : Nat) : Int)) = ((min (low L x) (low L y) : Nat) : Int) := by split <;> omega
    rw [e]
    exact q
  refine ⟨_, rfl, rfl, _, rfl, ite2 (fun c => ?_) (fun c2 => ?_)⟩
  · obtain ⟨x, y, rfl⟩ := kw_both (V.str.inj (of_decide_eq_true c))
    refine ⟨_, rfl, p, _, _, _, rfl, rfl, SqL.of hp, atI_nat (j := 0) rfl, _, rfl, p, _, _, _, rfl, rfl, SqL.of hp, atI_nat (j := 1) rfl, _, _, rfl, rfl, ?_⟩
    exact q
  refine ⟨_, rfl, rfl, _, rfl, ite2 (fun c => ?_) (fun c3 => ?_)⟩
  · obtain ⟨x, y, rfl⟩ := kw_in (V.str.inj (of_decide_eq_true c))
    have bx := hb x (by simp [kp])
    refine ⟨_, rfl, p, _, _, _, rfl, rfl, SqL.of hp, atI_nat (j := 0) rfl, _, rfl, p, _, _, _, rfl, rfl, SqL.of hp, atI_nat (j := 1) rfl, _, _, rfl, rfl, .inl ⟨by omega, by omega⟩, ?_⟩
    exact q
  refine ⟨_, rfl, rfl, _, rfl, ite2 (fun c => ?_) (fun c4 => ?_)⟩
  · obtain ⟨x, rfl⟩ := kw_point (V.str.inj (of_decide_eq_true c))
    refine ⟨_, rfl, p, _, _, _, rfl, rfl, SqL.of hp, atI_nat (j := 0) rfl, _, _, rfl, ?_⟩
    have e : (if ((low L x : Nat) : Int) > (1 : Int) then ((low L x : Nat) : Int) else (1 : Int)) = ((max 1 (low L x) : Nat) : Int) := by split <;> omega
    rw [e]
    exact q
  refine ⟨_, rfl, rfl, _, rfl, ite2 (fun c => ?_) (fun c5 => ?_)⟩
  · obtain ⟨x, rfl⟩ := kw_hole (V.str.inj (of_decide_eq_true c))
    refine ⟨_, rfl, p, _, _, _, rfl, rfl, SqL.of hp, atI_nat (j := 0) rfl, _, _, rfl, rfl, _, _, rfl, ?_⟩
    have e : (if ((low L x : Nat) : Int) - 1 > (0 : Int) then ((low L x : Nat) : Int) - 1 else (0 : Int)) = ((low L x - 1 : Nat) : Int) := by split <;> omega
    rw [e]
    exact q
  -- what is left
  have hsz : ∃ x m n, k = .sized x m n := by
    cases k with
    | sized x m n => exact ⟨x, m, n, rfl⟩
    | this x y => exact absurd rfl (fun e => c1 (by rw [strEq]; exact decide_eq_true e))
    | both x y => exact absurd rfl (fun e => c2 (by rw [strEq]; exact decide_eq_true e))
    | inn x y => exact absurd rfl (fun e => c3 (by rw [strEq]; exact decide_eq_true e))
    | point x => exact absurd rfl (fun e => c4 (by rw [strEq]; exact decide_eq_true e))
    | hole x => exact absurd rfl (fun e => c5 (by rw [strEq]; exact decide_eq_true e))
    | _ => simp [isPair, isOne] at hf
  obtain ⟨x, m, n, rfl⟩ := hsz
  match us, hs with
  | [u], hs =>
    refine ⟨_, rfl, p, _, _, _, rfl, rfl, SqL.of hp, atI_nat (j := 0) rfl, _, rfl, a, _, _, _, rfl, rfl, SqT.of ha, atI_nat (j := 3) rfl, _, _, rfl, rfl, _, rfl, ite2 (fun c => ?_) (fun c => ?_)⟩
    · have c' : ((n : Nat) : Int) < ((low L x : Nat) : Int) := of_decide_eq_true c
      have e : lowP L (.sized x m n) = 20 := if_pos (by omega)
      rw [e] at q
      exact q
    · have c' : ¬ ((n : Nat) : Int) < ((low L x : Nat) : Int) := of_decide_eq_false (Bool.eq_false_iff.mpr c)
      have e : lowP L (.sized x m n) = max (low L x) m := if_neg (by omega)
      rw [e] at q
      refine ⟨_, rfl, a, _, _, _, rfl, rfl, SqT.of ha, atI_nat (j := 2) rfl, _, rfl, p, _, _, _, rfl, rfl, SqL.of hp, atI_nat (j := 0) rfl, _, _, rfl, ?_⟩
      have e2 : (if ((low L x : Nat) : Int) > ((m : Nat) : Int) then ((low L x : Nat) : Int) else ((m : Nat) : Int)) = ((max (low L x) m : Nat) : Int) := by split <;> omega
      rw [e2]
      exact q
end
end KB
/-! # Walks 2: lows -/
namespace KB
open PySem PySem.Spec PyProof.Rows L2 KM
def nV (L : List Nat) : List V := L.map fun x => V.int (x : Nat)
theorem nV_at {L : List Nat} {i : Nat} (h : i < L.length) : atI (nV L) (i : Nat) = some (.int (L.getD i 0 : Nat)) := by
  refine atI_nat ?_
  unfold nV
  rw [List.getElem?_map, List.getElem?_eq_getElem h, getD_of_lt h] <;> rfl
theorem range_getD {α β : Type} (g : α → β) (d : α) : ∀ ks : List α, (List.range ks.length).map (fun i => g (ks.getD i d)) = ks.map g
  | [] => rfl
  | k :: ks => by
    rw [List.length_cons, List.range_succ_eq_map, List.map_cons, List.map_map, List.map_cons]
    have ih := range_getD g d ks
    rw [← ih]
    rfl
theorem kp_wf : ∀ {k : Kd} {m : Nat}, wf m k → ∀ x ∈ kp k, wf m x := by
  intro k m h x hx
  cases k <;> simp only [kp, List.mem_cons, List.mem_singleton, List.not_mem_nil, or_false] at hx
  · rcases hx with rfl | rfl
    · exact h.1
    · exact h.2
  · rcases hx with rfl | rfl
    · exact h.1
    · exact h.2
  · rcases hx with rfl | rfl
    · exact h.1
    · exact h.2
  · subst hx; exact h
  · subst hx
    cases x <;> simp [wf, plainK] at h <;> trivial
  · subst hx; exact h.1
theorem kp_dep {k : Kd} : ∀ x ∈ kp k, dep x < dep k := by
  intro x hx
  cases k <;> simp only [kp, List.mem_cons, List.mem_singleton, List.not_mem_nil, or_false] at hx <;> simp only [dep]
  · rcases hx with rfl | rfl <;> omega
  · rcases hx with rfl | rfl <;> omega
  · rcases hx with rfl | rfl <;> omega
  · subst hx; omega
  · subst hx; omega
  · subst hx; omega
theorem getD_mem {α : Type} {l : List α} {i : Nat} {d : α} (h : i < l.length) : l.getD i d ∈ l := by
  rw [getD_of_lt h]
  exact List.getElem_mem h
theorem lowP_eq {L : List Nat} {k : Kd} {m : Nat} (h : isPair k = true ∨ isOne k = true) (h20 : ∀ i : Nat, L.getD i 0 ≤ 20) (w : wf m k) : min 20 (lowP L k) = low L k := by
  have b := low_le h20 w
  cases k <;> simp only [isPair, isOne, Bool.false_eq_true, or_self] at h <;> simp only [lowP, low] at b ⊢ <;> omega
def bareLow : Kd → Option Nat
  | .void => some 20 | .unit => some 0 | .one => some 1 | .set => some 0 | .row => some 0 | .round => some 1 | _ => none
theorem bareLow_low {L : List Nat} {k : Kd} {n : Nat} (h : bareLow k = some n) : low L k = n := by cases k <;> simp [bareLow] at h <;> simp [low, h]
theorem bareLow_none {k : Kd} (h : bareLow k = none) (h2 : ∀ i, k ≠ .rule i) : isPair k = true ∨ isOne k = true := by
  cases k <;> simp [bareLow] at h <;> simp [isPair, isOne]
  exact absurd rfl (h2 _)
theorem Txt.low {w : World} {K : PySem.W.Frag} {mg : Str → Option Value} (T : Txt w K mg) : ∀ k : Kd, (∃ n u, bareLow k = some n ∧ PySem.W.nsIn K (He.ga K "BARE_LOWS") (kw k) = some (some u) ∧ RelV (.int (n : Nat)) u) ∨ (bareLow k = none ∧ PySem.W.nsIn K (He.ga K "BARE_LOWS") (kw k) = some none)
  | .void => by obtain ⟨u, h1, h2⟩ := T.bare (z := "void") (n := 20) (by simp [KH.bareVals]); exact .inl ⟨20, u, rfl, h1, h2⟩
  | .unit => by obtain ⟨u, h1, h2⟩ := T.bare (z := "unit") (n := 0) (by simp [KH.bareVals]); exact .inl ⟨0, u, rfl, h1, h2⟩
  | .one => by obtain ⟨u, h1, h2⟩ := T.bare (z := "one") (n := 1) (by simp [KH.bareVals]); exact .inl ⟨1, u, rfl, h1, h2⟩
  | .set => by obtain ⟨u, h1, h2⟩ := T.bare (z := "set") (n := 0) (by simp [KH.bareVals]); exact .inl ⟨0, u, rfl, h1, h2⟩
  | .row => by obtain ⟨u, h1, h2⟩ := T.bare (z := "row") (n := 0) (by simp [KH.bareVals]); exact .inl ⟨0, u, rfl, h1, h2⟩
  | .round => by obtain ⟨u, h1, h2⟩ := T.bare (z := "round") (n := 1) (by simp [KH.bareVals]); exact .inl ⟨1, u, rfl, h1, h2⟩
  | .rule i => .inr ⟨rfl, T.noBare (by simp [kw])⟩
  | .this x y => .inr ⟨rfl, T.noBare (by simp [kw])⟩
  | .both x y => .inr ⟨rfl, T.noBare (by simp [kw])⟩
  | .inn x y => .inr ⟨rfl, T.noBare (by simp [kw])⟩
  | .point x => .inr ⟨rfl, T.noBare (by simp [kw])⟩
  | .hole x => .inr ⟨rfl, T.noBare (by simp [kw])⟩
  | .sized x a b => .inr ⟨rfl, T.noBare (by simp [kw])⟩
section
variable {P : Program} {w : World} {K : PySem.W.Frag} {mg : Str → Option Value} {base : Heap}
/-! ### low_of -/
theorem sc_low_of : FnScope ["lows", "kind", "one"] ["lows", "kind"] (defScope KH.s_low_of) := ⟨rfl, rfl, rfl, by decide +kernel, rfl, by decide +kernel, by decide +kernel⟩
def LowsAt (H : Hp) (L : List Nat) (v : V) : Prop := (∃ p, v = .ref p ∧ H p = some (.tup (nV L))) ∧ ∀ i : Nat, L.getD i 0 ≤ 20
theorem LowsAt.sm {H H' : Hp} {L : List Nat} {v : V} (s : Same H H') (h : LowsAt H L v) : LowsAt H' L v := by
  obtain ⟨⟨p, e, hp⟩, r⟩ := h
  exact ⟨⟨p, e, s _ _ hp⟩, r⟩
def sp_low_of (n : Nat) : Sp := fun vs H Q _ => ∃ (L : List Nat) (k : Kd) (l v : V), vs = [l, v] ∧ LowsAt H L l ∧ KAt H k v ∧ wf L.length k ∧ dep k < n ∧ ∀ H', Same H H' → Q (.int (low L k : Nat)) H'
theorem ok_low_of (T : Txt w K mg) (F_inner_kinds : Prm P w K mg base CX0 1 "inner_kinds" ["kind"] sp_inner_kinds) (F_by_parts : Prm P w K mg base CX0 1 "by_parts" ["kind", "inner"] sp_by_parts) :
    ∀ n, Prm P w K mg base CX0 (n + 2) "low_of" ["lows", "kind"] (sp_low_of n)
  | 0 => T.d_low_of.never fun vs H Q E h => by
    obtain ⟨L, k, l, v, _, _, _, _, h, _⟩ := h
    omega
  | n + 1 => by
    have F_low_of := ok_low_of T F_inner_kinds F_by_parts n
    refine T.d_low_of.ok sc_low_of (fun vs H Q E h => ?_) (fun f cdv A outer s H vs Q E hr h => ⟨_, (pss_cons (ps_if (pt_cmpR op_eq (pe_ix (ixT K) (pv 1) pe_int (fun _ _ => rfl)) pe_str (by rfl)) (pss_one (ps_ret (pe_ix (ixT K) (pv 0) (pe_ix (ixT K) (pv 1) pe_int (fun _ _ => rfl)) (fun _ _ => rfl)))) pss_nil)
      (pss_cons (ps_if (pt_cmpR (op_in_z T.t) (pe_ix (ixT K) (pv 1) pe_int (fun _ _ => rfl)) (pe_gr T.g_BARE_LOWS) (by rfl)) (pss_one (ps_ret (pe_ix (ix_z T.t) (pe_gr T.g_BARE_LOWS) (pe_ix (ixT K) (pv 1) pe_int (fun _ _ => rfl)) (fun _ _ => rfl)))) pss_nil)
      (pss_one (ps_ret (pe_callB (call_min2 rfl) (by rfl) T.z_min (by decide +kernel) (pa_cons (pe_gi T.g_MOST_LOW) (pa_cons (pcl F_by_parts (hr.mono (by omega)) (pa_cons (pv 1) (pa_cons (pe_lc (own := [("one", 2)]) (g := gName 2) (by rfl) sc_low_of.nd (piL K (hl := (pcl F_inner_kinds (hr.mono (by omega)) (pa_cons (pv 1) pa_nil)))) (blkOk_by (by kernel_rfl)) (fun _ _ _ _ _ => pg_name (i := 2) sc_low_of.nd rfl (Or.inl rfl)) (fun _ _ _ _ _ => pts_nil) (fun _ _ _ _ _ => (pcl F_low_of (hr.mono (by omega)) (pa_cons (pv 0) (pa_cons (pv 2) pa_nil))))) pa_nil))) pa_nil))))))), ?_⟩)
    · obtain ⟨L, k, l, v, rfl, _⟩ := h
      rfl
    obtain ⟨L, k, l, v, rfl, hL, hk, hw, hd, q⟩ := h
    obtain ⟨⟨p, rfl, hp⟩, h20⟩ := id hL
    obtain ⟨a, us, rfl, ha, hs⟩ := hk.shape
    refine ⟨_, rfl, a, _, _, _, rfl, rfl, SqT.of ha, atI_nat (j := 0) rfl, rfl, _, rfl, ite2 (fun c => ?_) (fun c => ?_)⟩
    · obtain ⟨i, rfl⟩ := kw_rule (V.str.inj (of_decide_eq_true c))
      match us, hs with
      | [], _ => exact ⟨_, rfl, _, rfl, a, _, _, _, rfl, rfl, SqT.of ha, atI_nat (j := 1) rfl, p, _, _, _, rfl, rfl, SqT.of hp, nV_at hw, q H (Same.refl H)⟩
    have nr : ∀ i, k ≠ .rule i := fun i e => c (by rw [strEq, e]; exact decide_eq_true rfl)
    rcases T.low k with ⟨n0, u, e1, e2, e3⟩ | ⟨e1, e2⟩
    · refine ⟨_, rfl, a, _, _, _, rfl, rfl, SqT.of ha, atI_nat (j := 0) rfl, _, _, rfl, rfl, e2, _, rfl, iteT ?_⟩
      refine ⟨_, rfl, a, _, _, _, rfl, rfl, SqT.of ha, atI_nat (j := 0) rfl, _, _, _, rfl, rfl, e2, e3, ?_⟩
      have z := q H (Same.refl H)
      rw [bareLow_low e1] at z
      exact z
    · refine ⟨_, rfl, a, _, _, _, rfl, rfl, SqT.of ha, atI_nat (j := 0) rfl, _, _, rfl, rfl, e2, _, rfl, iteF ?_⟩
      have hf := bareLow_none e1 nr
      refine ⟨_, rfl, _, rfl, k, _, rfl, hk, fun H1 li us1 s1 nl hl hks => ⟨li, rfl, ⟨_, SqL.of hl⟩, fun D hD => ?_⟩⟩
      have hlen : us1.length = (kp k).length := hks.len
      have hfew : (kp k).length ≤ 2 := by cases k <;> simp [kp]
      refine pc_list (fun i => some (V.int (low L ((kp k).getD i .void) : Nat))) hD (SqL.of hl) (by omega) (fun _ => rfl) (fun i x H2 hx s2 => turn_yes fun Y hY => ?_) (fun H2 s2 e => ?_)
      · obtain ⟨hi, kx⟩ := hks.get hx
        have mem := getD_mem (d := Kd.void) hi
        exact ⟨_, rfl, _, rfl, L, _, _, x, rfl, hL.sm (s1.trans s2), kx.tk (TK.of s2), kp_wf hw _ mem, by have := kp_dep _ mem; omega, hY⟩
      · rw [fm_map, hlen, range_getD (fun x => V.int (low L x : Nat)) .void] at e
        refine ⟨k, _, L, D, rfl, hk.tk (TK.of (s1.trans s2)), e, hf, fun x hx => low_le h20 (kp_wf hw x hx), _, _, rfl, ?_⟩
        have z := lowP_eq hf h20 hw
        have e : (if ((lowP L k : Nat) : Int) < (20 : Int) then ((lowP L k : Nat) : Int) else (20 : Int)) = ((low L k : Nat) : Int) := by split <;> omega
        rw [e]
        exact q _ (s1.trans s2)
end
end KB
/-! # Walks 3: needs -/
namespace KB
open PySem PySem.Spec PyProof.Rows L2 KM
def isA : Kd → Bool
  | .this _ _ => true | .point _ => true | .sized _ _ _ => true | _ => false
def isB : Kd → Bool
  | .both _ _ => true | .inn _ _ => true | _ => false
theorem in_A (k : Kd) : inV (.str (kw k)) [.str "this", .str "point", .str "sized"] = isA k := by cases k <;> simp only [kw, isA] <;> decide +kernel
theorem in_B (k : Kd) : inV (.str (kw k)) [.str "both", .str "in"] = isB k := by cases k <;> simp only [kw, isB] <;> decide +kernel
theorem needs_A {L : List Nat} {k : Kd} (h : isA k = true) : needs L k = (kp k).flatMap (needs L) := by cases k <;> simp [isA] at h <;> simp [needs, kp]
theorem isAB {k : Kd} (h : isA k = true) : isB k = false := by cases k <;> simp [isA] at h <;> rfl
def cX (L : List Nat) (k x y : Kd) : Prop := low L y = 0 ∨ (kw k = "in" ∧ (low L y = 1 ∨ low L x = 0))
def cY (L : List Nat) (k x y : Kd) : Prop := low L x = 0 ∨ (kw k = "in" ∧ low L x = 1)
instance {L : List Nat} {k x y : Kd} : Decidable (cX L k x y) := inferInstanceAs (Decidable (_ ∨ _))
instance {L : List Nat} {k x y : Kd} : Decidable (cY L k x y) := inferInstanceAs (Decidable (_ ∨ _))
theorem ite_iff {α : Type} {p q : Prop} [Decidable p] [Decidable q] {a b : α} (h : p ↔ q) : (if p then a else b) = if q then a else b := by
  by_cases c : p
  · rw [if_pos c, if_pos (h.mp c)]
  · rw [if_neg c, if_neg (fun z => c (h.mpr z))]
theorem needs_B {L : List Nat} {k : Kd} (h : isB k = true) : ∃ x y, kp k = [x, y] ∧ km k = [] ∧ needs L k = (if cX L k x y then needs L x else []) ++ (if cY L k x y then needs L y else []) := by
  cases k <;> simp [isB] at h
  · rename_i x y
    refine ⟨x, y, rfl, rfl, ?_⟩
    have no : ¬ kw (.both x y) = "in" := by simp only [kw]; decide +kernel
    simp only [needs]
    rw [ite_iff (show cX L (.both x y) x y ↔ low L y = 0 from ⟨fun z => z.elim id fun z => absurd z.1 no, .inl⟩), ite_iff (show cY L (.both x y) x y ↔ low L x = 0 from ⟨fun z => z.elim id fun z => absurd z.1 no, .inl⟩)]
  · rename_i x y
    refine ⟨x, y, rfl, rfl, ?_⟩
    have yes : kw (.inn x y) = "in" := rfl
    simp only [needs]
    rw [ite_iff (show cX L (.inn x y) x y ↔ low L y < 2 ∨ low L x = 0 from ⟨fun z => by rcases z with z | ⟨_, z⟩ <;> omega, fun z => by
        by_cases c : low L y = 0
        · exact .inl c
        · exact .inr ⟨yes, by omega⟩⟩), ite_iff (show cY L (.inn x y) x y ↔ low L x < 2 from ⟨fun z => by rcases z with z | ⟨_, z⟩ <;> omega, fun z => by
        by_cases c : low L x = 0
        · exact .inl c
        · exact .inr ⟨yes, by omega⟩⟩)]
theorem needs_C {L : List Nat} {k : Kd} (h : isA k = false) (h2 : isB k = false) (h3 : ∀ i, k ≠ .rule i) : needs L k = [] := by
  cases k <;> simp [isA] at h <;> simp [isB] at h2 <;> first | rfl | exact absurd rfl (h3 _)
theorem needs_len {L : List Nat} : ∀ k : Kd, (needs L k).length ≤ 2 ^ dep k := by
  intro k
  have mono : ∀ {a b : Nat}, a ≤ b → 2 ^ a ≤ 2 ^ b := fun h => Nat.pow_le_pow_right (by decide) h
  have two : ∀ (x y : Kd) (l1 l2 : List Nat), l1.length ≤ 2 ^ dep x → l2.length ≤ 2 ^ dep y → (l1 ++ l2).length ≤ 2 ^ (max (dep x) (dep y) + 1) := fun x y l1 l2 h1 h2 => by
    have a := mono (show dep x ≤ max (dep x) (dep y) by omega)
    have b := mono (show dep y ≤ max (dep x) (dep y) by omega)
    rw [Nat.pow_succ, List.length_append]
    omega
  have sub : ∀ (p : Prop) [Decidable p] (l : List Nat) (n : Nat), l.length ≤ n → (if p then l else []).length ≤ n := fun p _ l n h => by
    by_cases c : p
    · rw [if_pos c]; exact h
    · rw [if_neg c]; exact Nat.zero_le _
  induction k with
  | this x y hx hy => exact two x y _ _ hx hy
  | both x y hx hy => exact two x y _ _ (sub _ _ _ hx) (sub _ _ _ hy)
  | inn x y hx hy => exact two x y _ _ (sub _ _ _ hx) (sub _ _ _ hy)
  | point x hx => exact Nat.le_trans hx (mono (by simp only [dep]; omega))
  | sized x m n hx => exact Nat.le_trans hx (mono (by simp only [dep]; omega))
  | rule i => exact (by decide : 1 ≤ 2 ^ 0)
  | _ => exact Nat.zero_le _
theorem few_of {L : List Nat} {k : Kd} (h : dep k ≤ 8) : (needs L k).length ≤ 256 := by
  have a := needs_len (L := L) k
  have b : 2 ^ dep k ≤ 2 ^ 8 := Nat.pow_le_pow_right (by decide) h
  omega
theorem nV_len (L : List Nat) : (nV L).length = L.length := List.length_map _
theorem nV_app (L M : List Nat) : nV (L ++ M) = nV L ++ nV M := List.map_append
section
variable {P : Program} {w : World} {K : PySem.W.Frag} {mg : Str → Option Value} {base : Heap}
/-! ### needed -/
theorem sc_needed : FnScope ["lows", "kind", "word", "found", "one", "first", "second"] ["lows", "kind"] (defScope KH.s_needed) := ⟨rfl, rfl, rfl, by decide +kernel, rfl, by decide +kernel, by decide +kernel⟩
def sp_needed (n : Nat) : Sp := fun vs H Q _ => ∃ (L : List Nat) (k : Kd) (l v : V), vs = [l, v] ∧ LowsAt H L l ∧ KAt H k v ∧ wf L.length k ∧ dep k < n ∧ dep k ≤ 8 ∧
  ∀ (H' : Hp) (p : Addr), Same H H' → H p = none → H' p = some (.lst (nV (needs L k))) → Q (.ref p) H'
theorem ok_needed (T : Txt w K mg) (F_inner_kinds : Prm P w K mg base CX0 1 "inner_kinds" ["kind"] sp_inner_kinds) (FL : ∀ n, Prm P w K mg base CX0 (n + 2) "low_of" ["lows", "kind"] (sp_low_of n)) :
    ∀ n, Prm P w K mg base CX0 (n + 4) "needed" ["lows", "kind"] (sp_needed n)
  | 0 => T.d_needed.never fun vs H Q E h => by
    obtain ⟨L, k, l, v, _, _, _, _, h, _⟩ := h
    omega
  | n + 1 => by
    have F_needed := ok_needed T F_inner_kinds FL n
    have F_low_of := FL n
    refine T.d_needed.ok sc_needed (fun vs H Q E h => ?_) (fun f cdv A outer s H vs Q E hr h => ⟨_, (pss_cons (ps_set (i := 2) sc_needed.nd rfl (.inl rfl) (pe_ix (ixT K) (pv 1) pe_int (fun _ _ => rfl)))
      (pss_cons (ps_if (pt_cmpR op_eq (pv 2) pe_str (by rfl)) (pss_one (ps_ret (pe_lst (pa_cons (pe_ix (ixT K) (pv 1) pe_int (fun _ _ => rfl)) pa_nil)))) pss_nil)
      (pss_cons (ps_set (i := 3) sc_needed.nd rfl (.inl rfl) (pe_lst pa_nil))
      (pss_mid (ps_if (pt_cmpR (inQ K) (pv 2) (pe_tup (pa_cons pe_str (pa_cons pe_str (pa_cons pe_str pa_nil)))) (by rfl)) (pss_one (ps_for PassesOwn.never rfl (piL K (hl := (pcl F_inner_kinds (hr.mono (by omega)) (pa_cons (pv 1) pa_nil)))) (pg_name (i := 4) sc_needed.nd rfl (Or.inl rfl)) (pss_one (ps_expr (pe_bm PySem.F.plainAttrs_list PySem.F.slot_list_extend PySem.F.type_list_extend mt_extend (pv 3) (pa_cons (pcl F_needed (hr.mono (by omega)) (pa_cons (pv 0) (pa_cons (pv 4) pa_nil))) pa_nil)))))) pss_nil)
      (pss_mid (ps_if (pt_cmpR (inQ K) (pv 2) (pe_tup (pa_cons pe_str (pa_cons pe_str pa_nil))) (by rfl)) (pss_cons (ps_set (i := 5) sc_needed.nd rfl (.inl rfl) (pcl F_low_of (hr.mono (by omega)) (pa_cons (pv 0) (pa_cons (pe_ix (ixT K) (pv 1) pe_int (fun _ _ => rfl)) pa_nil))))
      (pss_cons (ps_set (i := 6) sc_needed.nd rfl (.inl rfl) (pcl F_low_of (hr.mono (by omega)) (pa_cons (pv 0) (pa_cons (pe_ix (ixT K) (pv 1) pe_int (fun _ _ => rfl)) pa_nil))))
      (pss_mid (ps_if (pt_mid (PW.pt (pw_or (pt_cmpR op_eq (pv 6) pe_int (by rfl)) (pw_or1 (PW.pt (pw_and (pt_cmpR op_eq (pv 2) pe_str (by rfl)) (pw_and1 (PW.pt (pw_or (pt_cmpR op_eq (pv 6) pe_int (by rfl)) (pw_or1 (pt_cmpR op_eq (pv 5) pe_int (by rfl)))))))))))) (pss_one (ps_expr (pe_bm PySem.F.plainAttrs_list PySem.F.slot_list_extend PySem.F.type_list_extend mt_extend (pv 3) (pa_cons (pcl F_needed (hr.mono (by omega)) (pa_cons (pv 0) (pa_cons (pe_ix (ixT K) (pv 1) pe_int (fun _ _ => rfl)) pa_nil))) pa_nil)))) pss_nil)
      (pss_one (ps_if (pt_mid (PW.pt (pw_or (pt_cmpR op_eq (pv 5) pe_int (by rfl)) (pw_or1 (PW.pt (pw_and (pt_cmpR op_eq (pv 2) pe_str (by rfl)) (pw_and1 (pt_cmpR op_eq (pv 5) pe_int (by rfl))))))))) (pss_one (ps_expr (pe_bm PySem.F.plainAttrs_list PySem.F.slot_list_extend PySem.F.type_list_extend mt_extend (pv 3) (pa_cons (pcl F_needed (hr.mono (by omega)) (pa_cons (pv 0) (pa_cons (pe_ix (ixT K) (pv 1) pe_int (fun _ _ => rfl)) pa_nil))) pa_nil)))) pss_nil))))) pss_nil)
      (pss_one (ps_ret (pv 3)))))))), ?_⟩)
    · obtain ⟨L, k, l, v, rfl, _⟩ := h
      rfl
    obtain ⟨L, k, l, v, rfl, hL, hk, hw, hd, h8, q⟩ := h
    obtain ⟨⟨pl, rfl, hpl⟩, h20⟩ := id hL
    obtain ⟨a, us, rfl, ha, hs⟩ := hk.shape
    refine ⟨_, rfl, a, _, _, _, rfl, rfl, SqT.of ha, atI_nat (j := 0) rfl, _, rfl, rfl, _, rfl, ite2 (fun c => ?_) (fun c => ?_)⟩
    · obtain ⟨i, rfl⟩ := kw_rule (V.str.inj (of_decide_eq_true c))
      match us, hs with
      | [], _ => exact ⟨_, rfl, a, _, _, _, rfl, rfl, SqT.of ha, atI_nat (j := 1) rfl, (by show 1 ≤ sizeLine; decide), fun p hp => q _ p (same_new hp _) hp upd_same⟩
    have nr : ∀ i, k ≠ .rule i := fun i e => c (by rw [strEq, e]; exact decide_eq_true rfl)
    refine ⟨Nat.zero_le _, fun pf nf => ?_⟩
    have sf := same_new nf (.lst [])
    have hf : upd H pf (.lst []) pf = some (.lst []) := upd_same
    generalize upd H pf (.lst []) = H0 at *
    refine ⟨fun σ' H' => ∃ o : Option V, σ' = [some (.ref pl), some (.ref a), some (.str (kw k)), some (.ref pf), o, none, none] ∧ Same H H' ∧ H' pf = some (.lst (nV (if isA k = true then needs L k else []))), ?_, ?_⟩
    · refine ⟨_, rfl, (by show 3 ≤ sizeLine; decide), fun t ht => ⟨t, _, rfl, .inr (SqT.of upd_same), rfl, rfl, _, rfl, ?_⟩⟩
      have st := same_new ht (.tup [.str "this", .str "point", .str "sized"])
      refine ite2 (fun c => ?_) (fun c => ?_)
      · have c' : isA k = true := (in_A k).symm.trans c
        refine ⟨_, rfl, k, _, rfl, hk.tk (TK.of (sf.trans st)), fun H1 li us1 s1 nl hl hks => ⟨li, rfl, ⟨_, SqL.of hl⟩, ?_⟩⟩
        have s01 : Same H0 H1 := st.trans s1
        have hf1 := s01 _ _ hf
        have nlf : li ≠ pf := fun e => by
          rw [e, st _ _ hf] at nl
          cases nl
        refine for_list (xs := us1) (fun i σ' H2 => ∃ o : Option V, σ' = [some (.ref pl), some (.ref a), some (.str (kw k)), some (.ref pf), o, none, none] ∧ SB pf H1 H2 ∧ H2 pf = some (.lst (nV (((kp k).take i).flatMap (needs L)))))
          ⟨none, rfl, SB.refl _ _, hf1⟩ (fun i σ' H2 _ ⟨_, _, sb, _⟩ => SqL.of (sb _ _ nlf hl)) ?_ ?_
        · rintro i x σ' H2 hx ⟨o, rfl, sb, hf2⟩
          obtain ⟨hi, kx⟩ := hks.get hx
          have mem := getD_mem (d := Kd.void) hi
          have dk := kp_dep _ mem
          have sm2 : Same H H2 := fun b o z => sb b o (ne_of_none z nf) (s01 _ _ (sf _ _ z))
          refine ⟨_, rfl, .inl ⟨rfl, _, SqL.of hf2⟩, _, rfl, _, rfl, L, (kp k).getD i .void, _, x, rfl, hL.sm sm2, kx.tk (sb.tk hf1), kp_wf hw _ mem, by omega, by omega, fun H3 p s3 np hp => ?_⟩
          have f1 := few_of (L := L) (k := (kp k).getD i .void) (by omega)
          have f0 : (((kp k).take i).flatMap (needs L)).length ≤ 256 := by
            have e := congrArg List.length (needs_A (L := L) c')
            have g := few_of (L := L) h8
            have z : (kp k).flatMap (needs L) = ((kp k).take i).flatMap (needs L) ++ ((kp k).drop i).flatMap (needs L) := by rw [← List.flatMap_append, List.take_append_drop]
            rw [z, List.length_append] at e
            omega
          refine ⟨pf, p, _, _, rfl, rfl, s3 _ _ hf2, hp, small (by rw [nV_len, nV_len]; omega), some x, rfl, sb.trans ((SB.of s3).trans SB.upd), ?_⟩
          rw [upd_same, List.take_add_one, List.getElem?_eq_getElem hi, List.flatMap_append, nV_app, getD_of_lt hi]
          simp
        · rintro σ' H2 ⟨o, rfl, sb, hf2⟩
          refine ⟨o, rfl, fun b o z => sb b o (ne_of_none z nf) (s01 _ _ (sf _ _ z)), ?_⟩
          rw [hf2, if_pos c', needs_A c', hks.len, List.take_length]
      · have c' : isA k = false := (in_A k).symm.trans (Bool.eq_false_iff.mpr c)
        refine ⟨none, rfl, sf.trans st, ?_⟩
        rw [st _ _ hf, if_neg (by rw [c']; exact Bool.false_ne_true)] <;> rfl
    · rintro σ' H1 ⟨o, rfl, sm1, hf1⟩
      refine ⟨fun σ' H' => ∃ o o1 o2 : Option V, σ' = [some (.ref pl), some (.ref a), some (.str (kw k)), some (.ref pf), o, o1, o2] ∧ Same H H' ∧ H' pf = some (.lst (nV (needs L k))), ?_, ?_⟩
      · refine ⟨_, rfl, (by show 2 ≤ sizeLine; decide), fun t ht => ⟨t, _, rfl, .inr (SqT.of upd_same), rfl, rfl, _, rfl, ?_⟩⟩
        have st := same_new ht (.tup [.str "both", .str "in"])
        refine ite2 (fun c => ?_) (fun c => ?_)
        · have c' : isB k = true := (in_B k).symm.trans c
          have cA : isA k = false := by
            cases z : isA k with
            | false => rfl
            | true => rw [isAB z] at c'; cases c'
          obtain ⟨x, y, ek, em, en⟩ := needs_B (L := L) c'
          rw [ek] at hs
          rw [em, List.append_nil] at ha
          match us, hs with
          | [vx, vy], ⟨kx, ky, _⟩ =>
          have sm2 := sm1.trans st
          have ha2 := sm2 _ _ ha
          have hf2 : upd H1 t (.tup [.str "both", .str "in"]) pf = some (.lst (nV [])) := by
            rw [st _ _ hf1, if_neg (by rw [cA]; exact Bool.false_ne_true)]
          generalize upd H1 t (.tup [.str "both", .str "in"]) = H2 at *
          have mx : x ∈ kp k := by rw [ek]; simp
          have my : y ∈ kp k := by rw [ek]; simp
          have wx := kp_wf hw x mx
          have wy := kp_wf hw y my
          have dx := kp_dep x mx
          have dy := kp_dep y my
          -- first, second
          refine ⟨_, rfl, _, rfl, a, _, _, _, rfl, rfl, SqT.of ha2, atI_nat (j := 1) rfl, L, x, _, vx, rfl, hL.sm sm2, kx.tk (TK.of sm2), wx, by omega, fun H3 s3 => ?_⟩
          refine ⟨_, rfl, _, rfl, a, _, _, _, rfl, rfl, SqT.of (s3 _ _ ha2), atI_nat (j := 2) rfl, L, y, _, vy, rfl, hL.sm (sm2.trans s3), ky.tk (TK.of (sm2.trans s3)), wy, by omega, fun H4 s4 => ?_⟩
          have sm4 := sm2.trans (s3.trans s4)
          have hf4 := (s3.trans s4) _ _ hf2
          have ha4 := (s3.trans s4) _ _ ha2
          -- if second == 0 or ..
          refine ⟨fun σ' H' => σ' = [some (.ref pl), some (.ref a), some (.str (kw k)), some (.ref pf), o, some (.int (low L x : Nat)), some (.int (low L y : Nat))] ∧ Same H H' ∧ H' pf = some (.lst (nV (if cX L k x y then needs L x else []))), ?_, ?_⟩
          · refine ⟨fun b H' => H' = H4 ∧ b = decide (cX L k x y), ?_, ?_⟩
            · refine ⟨_, rfl, rfl, _, rfl, ite2 (fun d => ⟨rfl, ?_⟩) (fun d => ?_)⟩
              · rw [intEq, decide_eq_true_eq] at d
                exact (decide_eq_true (.inl (by omega))).symm
              · have d0 : ¬ low L y = 0 := fun z => d (by rw [z]; exact decide_eq_true rfl)
                refine ⟨_, rfl, rfl, _, rfl, ite2 (fun e => ?_) (fun e => ⟨rfl, ?_⟩)⟩
                · have e0 : kw k = "in" := V.str.inj (of_decide_eq_true e)
                  refine ⟨_, rfl, rfl, _, rfl, ite2 (fun g => ⟨rfl, ?_⟩) (fun g => ⟨_, rfl, rfl, _, rfl, rfl, ?_⟩)⟩
                  · rw [intEq, decide_eq_true_eq] at g
                    exact (decide_eq_true (.inr ⟨e0, .inl (by omega)⟩)).symm
                  · have g0 : ¬ low L y = 1 := fun z => g (by rw [z]; exact decide_eq_true rfl)
                    rw [intEq]
                    by_cases j : low L x = 0
                    · rw [decide_eq_true (show ((low L x : Nat) : Int) = 0 by omega), decide_eq_true (show cX L k x y from .inr ⟨e0, .inr j⟩)]
                    · rw [decide_eq_false (show ¬ ((low L x : Nat) : Int) = 0 by omega), decide_eq_false (show ¬ cX L k x y from fun z => z.elim d0 fun z => z.2.elim g0 j)]
                · have e0 : ¬ kw k = "in" := fun z => e (by rw [strEq]; exact decide_eq_true z)
                  exact (decide_eq_false fun z => z.elim d0 fun z => e0 z.1).symm
            · rintro b H' ⟨rfl, rfl⟩
              refine ite2 (fun d => ?_) (fun d => ?_)
              · have d' : cX L k x y := of_decide_eq_true d
                refine ⟨_, rfl, .inl ⟨rfl, _, SqL.of hf4⟩, _, rfl, _, rfl, a, _, _, _, rfl, rfl, SqT.of ha4, atI_nat (j := 1) rfl, L, x, _, vx, rfl, hL.sm sm4, kx.tk (TK.of sm4), wx, by omega, by omega, fun H5 p s5 np hp => ?_⟩
                have fx := few_of (L := L) (k := x) (by omega)
                refine ⟨pf, p, _, _, rfl, rfl, s5 _ _ hf4, hp, small (by rw [nV_len, nV_len]; simp; omega), rfl, Same.wr (sm4.trans s5) nf, ?_⟩
                rw [upd_same, if_pos d'] <;> rfl
              · have d' : ¬ cX L k x y := of_decide_eq_false (Bool.eq_false_iff.mpr d)
                refine ⟨rfl, sm4, ?_⟩
                rw [hf4, if_neg d']
          · rintro σ' H5 ⟨rfl, sm5, hf5⟩
            have ha5 := sm5 _ _ ha
            refine ⟨fun b H' => H' = H5 ∧ b = decide (cY L k x y), ?_, ?_⟩
            · refine ⟨_, rfl, rfl, _, rfl, ite2 (fun d => ⟨rfl, ?_⟩) (fun d => ?_)⟩
              · rw [intEq, decide_eq_true_eq] at d
                exact (decide_eq_true (.inl (by omega))).symm
              · have d0 : ¬ low L x = 0 := fun z => d (by rw [z]; exact decide_eq_true rfl)
                refine ⟨_, rfl, rfl, _, rfl, ite2 (fun e => ?_) (fun e => ⟨rfl, ?_⟩)⟩
                · have e0 : kw k = "in" := V.str.inj (of_decide_eq_true e)
                  refine ⟨_, rfl, rfl, _, rfl, rfl, ?_⟩
                  rw [intEq]
                  by_cases j : low L x = 1
                  · rw [decide_eq_true (show ((low L x : Nat) : Int) = 1 by omega), decide_eq_true (show cY L k x y from .inr ⟨e0, j⟩)]
                  · rw [decide_eq_false (show ¬ ((low L x : Nat) : Int) = 1 by omega), decide_eq_false (show ¬ cY L k x y from fun z => z.elim d0 fun z => j z.2)]
                · have e0 : ¬ kw k = "in" := fun z => e (by rw [strEq]; exact decide_eq_true z)
                  exact (decide_eq_false fun z => z.elim d0 fun z => e0 z.1).symm
            · rintro b H' ⟨rfl, rfl⟩
              refine ite2 (fun d => ?_) (fun d => ?_)
              · have d' : cY L k x y := of_decide_eq_true d
                refine ⟨_, rfl, .inl ⟨rfl, _, SqL.of hf5⟩, _, rfl, _, rfl, a, _, _, _, rfl, rfl, SqT.of ha5, atI_nat (j := 2) rfl, L, y, _, vy, rfl, hL.sm sm5, ky.tk (TK.of sm5), wy, by omega, by omega, fun H6 p s6 np hp => ?_⟩
                have fx := few_of (L := L) (k := x) (by omega)
                have fy := few_of (L := L) (k := y) (by omega)
                have fz : (if cX L k x y then needs L x else []).length ≤ 256 := by
                  by_cases z : cX L k x y
                  · rw [if_pos z]; exact fx
                  · rw [if_neg z]; exact Nat.zero_le _
                refine ⟨pf, p, _, _, rfl, rfl, s6 _ _ hf5, hp, small (by rw [nV_len, nV_len]; omega), _, _, _, rfl, Same.wr (sm5.trans s6) nf, ?_⟩
                rw [upd_same, en, nV_app, if_pos d']
              · have d' : ¬ cY L k x y := of_decide_eq_false (Bool.eq_false_iff.mpr d)
                refine ⟨_, _, _, rfl, sm5, ?_⟩
                rw [hf5, en, if_neg d', List.append_nil]
        · have c' : isB k = false := (in_B k).symm.trans (Bool.eq_false_iff.mpr c)
          refine ⟨o, none, none, rfl, sm1.trans st, ?_⟩
          rw [st _ _ hf1]
          cases z : isA k with
          | true => rw [if_pos rfl]
          | false => rw [if_neg Bool.false_ne_true, needs_C z c' nr]
      · rintro σ' H2 ⟨o, o1, o2, rfl, sm2, hf2⟩
        exact ⟨_, rfl, q H2 pf sm2 nf hf2⟩
end
end KB
/-! # Walks 4: what stands, papers -/
namespace KB
open PySem PySem.Spec PyProof.Rows L2 KM
theorem nV_ints (L : List Nat) : nV L = (L.map Int.ofNat).map V.int := by
  unfold nV
  rw [List.map_map]
  rfl
theorem nat_list : ∀ (ns : List Int), (∀ x ∈ ns, 0 ≤ x) → ns.map V.int = nV (ns.map Int.toNat)
  | [], _ => rfl
  | n :: ns, h => by
    have e := nat_list ns fun x hx => h x (List.mem_cons_of_mem _ hx)
    have e2 : ((n.toNat : Nat) : Int) = n := Int.toNat_of_nonneg (h n List.mem_cons_self)
    show V.int n :: ns.map V.int = V.int ((n.toNat : Nat) : Int) :: nV (ns.map Int.toNat)
    rw [e, e2]
theorem few32 {L : List Nat} {k : Kd} (h : dep k ≤ 5) : (needs L k).length ≤ 32 := by
  have a := needs_len (L := L) k
  have b : 2 ^ dep k ≤ 2 ^ 5 := Nat.pow_le_pow_right (by decide) h
  omega
section
variable {P : Program} {w : World} {K : PySem.W.Frag} {mg : Str → Option Value} {base : Heap}
/-! ### needs_of -/
theorem sc_needs_of : FnScope ["lows", "kind"] ["lows", "kind"] (defScope KH.s_needs_of) := ⟨rfl, rfl, rfl, by decide +kernel, rfl, by decide +kernel, by decide +kernel⟩
def sp_needs_of : Sp := fun vs H Q _ => ∃ (L : List Nat) (k : Kd) (l v : V), vs = [l, v] ∧ LowsAt H L l ∧ KAt H k v ∧ wf L.length k ∧ dep k ≤ 5 ∧
  ∀ (H' : Hp) (p : Addr) (ns : List Nat), Same H H' → H p = none → H' p = some (.tup (nV ns)) → (∀ j, j ∈ ns ↔ j ∈ needs L k) → ns.length ≤ 32 → Q (.ref p) H'
theorem ok_needs_of (T : Txt w K mg) (F_needed : Prm P w K mg base CX0 10 "needed" ["lows", "kind"] (sp_needed 6)) : Prm P w K mg base CX0 11 "needs_of" ["lows", "kind"] sp_needs_of := by
  refine T.d_needs_of.ok sc_needs_of (fun vs H Q E h => ?_) (fun f cdv A outer s H vs Q E hr h => ⟨_, (pss_one (ps_ret (pe_callTy (tupC K) (by rfl) T.z_tuple (by decide +kernel) (pa_cons (pe_callB (cr_sortedSet rfl) (by rfl) T.z_sorted (by decide +kernel) (pa_cons (pe_callTy (setC K (w := w) (hw := rfl) (hc := rfl)) (by rfl) T.z_set (by decide +kernel) (pa_cons (pcl F_needed (hr.mono (by omega)) (pa_cons (pv 0) (pa_cons (pv 1) pa_nil))) pa_nil)) pa_nil)) pa_nil)))), ?_⟩)
  · obtain ⟨L, k, l, v, rfl, _⟩ := h
    rfl
  obtain ⟨L, k, l, v, rfl, hL, hk, hw, hd, q⟩ := h
  refine ⟨_, rfl, _, rfl, L, k, l, v, rfl, hL, hk, hw, by omega, by omega, fun H1 p1 s1 n1 e1 => ?_⟩
  have few := few32 (L := L) hd
  refine ⟨p1, (needs L k).map Int.ofNat, rfl, SqL.of (by rw [e1, nV_ints]), by rw [List.length_map]; omega, fun p2 n hn n2 => ?_⟩
  rw [List.length_map] at hn
  refine ⟨p2, _, n, rfl, upd_same, by omega, fun ns p3 hs hm hl n3 => ?_⟩
  have pos : ∀ x ∈ ns, 0 ≤ x := fun x hx => by
    have a := of_decide_eq_true ((hm x).mp hx)
    obtain ⟨y, _, rfl⟩ := List.mem_map.mp a
    exact Int.natCast_nonneg y
  refine ⟨p3, _, rfl, .inl ⟨SqL.of upd_same, fun p4 n4 => ?_⟩⟩
  have s2 : Same H1 _ := same_new n2 (SetO w p2 (fun j => decide (j ∈ (needs L k).map Int.ofNat)) n)
  have s3 := s2.trans (same_new n3 (.lst (ns.map V.int)))
  have s4 := s3.trans (same_new n4 (.tup (ns.map V.int)))
  refine q _ p4 (ns.map Int.toNat) (s1.trans s4) ((s1.trans s3).free n4) (by rw [upd_same, nat_list ns pos]) (fun j => ?_) (by rw [List.length_map]; omega)
  rw [List.mem_map]
  constructor
  · rintro ⟨x, hx, rfl⟩
    have a := of_decide_eq_true ((hm x).mp hx)
    obtain ⟨y, hy, rfl⟩ := List.mem_map.mp a
    exact hy
  · intro hj
    exact ⟨(j : Int), (hm j).mpr (decide_eq_true (List.mem_map.mpr ⟨j, hj, rfl⟩)), rfl⟩
/-! ### stands_by -/
theorem sc_stands_by : FnScope ["lows", "kind", "one"] ["lows", "kind"] (defScope KH.s_stands_by) := ⟨rfl, rfl, rfl, by decide +kernel, rfl, by decide +kernel, by decide +kernel⟩
def gIn (L : List Nat) : Kd → Option Bool
  | .inn _ y => some (decide (0 < low L y)) | _ => none
theorem stands_pre {L : List Nat} : ∀ k : Kd, ((pre k).filterMap (gIn L)).all id = stands L k := by
  intro k
  induction k with
  | this x y hx hy =>
    simp only [pre, List.filterMap_cons, gIn, List.filterMap_append, List.all_append, hx, hy]
    simp [stands, insides]
  | both x y hx hy =>
    simp only [pre, List.filterMap_cons, gIn, List.filterMap_append, List.all_append, hx, hy]
    simp [stands, insides]
  | inn x y hx hy =>
    simp only [pre, List.filterMap_cons, gIn, List.filterMap_append, List.all_cons, List.all_append, hx, hy]
    simp [stands, insides]
  | point x hx =>
    simp only [pre, List.filterMap_cons, gIn, hx]
    simp [stands, insides]
  | hole x hx =>
    simp only [pre, List.filterMap_cons, gIn, hx]
    simp [stands, insides]
  | sized x m n hx =>
    simp only [pre, List.filterMap_cons, gIn, hx]
    simp [stands, insides]
  | _ => rfl
theorem range_getD_fm {α β : Type} (g : α → Option β) (d : α) : ∀ ks : List α, (List.range ks.length).filterMap (fun i => g (ks.getD i d)) = ks.filterMap g
  | [] => rfl
  | k :: ks => by
    rw [List.length_cons, List.range_succ_eq_map, List.filterMap_cons, List.filterMap_map, List.filterMap_cons]
    have ih := range_getD_fm g d ks
    rw [← ih]
    rfl
theorem fm_optmap {α β γ : Type} (g : α → Option β) (h : β → γ) (l : List α) : l.filterMap (fun x => (g x).map h) = (l.filterMap g).map h := by
  rw [List.map_filterMap]
theorem pre_wf : ∀ {k : Kd} {m : Nat}, wf m k → ∀ x ∈ pre k, wf m x := by
  intro k
  induction k with
  | this x y hx hy =>
    intro m h z hz
    simp only [pre, List.mem_cons, List.mem_append] at hz
    rcases hz with rfl | hz | hz
    · exact h
    · exact hx h.1 z hz
    · exact hy h.2 z hz
  | both x y hx hy =>
    intro m h z hz
    simp only [pre, List.mem_cons, List.mem_append] at hz
    rcases hz with rfl | hz | hz
    · exact h
    · exact hx h.1 z hz
    · exact hy h.2 z hz
  | inn x y hx hy =>
    intro m h z hz
    simp only [pre, List.mem_cons, List.mem_append] at hz
    rcases hz with rfl | hz | hz
    · exact h
    · exact hx h.1 z hz
    · exact hy h.2 z hz
  | point x hx =>
    intro m h z hz
    simp only [pre, List.mem_cons] at hz
    rcases hz with rfl | hz
    · exact h
    · exact hx h z hz
  | hole x hx =>
    intro m h z hz
    simp only [pre, List.mem_cons] at hz
    rcases hz with rfl | hz
    · exact h
    · exact hx (kp_wf (k := .hole x) h x (by simp [kp])) z hz
  | sized x a b hx =>
    intro m h z hz
    simp only [pre, List.mem_cons] at hz
    rcases hz with rfl | hz
    · exact h
    · exact hx h.1 z hz
  | _ =>
    intro m h z hz
    rw [List.mem_singleton.mp hz]
    exact h
def sp_stands_by : Sp := fun vs H Q _ => ∃ (L : List Nat) (k : Kd) (l v : V), vs = [l, v] ∧ LowsAt H L l ∧ KAt H k v ∧ wf L.length k ∧ dep k ≤ 5 ∧ ∀ H', Same H H' → Q (.bl (stands L k)) H'
theorem ok_stands_by (T : Txt w K mg) (F_kinds_in : Prm P w K mg base CX0 2 "kinds_in" ["kind"] sp_kinds_in) (F_low_of : Prm P w K mg base CX0 8 "low_of" ["lows", "kind"] (sp_low_of 6)) : Prm P w K mg base CX0 9 "stands_by" ["lows", "kind"] sp_stands_by := by
  refine T.d_stands_by.ok sc_stands_by (fun vs H Q E h => ?_) (fun f cdv A outer s H vs Q E hr h => ⟨_, (pss_one (ps_ret (pe_callB (allC K (hc := rfl)) (by rfl) T.z_all (by decide +kernel) (pa_cons (pe_lc (own := [("one", 2)]) (g := gName 2) (by rfl) sc_stands_by.nd (piL K (hl := (pcl F_kinds_in (hr.mono (by omega)) (pa_cons (pv 1) pa_nil)))) (blkOk_by (by kernel_rfl)) (fun _ _ _ _ _ => pg_name (i := 2) sc_stands_by.nd rfl (Or.inl rfl)) (fun _ _ _ _ _ => (pts_one (pt_cmpR op_eq (pe_ix (ixT K) (pv 2) pe_int (fun _ _ => rfl)) pe_str (by rfl)))) (fun _ _ _ _ _ => (pe_cmpR op_gt (pcl F_low_of (hr.mono (by omega)) (pa_cons (pv 0) (pa_cons (pe_ix (ixT K) (pv 2) pe_int (fun _ _ => rfl)) pa_nil))) pe_int (by rfl)))) pa_nil)))), ?_⟩)
  · obtain ⟨L, k, l, v, rfl, _⟩ := h
    rfl
  obtain ⟨L, k, l, v, rfl, hL, hk, hw, hd, q⟩ := h
  refine ⟨_, rfl, k, v, rfl, hk, by omega, fun H1 li us s1 n1 e1 hks => ⟨li, rfl, ⟨_, SqL.of e1⟩, fun D hD => ?_⟩⟩
  have hlen : (pre k).length ≤ 511 := by
    have a := pre_len k
    have b : 2 ^ (dep k + 1) ≤ 2 ^ 9 := Nat.pow_le_pow_right (by decide) (by omega)
    have c : (2 : Nat) ^ 9 = 512 := by decide
    omega
  have el : us.length = (pre k).length := hks.len
  refine pc_list (fun i => (gIn L ((pre k).getD i .void)).map V.bl) hD (SqL.of e1) (by omega) (fun _ => rfl) (fun i x H2 hx s2 => ?_) (fun H2 s2 e => ?_)
  · obtain ⟨hi, kx⟩ := hks.get hx
    have mem := getD_mem (d := Kd.void) hi
    have dx := pre_dep k _ mem
    have wx := pre_wf hw _ mem
    generalize (pre k).getD i .void = z at *
    have kx2 := kx.tk (TK.of s2)
    obtain ⟨a, ws, rfl, ha, hs⟩ := kx2.shape
    intro Y N hY hN
    refine ⟨_, rfl, a, _, _, _, rfl, rfl, SqT.of ha, atI_nat (j := 0) rfl, rfl, _, rfl, ite2 (fun c => ?_) (fun c => ?_)⟩
    · obtain ⟨x, y, rfl⟩ := kw_in (V.str.inj (of_decide_eq_true c))
      match ws, hs with
      | [vx, vy], ⟨kx, ky, _⟩ =>
      have dy := kp_dep (k := .inn x y) y (by simp [kp])
      refine ⟨_, rfl, _, rfl, a, _, _, _, rfl, rfl, SqT.of ha, atI_nat (j := 2) rfl, L, y, l, vy, rfl, hL.sm (s1.trans s2), ky, wx.2, by omega, fun H3 s3 => ⟨_, _, rfl, rfl, ?_⟩⟩
      refine hY _ _ ?_ s3
      have e : decide ((0 : Int) < ((low L y : Nat) : Int)) = decide (0 < low L y) := by
        by_cases z : 0 < low L y
        · rw [decide_eq_true z, decide_eq_true (by omega)]
        · rw [decide_eq_false z, decide_eq_false (by omega)]
      show some (V.bl (decide (0 < low L y))) = some (V.bl (decide ((0 : Int) < ((low L y : Nat) : Int))))
      rw [e]
    · refine hN _ ?_ (Same.refl _)
      cases z with
      | inn x y => exact absurd rfl fun e => c (by rw [strEq]; exact decide_eq_true e)
      | _ => rfl
  · rw [el, range_getD_fm (fun x => (gIn L x).map V.bl) .void, fm_optmap] at e
    refine ⟨D, _, rfl, SqL.of e, ?_⟩
    rw [stands_pre]
    exact q H2 (s1.trans s2)
/-! ### is_row, is_paper -/
theorem sc_is_row : FnScope ["many", "most", "thing", "one"] ["many", "most", "thing"] (defScope KH.s_is_row) := ⟨rfl, rfl, rfl, by decide +kernel, rfl, by decide +kernel, by decide +kernel⟩
def sp_is_row : Sp := fun vs H Q _ => ∃ (m : Nat) (most : Int) (p : Addr) (xs : List Int), vs = [.int (m : Nat), .int most, .ref p] ∧ H p = some (.tup (xs.map V.int)) ∧ xs.length ≤ 100 ∧ ∀ H', Same H H' → Q (.bl (rowOk m most xs)) H'
theorem ok_is_row (T : Txt w K mg) (F_is_whole : Prm P w K mg base CX0 1 "is_whole" ["thing"] sp_is_whole) : Prm P w K mg base CX0 2 "is_row" ["many", "most", "thing"] sp_is_row := by
  refine T.d_is_row.ok sc_is_row (fun vs H Q E h => ?_) (fun f cdv A outer s H vs Q E hr h => ⟨_, (pss_cons (ps_if (pt_mid (PW.pt (pw_or (pt_not (pt_val (pe_callB (isiC K) (by rfl) T.z_isinstance (by decide +kernel) (pa_cons (pv 2) (pa_cons (pe_bltn (v := .ty "tuple") (by rfl) T.z_tuple (by decide +kernel) rfl) pa_nil))))) (pw_or1 (pt_cmpR op_ne (pe_callB (lenC K) (by rfl) T.z_len (by decide +kernel) (pa_cons (pv 2) pa_nil)) (pv 0) (by rfl)))))) (pss_one (ps_ret pe_bl)) pss_nil)
      (pss_one (ps_ret (pe_callB (allC K (hc := rfl)) (by rfl) T.z_all (by decide +kernel) (pa_cons (pe_lc (own := [("one", 3)]) (g := gName 3) (by rfl) sc_is_row.nd (piT K (hl := (pv 2))) (blkOk_by (by kernel_rfl)) (fun _ _ _ _ _ => pg_name (i := 3) sc_is_row.nd rfl (Or.inl rfl)) (fun _ _ _ _ _ => pts_nil) (fun _ _ _ _ _ => (pe_and (pcl F_is_whole (hr.mono (by omega)) (pa_cons (pv 3) pa_nil)) (pe_one (pe_chain op_le op_le pe_int (pv 3) (pv 1)))))) pa_nil))))), ?_⟩)
  · obtain ⟨m, most, p, xs, rfl, _⟩ := h
    rfl
  obtain ⟨m, most, p, xs, rfl, hp, few, q⟩ := h
  refine ⟨fun b H' => H' = H ∧ b = !decide (xs.length = m), ?_, ?_⟩
  · refine ⟨_, rfl, _, .ty "tuple", _, _, true, rfl, .ty _, .base (.tup hp), kit_ty (by decide +kernel), _, rfl, ?_⟩
    show (if false = true then _ else _)
    refine iteF ⟨_, rfl, p, _, rfl, .inr (SqT.of hp), _, rfl, rfl, _, rfl, rfl, ?_⟩
    rw [intEq, List.length_map]
    by_cases c : xs.length = m
    · rw [decide_eq_true c, decide_eq_true (by omega)]
    · rw [decide_eq_false c, decide_eq_false (by omega)]
  · rintro b H' ⟨rfl, rfl⟩
    refine ite2 (fun c => ?_) (fun c => ?_)
    · have e : rowOk m most xs = false := by
        unfold rowOk
        have c' : xs.length ≠ m := by simpa using c
        rw [show (xs.length == m) = false from beq_eq_false_iff_ne.mpr c'] <;> rfl
      have z := q _ (Same.refl _)
      rw [e] at z
      exact z
    · have c' : xs.length = m := by simpa using c
      refine ⟨_, rfl, p, rfl, ⟨_, SqT.of hp⟩, fun D hD => pc_tup (fun i => some (V.bl (decide (0 ≤ xs.getD i 0) && decide (xs.getD i 0 ≤ most)))) hD (SqT.of hp) (by rw [List.length_map]; omega) (fun _ => rfl) (fun i x H2 hx s2 => turn_yes fun Y hY => ?_) (fun H2 s2 e => ?_)⟩
      · have hi : i < xs.length := by
          have := (List.getElem?_eq_some_iff.mp hx).1
          rw [List.length_map] at this
          exact this
        have ex : x = V.int (xs.getD i 0) := by
          rw [List.getElem?_map, List.getElem?_eq_getElem hi] at hx
          rw [getD_of_lt hi]
          exact (Option.some.inj hx).symm
        subst ex
        refine ⟨_, rfl, _, rfl, _, rfl, iteT ⟨_, rfl, _, _, rfl, rfl, _, rfl, ite2 (fun d => ?_) (fun d => ?_)⟩⟩
        · refine ⟨_, rfl, _, _, rfl, rfl, ?_⟩
          have z := hY _ (Same.refl _)
          rw [decide_eq_true (of_decide_eq_true d), Bool.true_and] at z
          exact z
        · have z := hY _ (Same.refl _)
          rw [decide_eq_false (of_decide_eq_false (Bool.eq_false_iff.mpr d)), Bool.false_and] at z
          exact z
      · rw [List.length_map, fm_map] at e
        have e2 := range_getD (fun x : Int => V.bl (decide (0 ≤ x) && decide (x ≤ most))) 0 xs
        rw [e2] at e
        refine ⟨D, xs.map fun x => decide (0 ≤ x) && decide (x ≤ most), rfl, SqL.of (by rw [e, List.map_map]; rfl), ?_⟩
        have z := q H2 s2
        unfold rowOk at z
        rw [show (xs.length == m) = true from beq_iff_eq.mpr c', Bool.true_and] at z
        have e3 : (xs.map fun x => decide (0 ≤ x) && decide (x ≤ most)).all id = xs.all fun x => decide (0 ≤ x) && decide (x ≤ most) := by
          rw [List.all_map] <;> rfl
        rw [e3]
        exact z
theorem sc_is_paper : FnScope ["many", "thing"] ["many", "thing"] (defScope KH.s_is_paper) := ⟨rfl, rfl, rfl, by decide +kernel, rfl, by decide +kernel, by decide +kernel⟩
/-- a paper: a tuple of two tuples of whole numbers -/
def PapAt (H : Hp) (ls rs : List Int) (v : V) : Prop := ∃ t a b, v = .ref t ∧ H t = some (.tup [.ref a, .ref b]) ∧ H a = some (.tup (ls.map V.int)) ∧ H b = some (.tup (rs.map V.int)) ∧ ls.length ≤ 100 ∧ rs.length ≤ 100
theorem PapAt.tk {H H' : Hp} {ls rs : List Int} {v : V} (s : TK H H') (h : PapAt H ls rs v) : PapAt H' ls rs v := by
  obtain ⟨t, a, b, e, h1, h2, h3, h4⟩ := h
  exact ⟨t, a, b, e, s _ _ h1, s _ _ h2, s _ _ h3, h4⟩
def sp_is_paper : Sp := fun vs H Q _ => ∃ (m : Nat) (v : V) (ls rs : List Int), vs = [.int (m : Nat), v] ∧ PapAt H ls rs v ∧ ∀ H', Same H H' → Q (.bl (shapeOk m ls rs)) H'
theorem ok_is_paper (T : Txt w K mg) (F_is_row : Prm P w K mg base CX0 2 "is_row" ["many", "most", "thing"] sp_is_row) : Prm P w K mg base CX0 3 "is_paper" ["many", "thing"] sp_is_paper := by
  refine T.d_is_paper.ok sc_is_paper (fun vs H Q E h => ?_) (fun f cdv A outer s H vs Q E hr h => ⟨_, (pss_cons (ps_if (pt_mid (PW.pt (pw_or (pt_not (pt_val (pe_callB (isiC K) (by rfl) T.z_isinstance (by decide +kernel) (pa_cons (pv 1) (pa_cons (pe_bltn (v := .ty "tuple") (by rfl) T.z_tuple (by decide +kernel) rfl) pa_nil))))) (pw_or1 (pt_cmpR op_ne (pe_callB (lenC K) (by rfl) T.z_len (by decide +kernel) (pa_cons (pv 1) pa_nil)) pe_int (by rfl)))))) (pss_one (ps_ret pe_bl)) pss_nil)
      (pss_one (ps_ret (pe_and (pcl F_is_row (hr.mono (by omega)) (pa_cons (pv 0) (pa_cons (pe_gi T.g_MOST_LOW) (pa_cons (pe_ix (ixT K) (pv 1) pe_int (fun _ _ => rfl)) pa_nil)))) (pe_one (pcl F_is_row (hr.mono (by omega)) (pa_cons (pv 0) (pa_cons (pe_gi T.g_MOST_RANK) (pa_cons (pe_ix (ixT K) (pv 1) pe_int (fun _ _ => rfl)) pa_nil))))))))), ?_⟩)
  · obtain ⟨m, v, ls, rs, rfl, _⟩ := h
    rfl
  obtain ⟨m, v, ls, rs, rfl, ⟨t, a, b, rfl, ht, ha, hb, la, lb⟩, q⟩ := h
  refine ⟨fun b H' => H' = H ∧ b = false, ?_, ?_⟩
  · refine ⟨_, rfl, _, .ty "tuple", _, _, true, rfl, .ty _, .base (.tup ht), kit_ty (by decide +kernel), _, rfl, ?_⟩
    show (if false = true then _ else _)
    exact iteF ⟨_, rfl, t, _, rfl, .inr (SqT.of ht), rfl, _, rfl, rfl, by rfl⟩
  · rintro b' H' ⟨rfl, rfl⟩
    refine iteF ⟨_, rfl, _, rfl, t, _, _, _, rfl, rfl, SqT.of ht, atI_nat (j := 0) rfl, m, 20, a, ls, rfl, ha, la, fun H1 s1 => ⟨_, rfl, ite2 (fun c => ?_) (fun c => ?_)⟩⟩
    · refine ⟨_, rfl, _, rfl, t, _, _, _, rfl, rfl, SqT.of (s1 _ _ ht), atI_nat (j := 1) rfl, m, 99, b, rs, rfl, s1 _ _ hb, lb, fun H2 s2 => ?_⟩
      have z := q _ (s1.trans s2)
      unfold shapeOk at z
      rw [c, Bool.true_and] at z
      exact z
    · have z := q _ s1
      unfold shapeOk at z
      rw [Bool.eq_false_iff.mpr c, Bool.false_and] at z
      exact z
/-! ### amiss_at -/
theorem sc_amiss_at : FnScope ["rules", "lows", "ranks", "i", "j"] ["rules", "lows", "ranks", "i"] (defScope KH.s_amiss_at) := ⟨rfl, rfl, rfl, by decide +kernel, rfl, by decide +kernel, by decide +kernel⟩
def sp_amiss_at : Sp := fun vs H Q _ => ∃ (ks : List Kd) (L : List Nat) (R : List Int) (rv l : V) (b : Addr) (i : Nat), vs = [rv, l, .ref b, .int (i : Nat)] ∧ RAt H ks rv ∧ LowsAt H L l ∧ H b = some (.tup (R.map V.int)) ∧ L.length = ks.length ∧ R.length = ks.length ∧ i < ks.length ∧
  (∀ k ∈ ks, wf ks.length k ∧ dep k ≤ 5) ∧ (∀ H', Same H H' → okAt ks L R i = true → Q .non H') ∧ ∀ H' (z : Str), Same H H' → okAt ks L R i = false → Q (.str z) H'
theorem int_at {R : List Int} {i : Nat} (h : i < R.length) : atI (R.map V.int) (i : Nat) = some (.int (R.getD i 0)) := by
  refine atI_nat ?_
  rw [List.getElem?_map, List.getElem?_eq_getElem h, getD_of_lt h] <;> rfl
theorem all_congr {α : Type} {p : α → Bool} {l m : List α} (h : ∀ x, x ∈ l ↔ x ∈ m) : l.all p = m.all p := by
  rw [Bool.eq_iff_iff, List.all_eq_true, List.all_eq_true]
  exact ⟨fun q x hx => q x ((h x).mpr hx), fun q x hx => q x ((h x).mp hx)⟩
theorem ok_amiss_at (T : Txt w K mg) (F_low_of : Prm P w K mg base CX0 8 "low_of" ["lows", "kind"] (sp_low_of 6)) (F_stands_by : Prm P w K mg base CX0 9 "stands_by" ["lows", "kind"] sp_stands_by) (F_needs_of : Prm P w K mg base CX0 11 "needs_of" ["lows", "kind"] sp_needs_of) :
    Prm P w K mg base CX0 12 "amiss_at" ["rules", "lows", "ranks", "i"] sp_amiss_at := by
  refine T.d_amiss_at.ok sc_amiss_at (fun vs H Q E h => ?_) (fun f cdv A outer s H vs Q E hr h => ⟨_, (pss_cons (ps_if (pt_cmpR op_gt (pe_ix (ixT K) (pv 1) (pv 3) (fun _ _ => rfl)) (pcl F_low_of (hr.mono (by omega)) (pa_cons (pv 1) (pa_cons (pe_ix (ixT K) (pv 0) (pv 3) (fun _ _ => rfl)) pa_nil))) (by rfl)) (pss_one (ps_ret pe_str)) pss_nil)
      (pss_cons (ps_if (pt_not (pt_val (pcl F_stands_by (hr.mono (by omega)) (pa_cons (pv 1) (pa_cons (pe_ix (ixT K) (pv 0) (pv 3) (fun _ _ => rfl)) pa_nil))))) (pss_one (ps_ret pe_str)) pss_nil)
      (pss_cons (ps_if (pt_not (pt_val (pe_callB (allC K (hc := rfl)) (by rfl) T.z_all (by decide +kernel) (pa_cons (pe_lc (own := [("j", 4)]) (g := gName 4) (by rfl) sc_amiss_at.nd (piT K (hl := (pcl F_needs_of (hr.mono (by omega)) (pa_cons (pv 1) (pa_cons (pe_ix (ixT K) (pv 0) (pv 3) (fun _ _ => rfl)) pa_nil))))) (blkOk_by (by kernel_rfl)) (fun _ _ _ _ _ => pg_name (i := 4) sc_amiss_at.nd rfl (Or.inl rfl)) (fun _ _ _ _ _ => pts_nil) (fun _ _ _ _ _ => (pe_cmpR op_lt (pe_ix (ixT K) (pv 2) (pv 4) (fun _ _ => rfl)) (pe_ix (ixT K) (pv 2) (pv 3) (fun _ _ => rfl)) (by rfl)))) pa_nil)))) (pss_one (ps_ret pe_str)) pss_nil)
      (pss_one (ps_ret pe_non))))), ?_⟩)
  · obtain ⟨ks, L, R, rv, l, b, i, rfl, _⟩ := h
    rfl
  obtain ⟨ks, L, R, rv, l, b, i, rfl, ⟨r, us, rfl, hr', hks⟩, hL, hb, eL, eR, hi, hw, q1, q2⟩ := h
  obtain ⟨⟨pl, rfl, hpl⟩, h20⟩ := id hL
  obtain ⟨v, hv, kv⟩ := hks.at hi
  have hv2 : atI us (i : Nat) = some v := atI_nat hv
  obtain ⟨wk, dk⟩ := hw _ (getD_mem (d := Kd.void) hi)
  have okE : okAt ks L R i = (decide (L.getD i 0 ≤ low L (ks.getD i .void)) && (stands L (ks.getD i .void) && (needs L (ks.getD i .void)).all fun j => decide (R.getD j 0 < R.getD i 0))) := rfl
  generalize ks.getD i .void = k at *
  rw [← eL] at wk
  refine ⟨_, rfl, _, rfl, pl, _, _, _, rfl, rfl, SqT.of hpl, nV_at (by omega), _, rfl, _, rfl, _, rfl, r, _, _, _, rfl, rfl, SqT.of hr', hv2, L, k, _, v, rfl, hL, kv, wk, by omega, fun H1 s1 => ⟨_, _, rfl, rfl, _, rfl, ite2 (fun c => ?_) (fun c => ?_)⟩⟩
  · have c' : ((low L k : Nat) : Int) < ((L.getD i 0 : Nat) : Int) := of_decide_eq_true c
    refine q2 H1 _ s1 ?_
    rw [okE, decide_eq_false (by omega), Bool.false_and]
  have c' : ¬ ((low L k : Nat) : Int) < ((L.getD i 0 : Nat) : Int) := of_decide_eq_false (Bool.eq_false_iff.mpr c)
  rw [decide_eq_true (show L.getD i 0 ≤ low L k by omega), Bool.true_and] at okE
  refine ⟨_, rfl, _, rfl, _, rfl, r, _, _, _, rfl, rfl, SqT.of (s1 _ _ hr'), hv2, L, k, _, v, rfl, hL.sm s1, kv.tk (TK.of s1), wk, dk, fun H2 s2 => ⟨_, rfl, ite2 (fun d => ?_) (fun d => ?_)⟩⟩
  · refine q2 H2 _ (s1.trans s2) ?_
    have d' : stands L k = false := by simpa using d
    rw [okE, d', Bool.false_and]
  have d' : stands L k = true := by simpa using d
  rw [d', Bool.true_and] at okE
  have s12 := s1.trans s2
  refine ⟨_, rfl, _, rfl, _, rfl, r, _, _, _, rfl, rfl, SqT.of (s12 _ _ hr'), hv2, L, k, _, v, rfl, hL.sm s12, kv.tk (TK.of s12), wk, dk, fun H3 np ns s3 n3 e3 mem few => ⟨np, rfl, ⟨_, SqT.of e3⟩, fun D hD => ?_⟩⟩
  have s13 := s12.trans s3
  refine pc_tup (fun x => some (V.bl (decide (R.getD (ns.getD x 0) 0 < R.getD i 0)))) hD (SqT.of e3) (by rw [nV_len]; omega) (fun _ => rfl) (fun x y H4 hx s4 => turn_yes fun Y hY => ?_) (fun H4 s4 e => ?_)
  · have hxl : x < ns.length := by
      have := (List.getElem?_eq_some_iff.mp hx).1
      rw [nV_len] at this
      exact this
    have ey : y = V.int (ns.getD x 0 : Nat) := by
      unfold nV at hx
      rw [List.getElem?_map, List.getElem?_eq_getElem hxl] at hx
      rw [getD_of_lt hxl]
      exact (Option.some.inj hx).symm
    subst ey
    have hj : ns.getD x 0 < R.length := by
      have := needs_lt wk ((mem _).mp (getD_mem (d := 0) hxl))
      omega
    have b4 := (s13.trans s4) _ _ hb
    exact ⟨_, rfl, _, rfl, b, _, _, _, rfl, rfl, SqT.of b4, int_at hj, _, rfl, _, rfl, b, _, _, _, rfl, rfl, SqT.of b4, int_at (by omega), _, _, rfl, rfl, hY _ (Same.refl _)⟩
  · rw [nV_len, fm_map, range_getD (fun j : Nat => V.bl (decide (R.getD j 0 < R.getD i 0))) 0 ns] at e
    refine ⟨D, ns.map fun j => decide (R.getD j 0 < R.getD i 0), rfl, SqL.of (by rw [e, List.map_map]; rfl), _, rfl, ?_⟩
    have e3 : (ns.map fun j => decide (R.getD j 0 < R.getD i 0)).all id = (needs L k).all fun j => decide (R.getD j 0 < R.getD i 0) := by
      rw [List.all_map, ← all_congr mem] <;> rfl
    rw [e3, ← okE]
    refine ite2 (fun g => ?_) (fun g => ?_)
    · exact q2 H4 _ (s13.trans s4) (by simpa using g)
    · exact q1 H4 (s13.trans s4) (by simpa using g)
end
end KB
/-! # Walks 5: the error, the checker, the greatest lows -/
namespace KB
open PySem PySem.Spec PyProof.Rows L2 KM
section
variable {P : Program} {w : World} {K : PySem.W.Frag} {mg : Str → Option Value} {base : Heap}
abbrev cNP (K : PySem.W.Frag) : Addr := He.ga K "NoPaper"
abbrev fNP (K : PySem.W.Frag) : Addr := He.ma K (He.ga K "NoPaper") "__init__"
theorem Txt.iC (T : Txt w K mg) : PySem.W.findIn K (.ref (cNP K)) "__init__" = some (some (.ref (fNP K))) := T.parts.2.2.2.2.2.2.2.1
theorem Txt.tI (T : Txt w K mg) : PySem.W.typeIn K (.ref (fNP K)) = some (.type "function") := T.parts.2.2.2.2.2.2.2.2.1
theorem Txt.vI (T : Txt w K mg) : PySem.W.findCls K (.ref (He.ga K "KindError")) (.type "type") "__init__" = some (.val (.builtin "ValueError.__init__")) := T.parts.2.2.2.2.2.2.2.2.2.2.2
theorem sc_init : FnScope ["self", "word", "number"] ["self", "word", "number"] (defScope KH.s_init) := ⟨rfl, rfl, rfl, by decide +kernel, rfl, by decide +kernel, by decide +kernel⟩
def sp_init (C : Addr) : Sp := fun vs H Q _ => ∃ (a : Addr) (x y : V), vs = [.ref a, x, y] ∧ H a = some (exo a C none) ∧
  ∀ (d : Addr) (fs : List (Str × V)) (H' : Hp), H d = none → d ≠ a → H' a = some (exo a C (some d)) → H' d = some (exd d fs) → (∀ b, b ≠ a → b ≠ d → H' b = H b) → Q .non H'
def InitOk (P : Program) (w : World) (K : PySem.W.Frag) (mg : Str → Option Value) (base : Heap) : Prop := ∃ fd, FnOk P w K mg base CX0 1 (fNP K) fd ["self", "word", "number"] (sp_init (cNP K)) ∧ Binds K fd ["self", "word", "number"] []
theorem ok_init (T : Txt w K mg) : InitOk P w K mg base := by
  obtain ⟨fd, F⟩ := T.d.def_ 0 (d := KH.d_init) rfl
  refine ⟨fd, ?_, FunD.bindsN F fun _ _ _ _ _ _ us hl => match us, hl with | [_, _, _], _ => rfl⟩
  refine F.ok sc_init (fun vs H Q E h => ?_) (fun cdv A outer s H vs Q E hr h => ⟨_, PSs.nox (pss_cons (ps_expr (KR.pe_cinit (by rfl) T.g_KindError T.rd T.vI (pa_cons (pv 0) (pa_cons pe_str pa_nil))))
    (pss_cons (ps_ost (pv 0) (pv 1)) (pss_one (ps_ost (pv 0) (pv 2))))), ?_⟩)
  · obtain ⟨a, x, y, rfl, _⟩ := h
    rfl
  obtain ⟨a, x, y, rfl, ha, q⟩ := h
  refine ⟨_, rfl, a, cNP K, _, rfl, (by show 1 ≤ 1000; decide), T.oex, ha, ?_⟩
  refine ⟨_, rfl, _, rfl, a, cNP K, rfl, T.oex, T.noWord, .inl ⟨ha, fun d nd ne => ?_⟩⟩
  refine ⟨_, rfl, _, rfl, a, cNP K, rfl, T.oex, T.noNumber, .inr ⟨d, _, upd_same, (by rw [upd_ne ne]; exact upd_same), (by show 1 ≤ 900; decide), ?_⟩⟩
  refine q d _ _ nd ne (by rw [upd_ne ne.symm]; exact upd_same) upd_same fun b h1 h2 => ?_
  rw [upd_ne h2, upd_ne h1, upd_ne h2]
/-! ### lets_found -/
theorem sc_lets_found : FnScope ["rules", "thing", "lows", "ranks", "i", "word"] ["rules", "thing"] (defScope KH.s_lets_found) := ⟨rfl, rfl, rfl, by decide +kernel, rfl, by decide +kernel, by decide +kernel⟩
def sp_lets_found (K : PySem.W.Frag) : Sp := fun vs H Q E => ∃ (ks : List Kd) (rv pv : V) (ls rs : List Int), vs = [rv, pv] ∧ RAt H ks rv ∧ PapAt H ls rs pv ∧ ks.length ≤ 4 ∧ (∀ k ∈ ks, wf ks.length k ∧ dep k ≤ 5) ∧
  (lets ks ls rs = true → ∀ H', Same H H' → Q (.bl true) H') ∧ (lets ks ls rs = false → ∀ (d : Addr) (H' : Hp), Same H H' → E (.ref (cNP K)) (some d) H')
theorem nats_nV {ls : List Int} (h : ∀ i : Nat, 0 ≤ ls.getD i 0) : ls.map V.int = nV (nats ls) := by
  unfold nV nats
  rw [List.map_map]
  refine List.map_congr_left fun x hx => ?_
  obtain ⟨i, hi, e⟩ := List.mem_iff_getElem.mp hx
  have := h i
  rw [getD_of_lt hi, e] at this
  show V.int x = V.int ((x.toNat : Nat) : Int)
  rw [Int.toNat_of_nonneg this]
/-- what a raise leaves -/
theorem raised {H H1 H2 : Hp} {a d : Addr} {C : Addr} {fs : List (Str × V)} (s : Same H H1) (na : H1 a = none) (nd : H1 d = none) (e : ∀ b, b ≠ a → b ≠ d → H2 b = upd H1 a (exo a C none) b) : Same H (upd (del H2 a) d (.xd fs)) := fun b o q => by
  have q1 := s b o q
  have n1 := ne_of_none q1 na
  have n2 := ne_of_none q1 nd
  rw [upd_ne n2, del_ne n1, e b n1 n2, upd_ne n1]
  exact q1
theorem ok_lets_found (T : Txt w K mg) (F_init : InitOk P w K mg base) (F_is_paper : Prm P w K mg base CX0 3 "is_paper" ["many", "thing"] sp_is_paper) (F_amiss_at : Prm P w K mg base CX0 12 "amiss_at" ["rules", "lows", "ranks", "i"] sp_amiss_at) :
    Prm P w K mg base (L2.CX P w) 14 "lets_found" ["rules", "thing"] (sp_lets_found K) := by
  obtain ⟨fdI, FI, bI⟩ := F_init
  refine T.d_lets_found.okX sc_lets_found (fun vs H Q E h => ?_) (fun f cdv A outer s H vs Q E hr h => ⟨_, (pss_cons (ps_if (pt_not (pt_val (pcl F_is_paper (hr.mono (by omega)) (pa_cons (pe_callB (lenC K) (by rfl) T.z_len (by decide +kernel) (pa_cons (pv 0) pa_nil)) (pa_cons (pv 1) pa_nil))))) (pss_one (ps_raise rfl (takes_of rfl rfl rfl rfl) (pmk_oex T.oex T.iC T.tI FI (hr.mono (by omega)) bI .nil pass0 (by rfl) T.g_NoPaper (pa_cons pe_str (pa_cons (pe_un un_neg pe_int) pa_nil))))) pss_nil)
      (pss_cons (ps_asg (pv 1) (pg_tup (by rfl) (pgs_cons (pg_name (i := 2) sc_lets_found.nd rfl (.inl rfl)) (pgs_cons (pg_name (i := 3) sc_lets_found.nd rfl (.inl rfl)) pgs_nil))))
      (pss_cons (ps_for (passes_of rfl) rfl (pi_range1 (by rfl) T.z_range (pa_cons (pe_callB (lenC K) (by rfl) T.z_len (by decide +kernel) (pa_cons (pv 0) pa_nil)) pa_nil)) (pg_name (i := 4) sc_lets_found.nd rfl (Or.inl rfl)) (pss_cons (ps_set (i := 5) sc_lets_found.nd rfl (.inl rfl) (pcl F_amiss_at (hr.mono (by omega)) (pa_cons (pv 0) (pa_cons (pv 2) (pa_cons (pv 3) (pa_cons (pv 4) pa_nil))))))
      (pss_one (ps_if (pt_cmpR op_notN (pv 5) pe_non (by rfl)) (pss_one (ps_raise rfl (takes_of rfl rfl rfl rfl) (pmk_oex T.oex T.iC T.tI FI (hr.mono (by omega)) bI .nil pass0 (by rfl) T.g_NoPaper (pa_cons (pv 5) (pa_cons (pv 4) pa_nil))))) pss_nil))))
      (pss_one (ps_ret pe_bl))))), ?_⟩)
  · obtain ⟨ks, rv, pv, ls, rs, rfl, _⟩ := h
    rfl
  obtain ⟨ks, rv, pv, ls, rs, rfl, hR, hP, h4, hw, q1, q2⟩ := h
  obtain ⟨r, us, rfl, hr', hks⟩ := id hR
  -- raise NoPaper(x, y): the argument values are there
  have rz : ∀ {H1 : Hp} (x y : V), Same H H1 → lets ks ls rs = false → ∀ a : Addr, H1 a = none → sp_init (cNP K) [.ref a, x, y] (upd H1 a (exo a (cNP K) none)) (fun v H2 => v = .non ∧ ∃ (d : Addr) (fs : List (Str × V)), H2 a = some (exo a (cNP K) (some d)) ∧ H2 d = some (exd d fs) ∧ H1 d = none ∧
      E (.ref (cNP K)) (some d) (upd (del H2 a) d (.xd fs))) (fun _ _ _ => False) := fun {H1} x y s no a na => ⟨a, x, y, rfl, upd_same, fun d fs H2 nd ne e1 e2 e3 => by
    rw [upd_ne ne] at nd
    exact ⟨rfl, d, fs, e1, e2, nd, q2 no d _ (raised s na nd e3)⟩⟩
  refine ⟨_, rfl, r, us, rfl, .inr (SqT.of hr'), _, rfl, ks.length, _, ls, rs, by rw [hks.len]; rfl, hP, fun H1 s1 => ⟨_, rfl, ite2 (fun c => ?_) (fun c => ?_)⟩⟩
  · have c' : shapeOk ks.length ls rs = false := by simpa using c
    have no : lets ks ls rs = false := by
      unfold lets
      rw [c', Bool.false_and]
    exact ⟨_, rfl, by show 2 ≤ 1000; decide, fun a na => rz _ _ s1 no a na⟩
  have c' : shapeOk ks.length ls rs = true := by simpa using c
  obtain ⟨t, a, b, rfl, ht, ha, hb, la, lb⟩ := hP.tk (TK.of s1)
  have c2 := c'
  unfold shapeOk at c2
  rw [Bool.and_eq_true] at c2
  have lenL := rowOk_len c2.1
  have lenR := rowOk_len c2.2
  have hL : LowsAt H1 (nats ls) (.ref a) := ⟨⟨a, rfl, by rw [ha, nats_nV fun i => (rowOk_at c2.1 (by omega) i).1]⟩, fun i => by
    rw [nats_getD]
    have := rowOk_at c2.1 (by omega) i
    omega⟩
  refine ⟨_, rfl, t, _, rfl, SqT.of ht, rfl, _, _, rfl, _, _, rfl, rfl, ?_⟩
  refine ⟨_, rfl, r, us, rfl, .inr (SqT.of (s1 _ _ hr')), (us.length : Nat), rfl, by omega, by have := hks.len; omega, ?_⟩
  rw [Int.toNat_natCast, hks.len]
  refine for_range (n := ks.length) (fun i σ' H2 => ∃ io wo : Option V, σ' = [some (.ref r), some (.ref t), some (.ref a), some (.ref b), io, wo] ∧ Same H1 H2 ∧ ∀ j, j < i → okAt ks (nats ls) rs j = true)
    ⟨none, none, rfl, Same.refl _, fun j hj => by omega⟩ ?_ ?_
  · rintro i σ' H2 hi ⟨io, wo, rfl, s2, hok⟩
    rw [Int.zero_add]
    have s12 := s1.trans s2
    refine ⟨_, rfl, _, rfl, _, rfl, _, rfl, ks, nats ls, rs, _, _, b, i, rfl, hR.tk (TK.of s12), hL.sm s2, s2 _ _ hb, by unfold nats; rw [List.length_map, lenL], lenR, hi, hw, fun H3 s3 ok => ?_, fun H3 z s3 ok => ?_⟩
    · refine ⟨_, rfl, rfl, _, rfl, iteF ⟨_, _, rfl, s2.trans s3, fun j hj => ?_⟩⟩
      by_cases e : j = i
      · rw [e]; exact ok
      · exact hok j (by omega)
    · have no : lets ks ls rs = false := by
        unfold lets
        rw [c', Bool.true_and]
        have : ¬ (List.range ks.length).all (okAt ks (nats ls) rs) = true := fun h => by
          rw [List.all_eq_true] at h
          have := h i (List.mem_range.mpr hi)
          rw [ok] at this
          cases this
        simpa using this
      refine ⟨_, rfl, rfl, _, rfl, iteT ⟨_, rfl, _, rfl, by show 2 ≤ 1000; decide, fun a na => rz _ _ (s12.trans s3) no a na⟩⟩
  · rintro σ' H2 ⟨io, wo, rfl, s2, hok⟩
    refine q1 ?_ H2 (s1.trans s2)
    unfold lets
    rw [c', Bool.true_and, List.all_eq_true]
    exact fun j hj => hok j (List.mem_range.mp hj)
/-! ### greatest_lows -/
theorem sc_greatest_lows : FnScope ["rules", "lows", "lesser", "i"] ["rules"] (defScope KH.s_greatest_lows) := ⟨rfl, rfl, rfl, by decide +kernel, rfl, by decide +kernel, by decide +kernel⟩
def RulesOk (ks : List Kd) : Prop := 1 ≤ ks.length ∧ ks.length ≤ 4 ∧ ∀ k ∈ ks, wf ks.length k ∧ dep k ≤ 5
def sp_greatest_lows : Sp := fun vs H Q _ => ∃ (ks : List Kd) (rv : V), vs = [rv] ∧ RAt H ks rv ∧ RulesOk ks ∧ ∀ (H' : Hp) (v : V), Same H H' → LowsAt H' (glow ks) v → Q v H'
theorem rep_nV (n : Nat) : (List.replicate n [V.int 20]).flatten = nV (List.replicate n 20) := by
  induction n with
  | zero => rfl
  | succ n ih =>
    rw [List.replicate_succ, List.flatten_cons, ih, List.replicate_succ]
    rfl
theorem dp_nV {K : PySem.W.Frag} {H : Hp} : ∀ L : List Nat, DpAll K H (nV L) (L.map fun x => PyData.int (x : Nat))
  | [] => .nil
  | _ :: L => .cons (.int _) (dp_nV L)
theorem shaped_nV (L : List Nat) : SeqAt.shaped (.tuple (L.map fun x => PyData.int (x : Nat))) = true := by
  have h : ∀ L : List Nat, PyData.canLayAll0 (L.map fun x => PyData.int (x : Nat)) = true ∧ PyData.depthAll (L.map fun x => PyData.int (x : Nat)) = 0 := fun L => by
    induction L with
    | nil => exact ⟨by simp [PyData.canLayAll0], by simp [PyData.depthAll]⟩
    | cons x L ih => exact ⟨by simp [PyData.canLayAll0, PyData.canLay0, ih.1], by simp [PyData.depthAll, PyData.depth, ih.2]⟩
  unfold SeqAt.shaped
  simp [PyData.canLay0, PyData.depth, h L]
theorem eqv_nV : ∀ L M : List Nat, PyData.eqvAll (L.map fun x => PyData.int (x : Nat)) (M.map fun x => PyData.int (x : Nat)) = decide (L = M)
  | [], [] => by simp [PyData.eqvAll]
  | [], _ :: _ => by simp [PyData.eqvAll]
  | _ :: _, [] => by simp [PyData.eqvAll]
  | x :: L, y :: M => by
    have ih := eqv_nV L M
    simp only [List.map_cons, PyData.eqvAll, PyData.eqv, ih]
    by_cases c : x = y
    · subst c
      by_cases d : L = M
      · subst d; simp
      · simp [d]
    · have : ((x : Int) == (y : Int)) = false := by
        rw [beq_eq_false_iff_ne]
        omega
      rw [this, Bool.false_and, decide_eq_false (fun e => c (List.cons.inj e).1)]
/-- one more turn of lows -/
theorem lows_turn {ks : List Kd} {L : List Nat} (h : L.length = ks.length) : (List.range ks.length).map (fun i => V.int (min (L.getD i 0) (low L (ks.getD i .void)) : Nat)) = nV (lstep ks L) := by
  unfold nV lstep
  rw [List.map_map]
  rfl
theorem ok_greatest_lows (T : Txt w K mg) (F_low_of : Prm P w K mg base CX0 8 "low_of" ["lows", "kind"] (sp_low_of 6)) : Prm P w K mg base CX0 9 "greatest_lows" ["rules"] sp_greatest_lows := by
  refine T.d_greatest_lows.ok sc_greatest_lows (fun vs H Q E h => ?_) (fun f cdv A outer s H vs Q E hr h => ⟨_, (pss_cons (ps_set (i := 1) sc_greatest_lows.nd rfl (.inr rfl) (pe_mid (pe_op (mulT K) (pe_tup (pa_cons (pe_gi T.g_MOST_LOW) pa_nil)) (pe_callB (lenC K) (by rfl) T.z_len (by decide +kernel) (pa_cons (pv 0) pa_nil)))))
      (pss_cons (ps_set (i := 2) sc_greatest_lows.nd rfl (.inl rfl) (pe_callTy (tupC K) (by rfl) T.z_tuple (by decide +kernel) (pa_cons (pe_lc (own := [("i", 3)]) (g := gName 3) (by rfl) sc_greatest_lows.nd (pi_range1 (by rfl) T.z_range (pa_cons (pe_callB (lenC K) (by rfl) T.z_len (by decide +kernel) (pa_cons (pv 0) pa_nil)) pa_nil)) (blkOk_by (by kernel_rfl)) (fun _ _ _ _ _ => pg_name (i := 3) sc_greatest_lows.nd rfl (Or.inl rfl)) (fun _ _ _ _ _ => pts_nil) (fun _ _ _ _ _ => (pe_callB (call_min2 rfl) (by rfl) T.z_min (by decide +kernel) (pa_cons (pe_ix (ixT K) (pv 1) (pv 3) (fun _ _ => rfl)) (pa_cons (pcl F_low_of (hr.mono (by omega)) (pa_cons (pv 1) (pa_cons (pe_ix (ixT K) (pv 0) (pv 3) (fun _ _ => rfl)) pa_nil))) pa_nil))))) pa_nil)))
      (pss_cons (ps_while PassesOwn.never (pt_cmpR (neD K (hu := hr.units)) (pv 2) (pv 1) (by rfl)) (pss_cons (ps_set (i := 1) sc_greatest_lows.nd rfl (.inr rfl) (pv 2))
      (pss_one (ps_set (i := 2) sc_greatest_lows.nd rfl (.inl rfl) (pe_callTy (tupC K) (by rfl) T.z_tuple (by decide +kernel) (pa_cons (pe_lc (own := [("i", 3)]) (g := gName 3) (by rfl) sc_greatest_lows.nd (pi_range1 (by rfl) T.z_range (pa_cons (pe_callB (lenC K) (by rfl) T.z_len (by decide +kernel) (pa_cons (pv 0) pa_nil)) pa_nil)) (blkOk_by (by kernel_rfl)) (fun _ _ _ _ _ => pg_name (i := 3) sc_greatest_lows.nd rfl (Or.inl rfl)) (fun _ _ _ _ _ => pts_nil) (fun _ _ _ _ _ => (pe_callB (call_min2 rfl) (by rfl) T.z_min (by decide +kernel) (pa_cons (pe_ix (ixT K) (pv 1) (pv 3) (fun _ _ => rfl)) (pa_cons (pcl F_low_of (hr.mono (by omega)) (pa_cons (pv 1) (pa_cons (pe_ix (ixT K) (pv 0) (pv 3) (fun _ _ => rfl)) pa_nil))) pa_nil))))) pa_nil))))))
      (pss_one (ps_ret (pv 1)))))), ?_⟩)
  · obtain ⟨ks, rv, rfl, _⟩ := h
    rfl
  obtain ⟨ks, rv, rfl, hR, ⟨h1, h4, hw⟩, q⟩ := h
  obtain ⟨r, us, rfl, hr', hks⟩ := id hR
  have hlen := hks.len
  -- an element of the comprehension
  have turn : ∀ (L : List Nat) (pl : Addr) (H1 : Hp) (i : Nat) (Y : V → Hp → Prop), Same H H1 → H1 pl = some (.tup (nV L)) → (∀ j : Nat, L.getD j 0 ≤ 20) → L.length = ks.length → i < ks.length →
      (∀ H4, Same H1 H4 → Y (.int (min (L.getD i 0) (low L (ks.getD i .void)) : Nat)) H4) → ∃ v, us[i]? = some v ∧ KAt H1 (ks.getD i .void) v ∧ sp_low_of 6 [.ref pl, v] H1 (fun x H2 => ∃ a b : Int, [V.int (L.getD i 0 : Nat), x] = [.int a, .int b] ∧ Y (.int (if b < a then b else a)) H2) E0 := by
    intro L pl H1 i Y s1 hpl h20 eL hi hY
    obtain ⟨v, hv, kv⟩ := hks.at hi
    obtain ⟨wk, dk⟩ := hw _ (getD_mem (d := Kd.void) hi)
    refine ⟨v, hv, kv.tk (TK.of s1), L, _, _, v, rfl, ⟨⟨pl, rfl, hpl⟩, h20⟩, kv.tk (TK.of s1), by rw [eL]; exact wk, by omega, fun H2 s2 => ⟨_, _, rfl, ?_⟩⟩
    have e : (if ((low L (ks.getD i .void) : Nat) : Int) < ((L.getD i 0 : Nat) : Int) then ((low L (ks.getD i .void) : Nat) : Int) else ((L.getD i 0 : Nat) : Int)) = ((min (L.getD i 0) (low L (ks.getD i .void)) : Nat) : Int) := by split <;> omega
    rw [e]
    exact hY H2 s2
  refine ⟨fun v H1 => ∃ pl, v = .ref pl ∧ Same H H1 ∧ H1 pl = some (.tup (nV (iter ks 0))), ?_, ?_⟩
  · refine ⟨by show 1 ≤ sizeLine; decide, fun p0 n0 => ⟨_, rfl, r, us, rfl, .inr (SqT.of (same_new n0 _ _ _ hr')), ?_⟩⟩
    have s0 := same_new n0 (.tup [.int 20])
    refine ⟨p0, _, _, rfl, rfl, SqT.of upd_same, (by simp), by omega, by omega, by simp, fun e => ⟨p0, rfl, s0, ?_⟩, fun e p1 n1 => ⟨p1, rfl, s0.trans (same_new n1 _), ?_⟩⟩
    · rw [upd_same]
      have : ks.length = 1 := by omega
      unfold iter
      rw [this]
      rfl
    · rw [upd_same, hlen, Int.toNat_natCast, rep_nV]
      rfl
  · rintro v H1 ⟨pl, rfl, s1, e1⟩
    refine ⟨_, rfl, r, us, rfl, .inr (SqT.of (s1 _ _ hr')), (us.length : Nat), rfl, by omega, by omega, fun D hD => ?_⟩
    refine pc_range0 (fun i => some (V.int (min ((iter ks 0).getD i 0) (low (iter ks 0) (ks.getD i .void)) : Nat))) (by rw [Int.toNat_natCast, hlen]) hD (by omega) (fun _ => rfl) (fun i H2 hi s2 => turn_yes fun Y hY => ?_) (fun H2 s2 e => ?_)
    · have s12 := s1.trans s2
      obtain ⟨v, hv, kv, z⟩ := turn (iter ks 0) pl H2 i Y s12 (s2 _ _ e1) (iter_le20 ks 0) (iter_len ks 0) hi hY
      exact ⟨_, rfl, _, rfl, pl, _, _, _, rfl, rfl, SqT.of (s2 _ _ e1), nV_at (by rw [iter_len]; exact hi), _, rfl, _, rfl, _, rfl, r, _, _, _, rfl, rfl, SqT.of (s12 _ _ hr'), atI_nat hv, z⟩
    · rw [fm_map, lows_turn (iter_len ks 0)] at e
      refine ⟨D, _, rfl, .inl ⟨SqL.of e, fun pm nm => ?_⟩⟩
      have s12 := (s1.trans s2).trans (same_new nm (.tup (nV (lstep ks (iter ks 0)))))
      -- while lesser != lows
      refine ⟨fun m σ' H' => ∃ (t : Nat) (pl pm : Addr), σ' = [some (.ref r), some (.ref pl), some (.ref pm), none] ∧ Same H H' ∧ H' pl = some (.tup (nV (iter ks t))) ∧ H' pm = some (.tup (nV (iter ks (t + 1)))) ∧ m = (iter ks t).sum,
        ⟨_, 0, pl, pm, rfl, s12, (same_new nm _) _ _ (s2 _ _ e1), upd_same, rfl⟩, ?_⟩
      rintro m σ' H3 ⟨t, pl, pm, rfl, s3, e3, e4, em⟩
      refine ⟨_, rfl, _, rfl, _, _, .tup (SqT.of e4) (dp_nV _), .tup (SqT.of e3) (dp_nV _), shaped_nV _, shaped_nV _, _, rfl, ?_⟩
      have ee : PyData.eqv (.tuple ((iter ks (t + 1)).map fun x => PyData.int (x : Nat))) (.tuple ((iter ks t).map fun x => PyData.int (x : Nat))) = decide (iter ks (t + 1) = iter ks t) := by
        simp only [PyData.eqv]
        exact eqv_nV _ _
      rw [ee]
      refine ite2 (fun c => ?_) (fun c => ?_)
      · have c' : iter ks (t + 1) ≠ iter ks t := by simpa using c
        refine ⟨fun σ' H' => ∃ (pl pm : Addr), σ' = [some (.ref r), some (.ref pl), some (.ref pm), none] ∧ Same H H' ∧ H' pl = some (.tup (nV (iter ks (t + 1)))) ∧ H' pm = some (.tup (nV (iter ks (t + 1 + 1)))), ?_, ?_⟩
        · rintro σ' H' ⟨pl, pm, a1, a2, a3, a4⟩
          exact ⟨_, by rw [em]; exact lstep_sum (iter_len ks t) c', t + 1, pl, pm, a1, a2, a3, a4, rfl⟩
        · refine ⟨_, rfl, ?_⟩
          refine ⟨_, rfl, r, us, rfl, .inr (SqT.of (s3 _ _ hr')), (us.length : Nat), rfl, by omega, by omega, fun D2 hD2 => ?_⟩
          refine pc_range0 (fun i => some (V.int (min ((iter ks (t + 1)).getD i 0) (low (iter ks (t + 1)) (ks.getD i .void)) : Nat))) (by rw [Int.toNat_natCast, hlen]) hD2 (by omega) (fun _ => rfl) (fun i H2 hi s4 => turn_yes fun Y hY => ?_) (fun H4 s4 e5 => ?_)
          · have s34 := s3.trans s4
            obtain ⟨v, hv, kv, z⟩ := turn (iter ks (t + 1)) pm H2 i Y s34 (s4 _ _ e4) (iter_le20 ks (t + 1)) (iter_len ks (t + 1)) hi hY
            exact ⟨_, rfl, _, rfl, pm, _, _, _, rfl, rfl, SqT.of (s4 _ _ e4), nV_at (by rw [iter_len]; exact hi), _, rfl, _, rfl, _, rfl, r, _, _, _, rfl, rfl, SqT.of (s34 _ _ hr'), atI_nat hv, z⟩
          · rw [fm_map, lows_turn (iter_len ks (t + 1))] at e5
            refine ⟨D2, _, rfl, .inl ⟨SqL.of e5, fun pn nn => ⟨pm, pn, rfl, (s3.trans s4).trans (same_new nn _), (same_new nn _) _ _ (s4 _ _ e4), upd_same⟩⟩⟩
      · have c' : iter ks (t + 1) = iter ks t := by simpa using c
        refine ⟨_, rfl, q H3 _ s3 ⟨⟨pl, rfl, ?_⟩, glow_le20 ks⟩⟩
        rw [e3, glow_of_stop c']
end
end KB
/-! # Walks 6: the told paper, right kinds -/
namespace KB
open PySem PySem.Spec PyProof.Rows L2 KM
def dk (rk : List (Nat × Nat)) : List (Key × V) := rk.map fun p => (Sum.inl ((p.1 : Nat) : Int), V.int (p.2 : Nat))
theorem dk_val (i : Nat) : ∀ rk : List (Nat × Nat), valV (dk rk) (Sum.inl ((i : Nat) : Int)) = (look rk i).map fun r => V.int (r : Nat)
  | [] => rfl
  | p :: rk => by
    have ih := dk_val i rk
    by_cases c : p.1 = i
    · have e : (Sum.inl ((p.1 : Nat) : Int) : Key) = Sum.inl ((i : Nat) : Int) := by rw [c]
      show valV ((Sum.inl ((p.1 : Nat) : Int), V.int (p.2 : Nat)) :: dk rk) _ = _
      rw [valV_pos (p := ((Sum.inl ((p.1 : Nat) : Int) : Key), V.int (p.2 : Nat))) e]
      simp [look, c]
    · have e : ¬ (Sum.inl ((p.1 : Nat) : Int) : Key) = Sum.inl ((i : Nat) : Int) := fun z => c (by have := Sum.inl.inj z; omega)
      show valV ((Sum.inl ((p.1 : Nat) : Int), V.int (p.2 : Nat)) :: dk rk) _ = _
      rw [valV_neg (p := ((Sum.inl ((p.1 : Nat) : Int) : Key), V.int (p.2 : Nat))) e, ih]
      simp [look, c]
theorem dk_has (i : Nat) (rk : List (Nat × Nat)) : (valV (dk rk) (Sum.inl ((i : Nat) : Int))).isSome = has rk i := by
  rw [dk_val]
  unfold has
  cases look rk i <;> rfl
theorem dk_app (rk : List (Nat × Nat)) (i r : Nat) : dk (rk ++ [(i, r)]) = dk rk ++ [(Sum.inl ((i : Nat) : Int), V.int (r : Nat))] := by
  unfold dk
  rw [List.map_append]
  rfl
theorem dk_len (rk : List (Nat × Nat)) : (dk rk).length = rk.length := List.length_map _
theorem wfs_of {ks : List Kd} (h : RulesOk ks) : wfs ks := fun i hi => (h.2.2 _ (getD_mem hi)).1
section
variable {P : Program} {w : World} {K : PySem.W.Frag} {mg : Str → Option Value} {base : Heap}
/-! ### found_told -/
theorem sc_found_told : FnScope ["rules", "lows", "ranks", "turn", "i", "needs", "one", "j"] ["rules"] (defScope KH.s_found_told) := ⟨rfl, rfl, rfl, by decide +kernel, rfl, by decide +kernel, by decide +kernel⟩
def sp_found_told : Sp := fun vs H Q _ => ∃ (ks : List Kd) (rv : V), vs = [rv] ∧ RAt H ks rv ∧ RulesOk ks ∧ (founded ks = false → ∀ H', Same H H' → Q .non H') ∧
  (founded ks = true → ∀ (H' : Hp) (t : Addr) (ls rs : List Int), Same H H' → PapAt H' ls rs (.ref t) → lets ks ls rs = true → Q (.ref t) H')
theorem ok_found_told (T : Txt w K mg) (F_greatest_lows : Prm P w K mg base CX0 9 "greatest_lows" ["rules"] sp_greatest_lows) (F_stands_by : Prm P w K mg base CX0 9 "stands_by" ["lows", "kind"] sp_stands_by)
    (F_needs_of : Prm P w K mg base CX0 11 "needs_of" ["lows", "kind"] sp_needs_of) : Prm P w K mg base CX0 13 "found_told" ["rules"] sp_found_told := by
  refine T.d_found_told.ok sc_found_told (fun vs H Q E h => ?_) (fun f cdv A outer s H vs Q E hr h => ⟨_, (pss_cons (ps_set (i := 1) sc_found_told.nd rfl (.inr rfl) (pcl F_greatest_lows (hr.mono (by omega)) (pa_cons (pv 0) pa_nil)))
      (pss_cons (ps_if (pt_not (pt_val (pe_callB (allC K (hc := rfl)) (by rfl) T.z_all (by decide +kernel) (pa_cons (pe_lc (own := [("one", 6)]) (g := gName 6) (by rfl) sc_found_told.nd (piT K (hl := (pv 0))) (blkOk_by (by kernel_rfl)) (fun _ _ _ _ _ => pg_name (i := 6) sc_found_told.nd rfl (Or.inl rfl)) (fun _ _ _ _ _ => pts_nil) (fun _ _ _ _ _ => (pcl F_stands_by (hr.mono (by omega)) (pa_cons (pv 1) (pa_cons (pv 6) pa_nil))))) pa_nil)))) (pss_one (ps_ret pe_non)) pss_nil)
      (pss_cons (ps_set (i := 2) sc_found_told.nd rfl (.inr rfl) pe_dnewK)
      (pss_cons (ps_for PassesOwn.never rfl (pi_range1 (by rfl) T.z_range (pa_cons (pe_callB (lenC K) (by rfl) T.z_len (by decide +kernel) (pa_cons (pv 0) pa_nil)) pa_nil)) (pg_name (i := 3) sc_found_told.nd rfl (Or.inl rfl)) (pss_one (ps_for PassesOwn.never rfl (pi_range1 (by rfl) T.z_range (pa_cons (pe_callB (lenC K) (by rfl) T.z_len (by decide +kernel) (pa_cons (pv 0) pa_nil)) pa_nil)) (pg_name (i := 4) sc_found_told.nd rfl (Or.inl rfl)) (pss_cons (ps_set (i := 5) sc_found_told.nd rfl (.inl rfl) (pcl F_needs_of (hr.mono (by omega)) (pa_cons (pv 1) (pa_cons (pe_ix (ixT K) (pv 0) (pv 4) (fun _ _ => rfl)) pa_nil))))
      (pss_one (ps_if (pt_mid (PW.pt (pw_and (pt_cmp (pc_dnotin (hu_of hr) (pv 4) (pv 2))) (pw_and1 (pt_val (pe_callB (allC K (hc := rfl)) (by rfl) T.z_all (by decide +kernel) (pa_cons (pe_lc (own := [("j", 7)]) (g := gName 7) (by rfl) sc_found_told.nd (piT K (hl := (pv 5))) (blkOk_by (by kernel_rfl)) (fun _ _ _ _ _ => pg_name (i := 7) sc_found_told.nd rfl (Or.inl rfl)) (fun _ _ _ _ _ => pts_nil) (fun _ _ _ _ _ => (pe_cmp (pc_din (hu_of hr) (pv 7) (pv 2))))) pa_nil))))))) (pss_one (ps_dput (hu_of hr) (pv 2) (pv 4) (pe_callBK (maxC K (hu := hr.units) (hc := rfl)) (by rfl) T.z_max (by decide +kernel) (pa_cons (pe_lc (own := [("j", 7)]) (g := gName 7) (by rfl) sc_found_told.nd (piT K (hl := (pv 5))) (blkOk_by (by kernel_rfl)) (fun _ _ _ _ _ => pg_name (i := 7) sc_found_told.nd rfl (Or.inl rfl)) (fun _ _ _ _ _ => pts_nil) (fun _ _ _ _ _ => (pe_op op_add (pe_dget (hu_of hr) (pv 2) (pv 7) (fun _ _ => rfl)) pe_int))) pa_nil) (pk_cons pe_int pk_nil)) rfl)) pss_nil))))))
      (pss_cons (ps_if (pt_cmpR op_lt (pe_callB call_lenD (by rfl) T.z_len (by decide +kernel) (pa_cons (pv 2) pa_nil)) (pe_callB (lenC K) (by rfl) T.z_len (by decide +kernel) (pa_cons (pv 0) pa_nil)) (by rfl)) (pss_one (ps_ret pe_non)) pss_nil)
      (pss_one (ps_ret (pe_tup (pa_cons (pv 1) (pa_cons (pe_callTy (tupC K) (by rfl) T.z_tuple (by decide +kernel) (pa_cons (pe_lc (own := [("i", 4)]) (g := gName 4) (by rfl) sc_found_told.nd (pi_range1 (by rfl) T.z_range (pa_cons (pe_callB (lenC K) (by rfl) T.z_len (by decide +kernel) (pa_cons (pv 0) pa_nil)) pa_nil)) (blkOk_by (by kernel_rfl)) (fun _ _ _ _ _ => pg_name (i := 4) sc_found_told.nd rfl (Or.inl rfl)) (fun _ _ _ _ _ => pts_nil) (fun _ _ _ _ _ => (pe_dget (hu_of hr) (pv 2) (pv 4) (fun _ _ => rfl)))) pa_nil)) pa_nil)))))))))), ?_⟩)
  · obtain ⟨ks, rv, rfl, _⟩ := h
    rfl
  obtain ⟨ks, rv, rfl, hR, hOk, q1, q2⟩ := h
  obtain ⟨r, us, rfl, hr', hks⟩ := id hR
  obtain ⟨k1, k4, hw⟩ := id hOk
  have hW := wfs_of hOk
  have hlen := hks.len
  refine ⟨_, rfl, ks, _, rfl, hR, hOk, fun H1 v s1 hL => ?_⟩
  obtain ⟨⟨pl, rfl, hpl⟩, h20⟩ := id hL
  -- all stand
  refine ⟨_, rfl, r, rfl, ⟨_, SqT.of (s1 _ _ hr')⟩, fun D hD => ?_⟩
  refine pc_tup (fun i => some (V.bl (stands (glow ks) (ks.getD i .void)))) hD (SqT.of (s1 _ _ hr')) (by omega) (fun _ => rfl) (fun i x H2 hx s2 => turn_yes fun Y hY => ?_) (fun H2 s2 e => ?_)
  · obtain ⟨hi, kx⟩ := hks.get hx
    obtain ⟨wk, dk'⟩ := hw _ (getD_mem (d := Kd.void) hi)
    have s12 := s1.trans s2
    exact ⟨_, rfl, _, rfl, glow ks, _, _, x, rfl, hL.sm s2, kx.tk (TK.of s12), by rw [glow_len]; exact wk, dk', hY⟩
  rw [hlen, fm_map, range_getD (fun k => V.bl (stands (glow ks) k)) .void] at e
  have s12 := s1.trans s2
  refine ⟨D, ks.map (stands (glow ks)), rfl, SqL.of (by rw [e, List.map_map]; rfl), _, rfl, ?_⟩
  have ea : (ks.map (stands (glow ks))).all id = ks.all (stands (glow ks)) := by rw [List.all_map] <;> rfl
  rw [ea]
  refine ite2 (fun c => ?_) (fun c => ?_)
  · exact q1 (not_founded_of_stands (by simpa using c)) H2 s12
  have hst : ks.all (stands (glow ks)) = true := by simpa using c
  -- ranks = {}
  intro pd nd
  have s3 : Same H (upd H2 pd (.dK [])) := Same.wr s12 (s12.free nd)
  have n0 : H pd = none := s12.free nd
  have e3 : upd H2 pd (.dK []) pd = some (.dK (dk [])) := upd_same
  have e4 : upd H2 pd (.dK []) pl = some (.tup (nV (glow ks))) := by
    rw [upd_ne (ne_of_none (s2 _ _ hpl) nd)]
    exact s2 _ _ hpl
  generalize upd H2 pd (.dK []) = H3 at *
  refine ⟨_, rfl, r, us, rfl, .inr (SqT.of (s3 _ _ hr')), (us.length : Nat), rfl, by omega, by omega, ?_⟩
  rw [Int.toNat_natCast, hlen]
  refine for_range (n := ks.length) (fun t σ' H' => ∃ (o1 o2 o3 : Option V) (rk : List (Nat × Nat)), σ' = [some (.ref r), some (.ref pl), some (.ref pd), o1, o2, o3, none, none] ∧ Same H H' ∧ H' pl = some (.tup (nV (glow ks))) ∧ H' pd = some (.dK (dk rk)) ∧ RTurn (glow ks) ks t 0 rk)
    ⟨none, none, none, [], rfl, s3, e4, e3, .start⟩ ?_ ?_
  · rintro t σ' H4 ht ⟨o1, o2, o3, rk, rfl, s4, g1, g2, hT⟩
    refine ⟨_, rfl, r, us, rfl, .inr (SqT.of (s4 _ _ hr')), (us.length : Nat), rfl, by omega, by omega, ?_⟩
    rw [Int.toNat_natCast, hlen]
    refine for_range (n := ks.length) (fun i σ' H' => ∃ (o1 o2 o3 : Option V) (rk : List (Nat × Nat)), σ' = [some (.ref r), some (.ref pl), some (.ref pd), o1, o2, o3, none, none] ∧ Same H H' ∧ H' pl = some (.tup (nV (glow ks))) ∧ H' pd = some (.dK (dk rk)) ∧ RTurn (glow ks) ks t i rk)
      ⟨_, o2, o3, rk, rfl, s4, g1, g2, hT⟩ ?_ ?_
    · rintro i σ' H5 hi ⟨o1, o2, o3, rk, rfl, s5, g1, g2, hT⟩
      rw [Int.zero_add]
      obtain ⟨v, hv, kv⟩ := hks.at hi
      obtain ⟨wk, dk'⟩ := hw _ (getD_mem (d := Kd.void) hi)
      have hfew : rk.length ≤ 4 := Nat.le_trans hT.inv.le k4
      -- needs
      refine ⟨_, rfl, _, rfl, _, rfl, r, _, _, _, rfl, rfl, SqT.of (s5 _ _ hr'), atI_nat hv, glow ks, ks.getD i .void, _, v, rfl, ⟨⟨pl, rfl, g1⟩, h20⟩, kv.tk (TK.of s5), by rw [glow_len]; exact wk, dk', fun H6 np ns s6 n6 e6 mem few => ?_⟩
      have s56 := s5.trans s6
      have f1 := s6 _ _ g1
      have f2 := s6 _ _ g2
      have inrk : ∀ x, x < ns.length → ns.getD x 0 < ks.length := fun x hx => needs_lt wk ((mem _).mp (getD_mem (d := 0) hx))
      refine ⟨fun b H' => Same H6 H' ∧ b = (!has rk i && (needs (glow ks) (ks.getD i .void)).all (has rk)), ?_, ?_⟩
      · refine ⟨_, rfl, _, rfl, pd, _, rfl, DGet.k (k := Sum.inl ((i : Nat) : Int)) f2, _, rfl, ?_⟩
        rw [dk_has]
        refine ite2 (fun c => ?_) (fun c => ⟨Same.refl _, ?_⟩)
        · rw [c, Bool.true_and]
          refine ⟨_, rfl, np, rfl, ⟨_, SqT.of e6⟩, fun D hD => ?_⟩
          refine pc_tup (fun x => some (V.bl (has rk (ns.getD x 0)))) hD (SqT.of e6) (by rw [nV_len]; omega) (fun _ => rfl) (fun x y H7 hx s7 => turn_yes fun Y hY => ?_) (fun H7 s7 e => ?_)
          · have hxl : x < ns.length := by
              have := (List.getElem?_eq_some_iff.mp hx).1
              rw [nV_len] at this
              exact this
            have ey : y = V.int (ns.getD x 0 : Nat) := by
              unfold nV at hx
              rw [List.getElem?_map, List.getElem?_eq_getElem hxl] at hx
              rw [getD_of_lt hxl]
              exact (Option.some.inj hx).symm
            subst ey
            refine ⟨_, rfl, _, rfl, pd, _, rfl, DGet.k (k := Sum.inl ((ns.getD x 0 : Nat) : Int)) (s7 _ _ f2), ?_⟩
            rw [dk_has]
            exact hY _ (Same.refl _)
          · rw [nV_len, fm_map, range_getD (fun j : Nat => V.bl (has rk j)) 0 ns] at e
            refine ⟨D, ns.map (has rk), rfl, SqL.of (by rw [e, List.map_map]; rfl), _, rfl, s7, ?_⟩
            rw [List.all_map, ← all_congr mem] <;> rfl
        · rw [Bool.eq_false_iff.mpr c, Bool.false_and]
      · rintro b H7 ⟨s7, rfl⟩
        have s57 := s56.trans s7
        have f1 := s7 _ _ f1
        have f2 := s7 _ _ f2
        refine ite2 (fun c => ?_) (fun c => ?_)
        · rw [Bool.and_eq_true, List.all_eq_true] at c
          have c1 : has rk i = false := by simpa using c.1
          -- max([..], default=0)
          refine ⟨_, rfl, np, rfl, ⟨_, SqT.of (s7 _ _ e6)⟩, fun D hD => ?_⟩
          refine pc_tup (fun x => some (V.int ((look rk (ns.getD x 0)).getD 0 + 1 : Nat))) hD (SqT.of (s7 _ _ e6)) (by rw [nV_len]; omega) (fun _ => rfl) (fun x y H8 hx s8 => turn_yes fun Y hY => ?_) (fun H8 s8 e => ?_)
          · have hxl : x < ns.length := by
              have := (List.getElem?_eq_some_iff.mp hx).1
              rw [nV_len] at this
              exact this
            have ey : y = V.int (ns.getD x 0 : Nat) := by
              unfold nV at hx
              rw [List.getElem?_map, List.getElem?_eq_getElem hxl] at hx
              rw [getD_of_lt hxl]
              exact (Option.some.inj hx).symm
            subst ey
            have hh := c.2 _ ((mem _).mp (getD_mem (d := 0) hxl))
            obtain ⟨z, hz⟩ := Option.isSome_iff_exists.mp (show (look rk (ns.getD x 0)).isSome = true from hh)
            have hd : valV (dk rk) (Sum.inl ((ns.getD x 0 : Nat) : Int)) = some (V.int (z : Nat)) := by rw [dk_val, hz] <;> rfl
            have g := DGet.k (k := Sum.inl ((ns.getD x 0 : Nat) : Int)) (s8 _ _ f2)
            rw [hd] at g
            refine ⟨_, rfl, _, rfl, pd, _, rfl, g, _, _, rfl, rfl, ?_⟩
            rw [hz] at hY
            exact hY _ (Same.refl _)
          · rw [nV_len, fm_map, range_getD (fun j : Nat => V.int ((look rk j).getD 0 + 1 : Nat)) 0 ns] at e
            have s58 := s57.trans s8
            have vnone : valV (dk rk) (Sum.inl ((i : Nat) : Int)) = none := by
              have := dk_has i rk
              rw [c1] at this
              cases z : valV (dk rk) (Sum.inl ((i : Nat) : Int)) with
              | none => rfl
              | some y => rw [z] at this; cases this
            have npl : pl ≠ pd := ne_of g1 g2 (by intro z; cases z)
            have g8 := s8 _ _ f2
            have h8 := s8 _ _ f1
            have len8 : (dk rk).length < sizeLine := by rw [dk_len]; exact small1000 (by omega)
            refine ⟨D, ns.map fun j => (((look rk j).getD 0 + 1 : Nat) : Int), .int 0, rfl, rfl, SqL.of (by rw [e, List.map_map]; rfl), fun en => ?_, fun m hm hle => ?_⟩
            · have ens : ∀ j, ¬ j ∈ needs (glow ks) (ks.getD i .void) := fun j hj => by
                rw [← mem, List.map_eq_nil_iff.mp en] at hj
                cases hj
              have top : IsTop rk (needs (glow ks) (ks.getD i .void)) 0 := ⟨fun j hj => absurd hj (ens j), fun ne => absurd (List.eq_nil_iff_forall_not_mem.mpr ens) ne, fun _ => rfl⟩
              refine ⟨_, rfl, _, rfl, pd, _, rfl, DPut.k (k := Sum.inl ((i : Nat) : Int)) g8 len8, o1, some (.int (i : Nat)), some (.ref np), rk ++ [(i, 0)], rfl, Same.wr s58 n0, by rw [upd_ne npl]; exact h8, ?_, RTurn.step hW hT hi (.put 0 c1 c.2 top)⟩
              rw [upd_same, putK_new _ vnone, dk_app]
              rfl
            · obtain ⟨j0, hj0, em⟩ := List.mem_map.mp hm
              have top : IsTop rk (needs (glow ks) (ks.getD i .void)) ((look rk j0).getD 0 + 1) := ⟨fun j hj => by
                have := hle _ (List.mem_map.mpr ⟨j, (mem j).mpr hj, rfl⟩)
                rw [← em] at this
                omega, fun _ => ⟨j0, (mem j0).mp hj0, rfl⟩, fun z => by
                have := (mem j0).mp hj0
                rw [z] at this
                cases this⟩
              rw [← em]
              refine ⟨_, rfl, _, rfl, pd, _, rfl, DPut.k (k := Sum.inl ((i : Nat) : Int)) g8 len8, o1, some (.int (i : Nat)), some (.ref np), rk ++ [(i, (look rk j0).getD 0 + 1)], rfl, Same.wr s58 n0, by rw [upd_ne npl]; exact h8, ?_, RTurn.step hW hT hi (.put _ c1 c.2 top)⟩
              rw [upd_same, putK_new _ vnone, dk_app]
        · refine ⟨o1, some (.int (i : Nat)), some (.ref np), rk, rfl, s57, f1, f2, RTurn.step hW hT hi (.skip ?_)⟩
          have c' : (!has rk i && (needs (glow ks) (ks.getD i .void)).all (has rk)) = false := by simpa using c
          rw [Bool.and_eq_false_iff] at c'
          rcases c' with z | z
          · exact .inl (by simpa using z)
          · rw [List.all_eq_false] at z
            obtain ⟨j, hj, hn⟩ := z
            exact .inr ⟨j, hj, by simpa using hn⟩
    · rintro σ' H5 ⟨o1, o2, o3, rk, rfl, s5, g1, g2, hT⟩
      exact ⟨o1, o2, o3, rk, rfl, s5, g1, g2, hT.next⟩
  · rintro σ' H4 ⟨o1, o2, o3, rk, rfl, s4, g1, g2, hT⟩
    refine ⟨_, rfl, pd, _, rfl, g2, _, rfl, r, us, rfl, .inr (SqT.of (s4 _ _ hr')), _, _, rfl, rfl, _, rfl, ?_⟩
    rw [dk_len, hlen]
    refine ite2 (fun c => ?_) (fun c => ?_)
    · have c' : ((rk.length : Nat) : Int) < ((ks.length : Nat) : Int) := of_decide_eq_true c
      exact q1 (not_founded_of_short hT (by omega)) H4 s4
    · have c' : ¬ ((rk.length : Nat) : Int) < ((ks.length : Nat) : Int) := of_decide_eq_false (Bool.eq_false_iff.mpr c)
      have nlt : ¬ rk.length < ks.length := by omega
      have hF := RInv.founded hW k4 hT.inv nlt hst
      have hTold := RInv.told hW k4 hT.inv nlt hst
      refine ⟨_, rfl, _, rfl, r, us, rfl, .inr (SqT.of (s4 _ _ hr')), (us.length : Nat), rfl, by omega, by omega, fun D hD => ?_⟩
      refine pc_range0 (fun i => some (V.int ((look rk i).getD 0 : Nat))) (by rw [Int.toNat_natCast, hlen]) hD (by omega) (fun _ => rfl) (fun i H5 hi s5 => turn_yes fun Y hY => ?_) (fun H5 s5 e => ?_)
      · have hh := RInv.full hT.inv nlt i hi
        obtain ⟨z, hz⟩ := Option.isSome_iff_exists.mp (show (look rk i).isSome = true from hh)
        have hd : valV (dk rk) (Sum.inl ((i : Nat) : Int)) = some (V.int (z : Nat)) := by rw [dk_val, hz] <;> rfl
        have g := DGet.k (k := Sum.inl ((i : Nat) : Int)) (s5 _ _ g2)
        rw [hd] at g
        refine ⟨_, rfl, _, rfl, pd, _, rfl, g, ?_⟩
        rw [hz] at hY
        exact hY _ (Same.refl _)
      · rw [fm_map] at e
        have e' : H5 D = some (.lst (nV (ranks ks rk))) := by
          rw [e]
          unfold nV ranks
          rw [List.map_map]
          rfl
        refine ⟨D, _, rfl, .inl ⟨SqL.of e', fun pt nt => ⟨(by show 2 ≤ sizeLine; decide), fun pp np => ?_⟩⟩⟩
        have s6 : Same H5 _ := (same_new nt (.tup (nV (ranks ks rk)))).trans (same_new np (.tup [.ref pl, .ref pt]))
        refine q2 hF _ pp _ _ ((s4.trans s5).trans s6) ⟨pp, pl, pt, rfl, upd_same, ?_, ?_, by rw [List.length_map, glow_len]; omega, by simp [ranks]; omega⟩ hTold
        · rw [← nV_ints]
          exact s6 _ _ (s5 _ _ g1)
        · rw [← nV_ints]
          exact (same_new np _) _ _ upd_same
/-! ### is_right -/
theorem sc_is_right : FnScope ["rules", "kind"] ["rules", "kind"] (defScope KH.s_is_right) := ⟨rfl, rfl, rfl, by decide +kernel, rfl, by decide +kernel, by decide +kernel⟩
def sp_is_right : Sp := fun vs H Q _ => ∃ (ks : List Kd) (k : Kd) (rv v : V), vs = [rv, v] ∧ RAt H ks rv ∧ RulesOk ks ∧ KAt H k v ∧ wf ks.length k ∧ dep k ≤ 5 ∧ ∀ H', Same H H' → Q (.bl (founded ks && stands (glow ks) k)) H'
theorem ok_is_right (T : Txt w K mg) (F_found_told : Prm P w K mg base CX0 13 "found_told" ["rules"] sp_found_told) (F_greatest_lows : Prm P w K mg base CX0 9 "greatest_lows" ["rules"] sp_greatest_lows) (F_stands_by : Prm P w K mg base CX0 9 "stands_by" ["lows", "kind"] sp_stands_by) :
    Prm P w K mg base CX0 14 "is_right" ["rules", "kind"] sp_is_right := by
  refine T.d_is_right.ok sc_is_right (fun vs H Q E h => ?_) (fun f cdv A outer s H vs Q E hr h => ⟨_, (pss_one (ps_ret (pe_and (pe_cmpR op_notN (pcl F_found_told (hr.mono (by omega)) (pa_cons (pv 0) pa_nil)) pe_non (by rfl)) (pe_one (pcl F_stands_by (hr.mono (by omega)) (pa_cons (pcl F_greatest_lows (hr.mono (by omega)) (pa_cons (pv 0) pa_nil)) (pa_cons (pv 1) pa_nil))))))), ?_⟩)
  · obtain ⟨ks, k, rv, v, rfl, _⟩ := h
    rfl
  obtain ⟨ks, k, rv, v, rfl, hR, hOk, hk, wk, dk', q⟩ := h
  refine ⟨_, rfl, ks, rv, rfl, hR, hOk, fun hf H1 s1 => ?_, fun hf H1 t ls rs s1 hp hl => ?_⟩
  · refine ⟨rfl, false, rfl, iteF ?_⟩
    have z := q H1 s1
    rw [hf, Bool.false_and] at z
    exact z
  · refine ⟨rfl, true, rfl, iteT ?_⟩
    refine ⟨_, rfl, ks, rv, rfl, hR.tk (TK.of s1), hOk, fun H2 l s2 hL => ⟨_, rfl, glow ks, k, l, v, rfl, hL, hk.tk (TK.of (s1.trans s2)), by rw [glow_len]; exact wk, dk', fun H3 s3 => ?_⟩⟩
    have z := q H3 ((s1.trans s2).trans s3)
    rw [hf, Bool.true_and] at z
    exact z
end
end KB
/-! # Walks 7: the tape -/
namespace KB
open PySem PySem.Spec PyProof.Rows L2 KM
/-- a tape at t, its cells at l; at most c draws were made -/
def TapeAt (H : Hp) (t l : Addr) (c : Nat) : Prop := ∃ (cs : List Int) (i d n : Int), H t = some (.lst [.ref l, .int i, .int d, .int n]) ∧ l ≠ t ∧ H l = some (.lst (cs.map V.int)) ∧ cs.length ≤ 63 ∧ 0 ≤ n ∧ n ≤ (c : Nat)
theorem TapeAt.sm {H H' : Hp} {t l : Addr} {c : Nat} (s : Same H H') (h : TapeAt H t l c) : TapeAt H' t l c := by
  obtain ⟨cs, i, d, n, h1, h2, h3, r⟩ := h
  exact ⟨cs, i, d, n, s _ _ h1, h2, s _ _ h3, r⟩
theorem TapeAt.le {H : Hp} {t l : Addr} {c c' : Nat} (h : TapeAt H t l c) (hc : c ≤ c') : TapeAt H t l c' := by
  obtain ⟨cs, i, d, n, h1, h2, h3, h4, h5, h6⟩ := h
  exact ⟨cs, i, d, n, h1, h2, h3, h4, h5, by omega⟩
theorem TapeAt.tk {H H' : Hp} {t l : Addr} {c : Nat} (h : TapeAt H t l c) (s : SB t H H') : TK H H' := by
  obtain ⟨cs, i, d, n, h1, _⟩ := h
  exact s.tk h1
theorem TapeAt.ne {H : Hp} {t l p : Addr} {c : Nat} (h : TapeAt H t l c) (hp : H p = none) : p ≠ t ∧ p ≠ l := by
  obtain ⟨cs, i, d, n, h1, _, h3, _⟩ := h
  exact ⟨(ne_of_none h1 hp).symm, (ne_of_none h3 hp).symm⟩
theorem TapeAt.upd {H : Hp} {t l p : Addr} {c : Nat} {o : HO} (h : TapeAt H t l c) (n1 : p ≠ t) (n2 : p ≠ l) : TapeAt (L2.upd H p o) t l c := by
  obtain ⟨cs, i, d, n, h1, h2, h3, r⟩ := h
  exact ⟨cs, i, d, n, by rw [upd_ne n1.symm]; exact h1, h2, by rw [upd_ne n2.symm]; exact h3, r⟩
theorem dp_int {K : PySem.W.Frag} {H : Hp} : ∀ cs : List Int, DpAll K H (cs.map V.int) (cs.map PyData.int)
  | [] => .nil
  | _ :: cs => .cons (.int _) (dp_int cs)
theorem ix0 {α : Type} {x : α} {xs : List α} : atI (x :: xs) 0 = some x := atI_nat (j := 0) rfl
theorem fmod_in {a : Int} {b : Int} (h : 0 < b) : 0 ≤ a.fmod b ∧ a.fmod b < b := ⟨Int.fmod_nonneg_of_pos a h, Int.fmod_lt_of_pos a h⟩
section
variable {P : Program} {w : World} {K : PySem.W.Frag} {mg : Str → Option Value} {base : Heap}
theorem sc_law_tape : FnScope ["_law_script"] ["_law_script"] (defScope KH.s_law_tape) := ⟨rfl, rfl, rfl, by decide +kernel, rfl, by decide +kernel, by decide +kernel⟩
def sp_tape (K : PySem.W.Frag) : Sp := fun vs H Q _ => ∃ (a : Addr) (ns : List Int), vs = [.ref a] ∧ SqL K H a (ns.map V.int) ∧ ns.length ≤ 63 ∧ ∀ (H' : Hp) (t l : Addr), Same H H' → TapeAt H' t l 0 → Q (.ref t) H'
theorem ok_tape (T : Txt w K mg) : Prm P w K mg base CX0 1 "_law_tape" ["_law_script"] (sp_tape K) := by
  refine T.d_law_tape.ok sc_law_tape (fun vs H Q E h => ?_) (fun f cdv A outer s H vs Q E hr h => ⟨_, (pss_one (ps_ret (pe_lst (pa_cons (pe_callTy (listC K) (by rfl) T.z_list (by decide +kernel) (pa_cons (pe_slice (slL K) (pv 0) po_none (po_some pe_int)) pa_nil)) (pa_cons pe_int (pa_cons pe_int (pa_cons pe_int pa_nil))))))), ?_⟩)
  · obtain ⟨a, ns, rfl, _⟩ := h
    rfl
  obtain ⟨a, ns, rfl, hS, few, q⟩ := h
  refine ⟨_, rfl, 63, rfl, a, _, rfl, hS, fun p np => ⟨p, _, rfl, .inl (SqL.of upd_same), fun l nl => ⟨(by show 4 ≤ sizeLine; decide), fun t nt => ?_⟩⟩⟩
  have s1 := same_new np (.lst (cutV (ns.map V.int) none (some 63)))
  have s2 := s1.trans (same_new nl (.lst (cutV (ns.map V.int) none (some 63))))
  have s3 := s2.trans (same_new nt (.lst [.ref l, .int 0, .int 0, .int 0]))
  refine q _ t l s3 ⟨ns, 0, 0, 0, upd_same, fun e => ?_, ?_, few, Int.le_refl _, Int.le_refl _⟩
  · rw [← e, upd_same] at nt
    cases nt
  · have e1 : cutV (ns.map V.int) none (some 63) = ns.map V.int := by
      unfold cutV
      rw [show HT.sIx (ns.map V.int).length (ns.map V.int).length (some 63) = min 63 (ns.map V.int).length from HT.sIx_nat _ _ 63, HT.sIx_none, List.drop_zero, List.length_map, Nat.sub_zero]
      exact List.take_of_length_le (by rw [List.length_map]; omega)
    rw [upd_ne (fun e => by rw [← e, upd_same] at nt; cases nt), upd_same, e1]
theorem sc_law_next : FnScope ["_law_tape_here", "_law_many", "_law_digit", "_law_cell", "_law_mixed"] ["_law_tape_here", "_law_many"] (defScope KH.s_law_next) := ⟨rfl, rfl, rfl, by decide +kernel, rfl, by decide +kernel, by decide +kernel⟩
def sp_next : Sp := fun vs H Q _ => ∃ (t l : Addr) (m : Int) (c : Nat), vs = [.ref t, .int m] ∧ 1 ≤ m ∧ m ≤ 1000 ∧ TapeAt H t l c ∧ c ≤ 1000000 ∧ ∀ (d : Nat) (H' : Hp), (d : Int) < m → SB t H H' → TapeAt H' t l (c + 1) → Q (.int (d : Nat)) H'
theorem ok_next (T : Txt w K mg) : Prm P w K mg base CX0 1 "_law_next" ["_law_tape_here", "_law_many"] sp_next := by
  refine T.d_law_next.ok sc_law_next (fun vs H Q E h => ?_) (fun f cdv A outer s H vs Q E hr h => ⟨_, (pss_cons (ps_asg (pe_op op_add (pe_ix (ixL K) (pv 0) pe_int (fun _ _ => rfl)) pe_int) (pg_sub (pv 0) pe_int set_list))
      (pss_cons (ps_if (pt_cmpR op_gt (pe_ix (ixL K) (pv 0) pe_int (fun _ _ => rfl)) pe_int (by rfl)) (pss_cons (ps_set (i := 2) sc_law_next.nd rfl (.inl rfl) (pe_op op_modN (pe_ix (ixL K) (pv 0) pe_int (fun _ _ => rfl)) (pv 1)))
      (pss_cons (ps_asg (pe_op op_fdivN (pe_ix (ixL K) (pv 0) pe_int (fun _ _ => rfl)) (pv 1)) (pg_sub (pv 0) pe_int set_list))
      (pss_one (ps_ret (pv 2))))) pss_nil)
      (pss_cons (ps_set (i := 3) sc_law_next.nd rfl (.inl rfl) (pe_mid (pe_ifExp (pt_cmpR (neD K (hu := hr.units)) (pe_ix (ixL K) (pv 0) pe_int (fun _ _ => rfl)) (pe_lst pa_nil) (by rfl)) (pe_ix (ixL K) (pe_ix (ixL K) (pv 0) pe_int (fun _ _ => rfl)) (pe_op op_modN (pe_ix (ixL K) (pv 0) pe_int (fun _ _ => rfl)) (pe_callB (lenC K) (by rfl) T.z_len (by decide +kernel) (pa_cons (pe_ix (ixL K) (pv 0) pe_int (fun _ _ => rfl)) pa_nil))) (fun _ _ => rfl)) pe_int)))
      (pss_cons (ps_asg (pe_op op_add (pe_ix (ixL K) (pv 0) pe_int (fun _ _ => rfl)) pe_int) (pg_sub (pv 0) pe_int set_list))
      (pss_cons (ps_if (pt_mid (PW.pt (pw_and (pt_cmpR op_ge (pv 3) (pe_op op_pow pe_int pe_int) (by rfl)) (pw_and1 (pt_cmpR op_le (pe_ix (ixL K) (pv 0) pe_int (fun _ _ => rfl)) (pe_callB (lenC K) (by rfl) T.z_len (by decide +kernel) (pa_cons (pe_ix (ixL K) (pv 0) pe_int (fun _ _ => rfl)) pa_nil)) (by rfl)))))) (pss_cons (ps_asg (pe_op op_fdivN (pv 3) (pv 1)) (pg_sub (pv 0) pe_int set_list))
      (pss_one (ps_ret (pe_op op_modN (pv 3) (pv 1))))) pss_nil)
      (pss_cons (ps_set (i := 4) sc_law_next.nd rfl (.inl rfl) (pe_op op_modN (pe_op op_mul (pe_op op_add (pe_op op_add (pe_op op_modN (pv 3) pe_int) (pe_op op_mul (pe_op op_mul pe_int (pe_ix (ixL K) (pv 0) pe_int (fun _ _ => rfl))) (pe_ix (ixL K) (pv 0) pe_int (fun _ _ => rfl)))) pe_int) pe_int) pe_int))
      (pss_cons (ps_set (i := 4) sc_law_next.nd rfl (.inl rfl) (pe_op op_modN (pe_op op_mul (pe_op op_add (pe_op op_fdivN (pv 4) pe_int) (pe_op op_mul pe_int (pe_ix (ixL K) (pv 0) pe_int (fun _ _ => rfl)))) pe_int) pe_int))
      (pss_one (ps_ret (pe_op op_modN (pe_op op_fdivN (pv 4) pe_int) (pv 1))))))))))), ?_⟩)
  · obtain ⟨t, l, m, c, rfl, _⟩ := h
    rfl
  obtain ⟨t, l, m, c, rfl, m1, m2, ⟨cs, i, d, n, ht, nlt, hl, few, n0, n1⟩, hc, q0⟩ := h
  have q : ∀ (d : Int) (H' : Hp), 0 ≤ d → d < m → SB t H H' → TapeAt H' t l (c + 1) → Q (.int d) H' := fun d H' h0 h1 s z => by
    have e : ((d.toNat : Nat) : Int) = d := Int.toNat_of_nonneg h0
    have y := q0 d.toNat H' (by omega) s z
    rw [e] at y
    exact y
  -- the count
  refine ⟨_, rfl, t, _, _, _, rfl, rfl, SqL.of ht, atI_nat (j := 3) rfl, n, 1, rfl, rfl, _, rfl, t, _, 3, 3, rfl, rfl, ht, rfl, ?_⟩
  have sb1 : SB t H (upd H t (.lst ([V.ref l, .int i, .int d, .int n].set 3 (.int (n + 1))))) := SB.upd
  have ht1 : (upd H t (.lst ([V.ref l, .int i, .int d, .int n].set 3 (.int (n + 1))))) t = some (.lst [.ref l, .int i, .int d, .int (n + 1)]) := upd_same
  have hl1 := sb1 _ _ nlt hl
  generalize upd H t (.lst ([V.ref l, .int i, .int d, .int n].set 3 (.int (n + 1)))) = H1 at *
  refine ⟨_, rfl, t, _, _, _, rfl, rfl, SqL.of ht1, atI_nat (j := 2) rfl, _, _, rfl, rfl, _, rfl, ite2 (fun g => ?_) (fun g => ?_)⟩
  · refine ⟨_, rfl, t, _, _, _, rfl, rfl, SqL.of ht1, atI_nat (j := 2) rfl, _, rfl, _, _, rfl, rfl, (by omega), ?_⟩
    refine ⟨_, rfl, t, _, _, _, rfl, rfl, SqL.of ht1, atI_nat (j := 2) rfl, _, rfl, _, _, rfl, rfl, ⟨by omega, by omega⟩, _, rfl, t, _, 2, 2, rfl, rfl, ht1, rfl, ?_⟩
    obtain ⟨f1, f2⟩ := fmod_in (a := d) (b := m) (by omega)
    exact ⟨_, rfl, q _ _ f1 f2 (sb1.trans SB.upd) ⟨cs, i, d.fdiv m, n + 1, upd_same, nlt, by rw [upd_ne nlt]; exact hl1, few, by omega, by omega⟩⟩
  refine ⟨fun v H' => (∃ z : Int, v = .int z) ∧ Same H1 H', ?_, ?_⟩
  · refine ⟨_, rfl, t, _, _, _, rfl, rfl, SqL.of ht1, ix0, Nat.zero_le _, fun e ne => ⟨.list (cs.map PyData.int), .list [], .lst (SqL.of ((same_new ne _) _ _ hl1)) (dp_int cs), .lst (SqL.of upd_same) .nil, PySem.W.shaped_ints cs, shapedNil, _, rfl, ?_⟩⟩
    rw [eqvNil]
    have se := same_new ne (.lst [])
    refine ite2 (fun g2 => ?_) (fun g2 => ⟨⟨7, rfl⟩, se⟩)
    have pos : 0 < cs.length := by
      cases cs with
      | nil => exact absurd g2 (by decide)
      | cons x r => exact Nat.succ_pos _
    have ht2 := se _ _ ht1
    have hl2 := se _ _ hl1
    refine ⟨_, rfl, t, _, _, _, rfl, rfl, SqL.of ht2, ix0, _, rfl, t, _, _, _, rfl, rfl, SqL.of ht2, atI_nat (j := 1) rfl, _, rfl, t, _, _, _, rfl, rfl, SqL.of ht2, ix0, l, _, rfl, .inl (SqL.of hl2), _, _, rfl, rfl, (by rw [List.length_map]; omega), ?_⟩
    rw [List.length_map]
    obtain ⟨f1, f2⟩ := fmod_in (a := i) (b := (cs.length : Nat)) (by omega)
    have e : i.fmod ((cs.length : Nat) : Int) = (((i.fmod ((cs.length : Nat) : Int)).toNat : Nat) : Int) := (Int.toNat_of_nonneg f1).symm
    have e2 : atI (cs.map V.int) (i.fmod ((cs.length : Nat) : Int)) = some (.int (cs.getD (i.fmod ((cs.length : Nat) : Int)).toNat 0)) := by
      rw [e]
      exact int_at (by omega)
    exact ⟨l, _, _, _, rfl, rfl, SqL.of hl2, e2, ⟨_, rfl⟩, se⟩
  · rintro v H2 ⟨⟨z, rfl⟩, s2⟩
    have ht2 := s2 _ _ ht1
    have hl2 := s2 _ _ hl1
    have sb2 := sb1.trans (SB.of s2)
    refine ⟨_, rfl, t, _, _, _, rfl, rfl, SqL.of ht2, atI_nat (j := 1) rfl, i, 1, rfl, rfl, _, rfl, t, _, 1, 1, rfl, rfl, ht2, rfl, ?_⟩
    have sb3 : SB t H2 (upd H2 t (.lst ([V.ref l, .int i, .int d, .int (n + 1)].set 1 (.int (i + 1))))) := SB.upd
    have ht3 : (upd H2 t (.lst ([V.ref l, .int i, .int d, .int (n + 1)].set 1 (.int (i + 1))))) t = some (.lst [.ref l, .int (i + 1), .int d, .int (n + 1)]) := upd_same
    have hl3 := sb3 _ _ nlt hl2
    have sb4 := sb2.trans sb3
    generalize upd H2 t (.lst ([V.ref l, .int i, .int d, .int (n + 1)].set 1 (.int (i + 1)))) = H3 at *
    refine ⟨fun b H' => H' = H3, ?_, ?_⟩
    · refine ⟨_, rfl, _, _, rfl, rfl, ⟨by decide, by decide, by decide⟩, _, _, rfl, rfl, _, rfl, ite2 (fun _ => ?_) (fun _ => rfl)⟩
      exact ⟨_, rfl, t, _, _, _, rfl, rfl, SqL.of ht3, atI_nat (j := 1) rfl, _, rfl, t, _, _, _, rfl, rfl, SqL.of ht3, ix0, l, _, rfl, .inl (SqL.of hl3), _, _, rfl, rfl, _, rfl, rfl⟩
    · rintro b H4 rfl
      refine ite2 (fun _ => ?_) (fun _ => ?_)
      · refine ⟨_, rfl, _, rfl, _, _, rfl, rfl, ⟨by omega, by omega⟩, _, rfl, t, _, 2, 2, rfl, rfl, ht3, rfl, ?_⟩
        obtain ⟨f1, f2⟩ := fmod_in (a := z) (b := m) (by omega)
        exact ⟨_, rfl, _, rfl, _, _, rfl, rfl, (by omega), q _ _ f1 f2 (sb4.trans SB.upd) ⟨cs, i + 1, z.fdiv m, n + 1, upd_same, nlt, by rw [upd_ne nlt]; exact hl3, few, by omega, by omega⟩⟩
      · -- the mixing
        refine ⟨_, rfl, _, 998244353, rfl, rfl, (show (998244353 : Int) ≠ 0 by decide), _, rfl, t, _, _, _, rfl, rfl, SqL.of ht3, atI_nat (j := 3) rfl, 5003, n + 1, rfl, rfl, .inl ⟨by decide, by decide⟩, _, rfl, t, _, _, _, rfl, rfl, SqL.of ht3, atI_nat (j := 3) rfl,
          5003 * (n + 1), n + 1, rfl, rfl, .inr ⟨by omega, by omega⟩, _, _, rfl, rfl, _, _, rfl, rfl, _, 69621, rfl, rfl, .inr ⟨by decide, by decide⟩, _, 2147483629, rfl, rfl, (show (2147483629 : Int) ≠ 0 by decide), ?_⟩
        refine ⟨_, rfl, _, 13, rfl, rfl, ⟨by decide, by decide⟩, _, rfl, t, _, _, _, rfl, rfl, SqL.of ht3, atI_nat (j := 3) rfl, 7919, n + 1, rfl, rfl, .inl ⟨by decide, by decide⟩, _, _, rfl, rfl, _, 48271, rfl, rfl, .inr ⟨by decide, by decide⟩, _, 2147483587, rfl, rfl, (show (2147483587 : Int) ≠ 0 by decide), ?_⟩
        refine ⟨_, rfl, _, 64, rfl, rfl, ⟨by decide, by decide⟩, _, rfl, _, m, rfl, rfl, (show m ≠ 0 by omega), ?_⟩
        have hm : 0 < m := by omega
        exact q _ _ (fmod_in hm).1 (fmod_in hm).2 sb4 ⟨cs, i + 1, d, n + 1, ht3, nlt, hl3, few, by omega, by omega⟩
end
end KB
/-! # Walks 8: the law's lows, needs, insides -/
namespace KB
open PySem PySem.Spec PyProof.Rows L2 KM
def isBare : Kd → Bool
  | .void => true | .unit => true | .one => true | .set => true | .row => true | .round => true | _ => false
theorem in_bare (k : Kd) : inV (.str (kw k)) [.str "void", .str "unit", .str "one", .str "set", .str "row", .str "round"] = isBare k := by cases k <;> simp only [kw, isBare] <;> decide +kernel
theorem bare_val {k : Kd} (h : isBare k = true) (L : List Nat) : ((valV (mergeK [] [(Sum.inr "void", V.int 20), (Sum.inr "one", V.int 1), (Sum.inr "round", V.int 1)]) (Sum.inr (kw k) : Key)).getD (.int 0)) = .int (low L k : Nat) := by
  cases k <;> simp only [isBare, Bool.false_eq_true] at h <;> simp only [kw, low] <;> rfl
theorem kp_cons {k : Kd} (h : isBare k = false) (h2 : ∀ i, k ≠ .rule i) : ∃ x r, kp k = x :: r := by
  cases k <;> first | (cases h; done) | exact ⟨_, _, rfl⟩ | exact absurd rfl (h2 _)
theorem kp_two {k : Kd} (h : isBare k = false) (h1 : ∀ i, k ≠ .rule i) (h2 : ∀ x, k ≠ .point x) (h3 : ∀ x, k ≠ .hole x) (h4 : ∀ x m n, k ≠ .sized x m n) : isPair k = true ∧ ∃ x y, kp k = [x, y] := by
  cases k <;> first | (cases h; done) | exact ⟨rfl, _, _, rfl⟩ | exact absurd rfl (h1 _) | exact absurd rfl (h2 _) | exact absurd rfl (h3 _) | exact absurd rfl (h4 _ _ _)
theorem pair_inn {k : Kd} (h : isPair k = true) (h1 : ∀ x y, k ≠ .this x y) (h2 : ∀ x y, k ≠ .both x y) : ∃ x y, k = .inn x y := by
  cases k <;> first | (cases h; done) | exact ⟨_, _, rfl⟩ | exact absurd rfl (h1 _ _) | exact absurd rfl (h2 _ _)
section
variable {P : Program} {w : World} {K : PySem.W.Frag} {mg : Str → Option Value} {base : Heap}
/-! ### _law_low: 0:_law_lows_here 1:_law_kind 2:_law_word 3:_law_first 4:_law_second -/
theorem sc_law_low : FnScope ["_law_lows_here", "_law_kind", "_law_word", "_law_first", "_law_second"] ["_law_lows_here", "_law_kind"] (defScope KH.s_law_low) := ⟨rfl, rfl, rfl, by decide +kernel, rfl, by decide +kernel, by decide +kernel⟩
theorem ok_law_low (T : Txt w K mg) : ∀ n, Prm P w K mg base CX0 (n + 1) "_law_low" ["_law_lows_here", "_law_kind"] (sp_low_of n)
  | 0 => T.d_law_low.never fun vs H Q E h => by
    obtain ⟨L, k, l, v, _, _, _, _, h, _⟩ := h
    omega
  | n + 1 => by
    have F_law_low := ok_law_low T n
    refine T.d_law_low.ok sc_law_low (fun vs H Q E h => ?_) (fun f cdv A outer s H vs Q E hr h => ⟨_, (pss_cons (ps_set (i := 2) sc_law_low.nd rfl (.inl rfl) (pe_ix (ixT K) (pv 1) pe_int (fun _ _ => rfl)))
      (pss_cons (ps_if (pt_cmpR (inQ K) (pv 2) (pe_tup (pa_cons pe_str (pa_cons pe_str (pa_cons pe_str (pa_cons pe_str (pa_cons pe_str (pa_cons pe_str pa_nil))))))) (by rfl)) (pss_one (ps_ret (pe_dget2 (hu_of hr) (pe_disp (pps_cons pe_str pe_int (pps_cons pe_str pe_int (pps_cons pe_str pe_int pps_nil))) (by rfl) (by rfl) (fun z => by cases z) (by decide)) (pv 2) pe_int ⟨by rfl, by rfl, by rfl, by rfl⟩))) pss_nil)
      (pss_cons (ps_if (pt_cmpR op_eq (pv 2) pe_str (by rfl)) (pss_one (ps_ret (pe_ix (ixT K) (pv 0) (pe_ix (ixT K) (pv 1) pe_int (fun _ _ => rfl)) (fun _ _ => rfl)))) pss_nil)
      (pss_cons (ps_set (i := 3) sc_law_low.nd rfl (.inl rfl) (pcl F_law_low (hr.mono (by omega)) (pa_cons (pv 0) (pa_cons (pe_ix (ixT K) (pv 1) pe_int (fun _ _ => rfl)) pa_nil))))
      (pss_cons (ps_if (pt_cmpR op_eq (pv 2) pe_str (by rfl)) (pss_one (ps_ret (pe_callB (call_max2 rfl) (by rfl) T.z_max (by decide +kernel) (pa_cons pe_int (pa_cons (pv 3) pa_nil))))) pss_nil)
      (pss_cons (ps_if (pt_cmpR op_eq (pv 2) pe_str (by rfl)) (pss_one (ps_ret (pe_callB (call_max2 rfl) (by rfl) T.z_max (by decide +kernel) (pa_cons pe_int (pa_cons (pe_op op_sub (pv 3) pe_int) pa_nil))))) pss_nil)
      (pss_cons (ps_if (pt_cmpR op_eq (pv 2) pe_str (by rfl)) (pss_one (ps_ret (pe_ifExp (pt_cmpR op_gt (pv 3) (pe_ix (ixT K) (pv 1) pe_int (fun _ _ => rfl)) (by rfl)) pe_int (pe_callB (call_max2 rfl) (by rfl) T.z_max (by decide +kernel) (pa_cons (pv 3) (pa_cons (pe_ix (ixT K) (pv 1) pe_int (fun _ _ => rfl)) pa_nil)))))) pss_nil)
      (pss_cons (ps_set (i := 4) sc_law_low.nd rfl (.inl rfl) (pcl F_law_low (hr.mono (by omega)) (pa_cons (pv 0) (pa_cons (pe_ix (ixT K) (pv 1) pe_int (fun _ _ => rfl)) pa_nil))))
      (pss_cons (ps_if (pt_cmpR op_eq (pv 2) pe_str (by rfl)) (pss_one (ps_ret (pe_callB (call_min2 rfl) (by rfl) T.z_min (by decide +kernel) (pa_cons (pv 3) (pa_cons (pv 4) pa_nil))))) pss_nil)
      (pss_one (ps_ret (pe_callB (call_min2 rfl) (by rfl) T.z_min (by decide +kernel) (pa_cons pe_int (pa_cons (pe_ifExp (pt_cmpR op_eq (pv 2) pe_str (by rfl)) (pe_op op_add (pv 3) (pv 4)) (pe_op op_mul (pv 3) (pv 4))) pa_nil)))))))))))))), ?_⟩)
    · obtain ⟨L, k, l, v, rfl, _⟩ := h
      rfl
    obtain ⟨L, k, l, v, rfl, hL, hk, hw, hd, q⟩ := h
    obtain ⟨⟨p, rfl, hp⟩, h20⟩ := id hL
    obtain ⟨a, us, rfl, ha, hs⟩ := hk.shape
    have b20 := low_le h20 hw
    refine ⟨_, rfl, a, _, _, _, rfl, rfl, SqT.of ha, atI_nat (j := 0) rfl, ?_⟩
    refine ⟨_, rfl, (by show 6 ≤ sizeLine; decide), fun t ht => ⟨t, _, rfl, .inr (SqT.of upd_same), rfl, rfl, _, rfl, ite2 (fun c => ?_) (fun c => ?_)⟩⟩
    · have c' : isBare k = true := (in_bare k).symm.trans c
      have s1 := same_new ht (.tup [.str "void", .str "unit", .str "one", .str "set", .str "row", .str "round"])
      intro d nd
      refine ⟨upd_same, [(Sum.inr "void", .int 20), (Sum.inr "one", .int 1), (Sum.inr "round", .int 1)], rfl, (by decide), d, rfl, .inl ⟨_, .inl upd_same⟩, _, rfl, _, DGet.k (k := Sum.inr (kw k)) upd_same, ?_⟩
      rw [bare_val c' L]
      exact q _ (s1.trans (Same.wr (same_new nd _) nd))
    have c' : isBare k = false := (in_bare k).symm.trans (Bool.eq_false_iff.mpr c)
    have s1 := same_new ht (.tup [.str "void", .str "unit", .str "one", .str "set", .str "row", .str "round"])
    generalize upd H t (.tup [.str "void", .str "unit", .str "one", .str "set", .str "row", .str "round"]) = H1 at *
    have hp1 := s1 _ _ hp
    have ha1 := s1 _ _ ha
    refine ⟨_, rfl, rfl, _, rfl, ite2 (fun e => ?_) (fun e => ?_)⟩
    · obtain ⟨i, rfl⟩ := kw_rule (V.str.inj (of_decide_eq_true e))
      match us, hs with
      | [], _ => exact ⟨_, rfl, _, rfl, a, _, _, _, rfl, rfl, SqT.of ha1, atI_nat (j := 1) rfl, p, _, _, _, rfl, rfl, SqT.of hp1, nV_at hw, q H1 s1⟩
    have nr : ∀ i, k ≠ .rule i := fun i z => e (by rw [strEq, z]; exact decide_eq_true rfl)
    obtain ⟨x, r, ek⟩ := kp_cons c' nr
    have mx : x ∈ kp k := by rw [ek]; exact List.mem_cons_self
    have wx := kp_wf hw x mx
    have dx := kp_dep x mx
    have bx := low_le h20 wx
    rw [ek] at hs
    match us, hs with
    | v :: us, ⟨kx, hr⟩ =>
    refine ⟨_, rfl, _, rfl, a, _, _, _, rfl, rfl, SqT.of ha1, atI_nat (j := 1) rfl, L, x, _, v, rfl, hL.sm s1, kx.tk (TK.of s1), wx, by omega, fun H2 s2 => ?_⟩
    have s02 := s1.trans s2
    have ha2 := s2 _ _ ha1
    refine ⟨_, rfl, rfl, _, rfl, ite2 (fun e => ?_) (fun e => ?_)⟩
    · obtain ⟨y, rfl⟩ := kw_point (V.str.inj (of_decide_eq_true e))
      obtain rfl : y = x := (List.cons.inj ek).1
      refine ⟨_, rfl, _, _, rfl, ?_⟩
      have z := q H2 s02
      have g : (if (1 : Int) < ((low L y : Nat) : Int) then ((low L y : Nat) : Int) else (1 : Int)) = ((low L (.point y) : Nat) : Int) := by
        simp only [low]
        split <;> omega
      rw [g]
      exact z
    have np : ∀ i, k ≠ .point i := fun i z => e (by rw [strEq, z]; exact decide_eq_true rfl)
    refine ⟨_, rfl, rfl, _, rfl, ite2 (fun e => ?_) (fun e => ?_)⟩
    · obtain ⟨y, rfl⟩ := kw_hole (V.str.inj (of_decide_eq_true e))
      obtain rfl : y = x := (List.cons.inj ek).1
      refine ⟨_, rfl, _, _, rfl, rfl, _, _, rfl, ?_⟩
      have z := q H2 s02
      have g : (if (0 : Int) < ((low L y : Nat) : Int) - 1 then ((low L y : Nat) : Int) - 1 else (0 : Int)) = ((low L (.hole y) : Nat) : Int) := by
        simp only [low]
        split <;> omega
      rw [g]
      exact z
    have nh : ∀ i, k ≠ .hole i := fun i z => e (by rw [strEq, z]; exact decide_eq_true rfl)
    refine ⟨_, rfl, rfl, _, rfl, ite2 (fun e => ?_) (fun e => ?_)⟩
    · obtain ⟨y, lo, hi, rfl⟩ := kw_sized (V.str.inj (of_decide_eq_true e))
      obtain rfl : y = x := (List.cons.inj ek).1
      obtain rfl : [] = r := (List.cons.inj ek).2
      match us, hr with
      | [], _ =>
      have z := q H2 s02
      simp only [low] at z
      refine ⟨_, rfl, _, rfl, a, _, _, _, rfl, rfl, SqT.of ha2, atI_nat (j := 3) rfl, _, _, rfl, rfl, _, rfl, ite2 (fun g => ?_) (fun g => ?_)⟩
      · have g' : ((hi : Nat) : Int) < ((low L y : Nat) : Int) := of_decide_eq_true g
        rw [if_pos (by omega)] at z
        exact z
      · have g' : ¬ ((hi : Nat) : Int) < ((low L y : Nat) : Int) := of_decide_eq_false (Bool.eq_false_iff.mpr g)
        rw [if_neg (by omega)] at z
        refine ⟨_, rfl, _, rfl, a, _, _, _, rfl, rfl, SqT.of ha2, atI_nat (j := 2) rfl, _, _, rfl, ?_⟩
        have g : (if ((low L y : Nat) : Int) < ((lo : Nat) : Int) then ((lo : Nat) : Int) else ((low L y : Nat) : Int)) = ((max (low L y) lo : Nat) : Int) := by split <;> omega
        rw [g]
        exact z
    have ns : ∀ i m n, k ≠ .sized i m n := fun i m n z => e (by rw [strEq, z]; exact decide_eq_true rfl)
    obtain ⟨pk, x', y, ek2⟩ := kp_two c' nr np nh ns
    have ek3 := ek.symm.trans ek2
    obtain rfl : x = x' := (List.cons.inj ek3).1
    obtain rfl : r = [y] := (List.cons.inj ek3).2
    have my : y ∈ kp k := by rw [ek]; simp
    have wy := kp_wf hw y my
    have dy := kp_dep y my
    have by20 := low_le h20 wy
    match us, hr with
    | [vy], ⟨ky, _⟩ =>
    refine ⟨_, rfl, _, rfl, a, _, _, _, rfl, rfl, SqT.of ha2, atI_nat (j := 2) rfl, L, y, _, vy, rfl, hL.sm s02, ky.tk (TK.of s02), wy, by omega, fun H3 s3 => ?_⟩
    have s03 := s02.trans s3
    have z := q H3 s03
    refine ⟨_, rfl, rfl, _, rfl, ite2 (fun e => ?_) (fun e => ?_)⟩
    · obtain ⟨x1, y1, rfl⟩ := kw_this (V.str.inj (of_decide_eq_true e))
      simp only [kp, List.cons.injEq, and_true] at ek
      obtain ⟨rfl, rfl⟩ := ek
      refine ⟨_, rfl, _, rfl, _, _, rfl, ?_⟩
      have g : (if ((low L y1 : Nat) : Int) < ((low L x1 : Nat) : Int) then ((low L y1 : Nat) : Int) else ((low L x1 : Nat) : Int)) = ((low L (.this x1 y1) : Nat) : Int) := by
        simp only [low]
        split <;> omega
      rw [g]
      exact z
    have nt : ∀ i j, k ≠ .this i j := fun i j z => e (by rw [strEq, z]; exact decide_eq_true rfl)
    refine ⟨_, rfl, rfl, _, rfl, ite2 (fun e => ?_) (fun e => ?_)⟩
    · obtain ⟨x1, y1, rfl⟩ := kw_both (V.str.inj (of_decide_eq_true e))
      simp only [kp, List.cons.injEq, and_true] at ek
      obtain ⟨rfl, rfl⟩ := ek
      refine ⟨_, rfl, _, rfl, _, _, rfl, rfl, _, _, rfl, ?_⟩
      have g : (if ((low L x1 : Nat) : Int) + ((low L y1 : Nat) : Int) < (20 : Int) then ((low L x1 : Nat) : Int) + ((low L y1 : Nat) : Int) else (20 : Int)) = ((low L (.both x1 y1) : Nat) : Int) := by
        simp only [low]
        split <;> omega
      rw [g]
      exact z
    · obtain ⟨x1, y1, rfl⟩ := pair_inn pk nt fun i j z => e (by rw [strEq, z]; exact decide_eq_true rfl)
      simp only [kp, List.cons.injEq, and_true] at ek
      obtain ⟨rfl, rfl⟩ := ek
      refine ⟨_, rfl, _, rfl, _, _, rfl, rfl, .inl ⟨by omega, by omega⟩, _, _, rfl, ?_⟩
      have g : (if ((low L x1 : Nat) : Int) * ((low L y1 : Nat) : Int) < (20 : Int) then ((low L x1 : Nat) : Int) * ((low L y1 : Nat) : Int) else (20 : Int)) = ((low L (.inn x1 y1) : Nat) : Int) := by
        simp only [low]
        have e : ((low L x1 : Nat) : Int) * ((low L y1 : Nat) : Int) = ((low L x1 * low L y1 : Nat) : Int) := by omega
        rw [e]
        split <;> omega
      rw [g]
      exact z
/-! ### _law_lows: 0:_law_rules 1:_law_lows_here 2:_law_turn 3:_law_lesser 4:_law_i -/
theorem sc_law_lows : FnScope ["_law_rules", "_law_lows_here", "_law_turn", "_law_lesser", "_law_i"] ["_law_rules"] (defScope KH.s_law_lows) := ⟨rfl, rfl, rfl, by decide +kernel, rfl, by decide +kernel, by decide +kernel⟩
theorem ok_law_lows (T : Txt w K mg) (F_law_low : Prm P w K mg base CX0 7 "_law_low" ["_law_lows_here", "_law_kind"] (sp_low_of 6)) : Prm P w K mg base CX0 8 "_law_lows" ["_law_rules"] sp_greatest_lows := by
  refine T.d_law_lows.ok sc_law_lows (fun vs H Q E h => ?_) (fun f cdv A outer s H vs Q E hr h => ⟨_, (pss_cons (ps_set (i := 1) sc_law_lows.nd rfl (.inr rfl) (pe_mid (pe_op (mulT K) (pe_tup (pa_cons pe_int pa_nil)) (pe_callB (lenC K) (by rfl) T.z_len (by decide +kernel) (pa_cons (pv 0) pa_nil)))))
      (pss_cons (ps_for PassesOwn.never rfl (pi_range1 (by rfl) T.z_range (pa_cons (pe_op op_mul pe_int (pe_callB (lenC K) (by rfl) T.z_len (by decide +kernel) (pa_cons (pv 0) pa_nil))) pa_nil)) (pg_name (i := 2) sc_law_lows.nd rfl (Or.inl rfl)) (pss_cons (ps_set (i := 3) sc_law_lows.nd rfl (.inl rfl) (pe_callTy (tupC K) (by rfl) T.z_tuple (by decide +kernel) (pa_cons (pe_lc (own := [("_law_i", 4)]) (g := gName 4) (by rfl) sc_law_lows.nd (pi_range1 (by rfl) T.z_range (pa_cons (pe_callB (lenC K) (by rfl) T.z_len (by decide +kernel) (pa_cons (pv 0) pa_nil)) pa_nil)) (blkOk_by (by kernel_rfl)) (fun _ _ _ _ _ => pg_name (i := 4) sc_law_lows.nd rfl (Or.inl rfl)) (fun _ _ _ _ _ => pts_nil) (fun _ _ _ _ _ => (pe_callB (call_min2 rfl) (by rfl) T.z_min (by decide +kernel) (pa_cons (pe_ix (ixT K) (pv 1) (pv 4) (fun _ _ => rfl)) (pa_cons (pcl F_law_low (hr.mono (by omega)) (pa_cons (pv 1) (pa_cons (pe_ix (ixT K) (pv 0) (pv 4) (fun _ _ => rfl)) pa_nil))) pa_nil))))) pa_nil)))
      (pss_cons (ps_if (pt_cmpR (eqD K (hu := hr.units)) (pv 3) (pv 1) (by rfl)) (pss_one (ps_ret (pv 1))) pss_nil)
      (pss_one (ps_set (i := 1) sc_law_lows.nd rfl (.inr rfl) (pv 3))))))
      (pss_one (ps_ret (pv 1))))), ?_⟩)
  · obtain ⟨ks, rv, rfl, _⟩ := h
    rfl
  obtain ⟨ks, rv, rfl, hR, ⟨h1, h4, hw⟩, q⟩ := h
  obtain ⟨r, us, rfl, hr', hks⟩ := id hR
  have hlen := hks.len
  have turn : ∀ (L : List Nat) (pl : Addr) (H1 : Hp) (i : Nat) (Y : V → Hp → Prop), Same H H1 → H1 pl = some (.tup (nV L)) → (∀ j : Nat, L.getD j 0 ≤ 20) → L.length = ks.length → i < ks.length →
      (∀ H4, Same H1 H4 → Y (.int (min (L.getD i 0) (low L (ks.getD i .void)) : Nat)) H4) → ∃ v, us[i]? = some v ∧ KAt H1 (ks.getD i .void) v ∧ sp_low_of 6 [.ref pl, v] H1 (fun x H2 => ∃ a b : Int, [V.int (L.getD i 0 : Nat), x] = [.int a, .int b] ∧ Y (.int (if b < a then b else a)) H2) E0 := by
    intro L pl H1 i Y s1 hpl h20 eL hi hY
    obtain ⟨v, hv, kv⟩ := hks.at hi
    obtain ⟨wk, dk⟩ := hw _ (getD_mem (d := Kd.void) hi)
    refine ⟨v, hv, kv.tk (TK.of s1), L, _, _, v, rfl, ⟨⟨pl, rfl, hpl⟩, h20⟩, kv.tk (TK.of s1), by rw [eL]; exact wk, by omega, fun H2 s2 => ⟨_, _, rfl, ?_⟩⟩
    have e : (if ((low L (ks.getD i .void) : Nat) : Int) < ((L.getD i 0 : Nat) : Int) then ((low L (ks.getD i .void) : Nat) : Int) else ((L.getD i 0 : Nat) : Int)) = ((min (L.getD i 0) (low L (ks.getD i .void)) : Nat) : Int) := by split <;> omega
    rw [e]
    exact hY H2 s2
  refine ⟨fun v H1 => ∃ pl, v = .ref pl ∧ Same H H1 ∧ H1 pl = some (.tup (nV (iter ks 0))), ?_, ?_⟩
  · refine ⟨by show 1 ≤ sizeLine; decide, fun p0 n0 => ⟨_, rfl, r, us, rfl, .inr (SqT.of (same_new n0 _ _ _ hr')), ?_⟩⟩
    have s0 := same_new n0 (.tup [.int 20])
    refine ⟨p0, _, _, rfl, rfl, SqT.of upd_same, (by simp), by omega, by omega, by simp, fun e => ⟨p0, rfl, s0, ?_⟩, fun e p1 n1 => ⟨p1, rfl, s0.trans (same_new n1 _), ?_⟩⟩
    · rw [upd_same]
      have : ks.length = 1 := by omega
      unfold iter
      rw [this]
      rfl
    · rw [upd_same, hlen, Int.toNat_natCast, rep_nV]
      rfl
  rintro v H1 ⟨pl, rfl, s1, e1⟩
  refine ⟨_, rfl, r, us, rfl, .inr (SqT.of (s1 _ _ hr')), _, _, rfl, rfl, .inl ⟨by decide, by decide⟩, (21 : Int) * (us.length : Nat), rfl, by omega, by omega, ?_⟩
  refine for_range (fun t σ' H' => ∃ (pl : Addr) (o1 o2 : Option V), σ' = [some (.ref r), some (.ref pl), o1, o2, none] ∧ Same H H' ∧ H' pl = some (.tup (nV (iter ks t)))) ⟨pl, none, none, rfl, s1, e1⟩ ?_ ?_
  · rintro t σ' H3 ht ⟨pl, o1, o2, rfl, s3, e3⟩
    refine ⟨_, rfl, r, us, rfl, .inr (SqT.of (s3 _ _ hr')), (us.length : Nat), rfl, by omega, by omega, fun D hD => ?_⟩
    refine pc_range0 (fun i => some (V.int (min ((iter ks t).getD i 0) (low (iter ks t) (ks.getD i .void)) : Nat))) (by rw [Int.toNat_natCast, hlen]) hD (by omega) (fun _ => rfl) (fun i H2 hi s4 => turn_yes fun Y hY => ?_) (fun H4 s4 e5 => ?_)
    · have s34 := s3.trans s4
      obtain ⟨v, hv, kv, z⟩ := turn (iter ks t) pl H2 i Y s34 (s4 _ _ e3) (iter_le20 ks t) (iter_len ks t) hi hY
      exact ⟨_, rfl, _, rfl, pl, _, _, _, rfl, rfl, SqT.of (s4 _ _ e3), nV_at (by rw [iter_len]; exact hi), _, rfl, _, rfl, _, rfl, r, _, _, _, rfl, rfl, SqT.of (s34 _ _ hr'), atI_nat hv, z⟩
    · rw [fm_map, lows_turn (iter_len ks t)] at e5
      refine ⟨D, _, rfl, .inl ⟨SqL.of e5, fun pn nn => ?_⟩⟩
      have sn := same_new nn (.tup (nV (lstep ks (iter ks t))))
      have s5 := (s3.trans s4).trans sn
      have e3' := sn _ _ (s4 _ _ e3)
      have e4 : (upd H4 pn (.tup (nV (iter ks (t + 1))))) pn = some (.tup (nV (iter ks (t + 1)))) := upd_same
      refine ⟨_, rfl, _, rfl, _, _, .tup (SqT.of e4) (dp_nV _), .tup (SqT.of e3') (dp_nV _), shaped_nV _, shaped_nV _, _, rfl, ?_⟩
      have ee : PyData.eqv (.tuple ((iter ks (t + 1)).map fun x => PyData.int (x : Nat))) (.tuple ((iter ks t).map fun x => PyData.int (x : Nat))) = decide (iter ks (t + 1) = iter ks t) := by
        simp only [PyData.eqv]
        exact eqv_nV _ _
      rw [ee]
      refine ite2 (fun c => ?_) (fun c => ?_)
      · have c' : iter ks (t + 1) = iter ks t := by simpa using c
        refine ⟨_, rfl, q _ _ s5 ⟨⟨pl, rfl, ?_⟩, glow_le20 ks⟩⟩
        rw [← glow_of_stop c']
        exact e3'
      · exact ⟨_, rfl, pn, _, _, rfl, s5, e4⟩
  · rintro σ' H3 ⟨pl, o1, o2, rfl, s3, e3⟩
    refine ⟨_, rfl, q _ _ s3 ⟨⟨pl, rfl, ?_⟩, glow_le20 ks⟩⟩
    rw [e3]
    have g := glow_of_late (rules := ks) (t := ((21 : Int) * (us.length : Nat)).toNat) (by omega)
    rw [g]
/-! ### _law_needs: 0:_law_lows_here 1:_law_kind 2:_law_word 3:_law_first 4:_law_second 5:_law_low_here 6:_law_other -/
theorem sc_law_needs : FnScope ["_law_lows_here", "_law_kind", "_law_word", "_law_first", "_law_second", "_law_low_here", "_law_other"] ["_law_lows_here", "_law_kind"] (defScope KH.s_law_needs) := ⟨rfl, rfl, rfl, by decide +kernel, rfl, by decide +kernel, by decide +kernel⟩
def sp_law_needs (n : Nat) : Sp := fun vs H Q _ => ∃ (L : List Nat) (k : Kd) (l v : V), vs = [l, v] ∧ LowsAt H L l ∧ KAt H k v ∧ wf L.length k ∧ dep k < n ∧ dep k ≤ 5 ∧
  ∀ (H' : Hp) (p : Addr), Same H H' → H' p = some (.lst (nV (needs L k))) → Q (.ref p) H'
def isHole : Kd → Bool
  | .hole _ => true | _ => false
theorem in_bareHole (k : Kd) : inV (.str (kw k)) [.str "void", .str "unit", .str "one", .str "set", .str "row", .str "round", .str "hole"] = (isBare k || isHole k) := by cases k <;> simp only [kw, isBare, isHole] <;> decide +kernel
theorem in_ps (k : Kd) : inV (.str (kw k)) [.str "point", .str "sized"] = (isOne k && !isHole k) := by cases k <;> simp only [kw, isOne, isHole] <;> decide +kernel
theorem rep_if (c : Bool) (xs : List V) : (List.replicate (Int.toNat (if c = true then (1 : Int) else 0)) xs).flatten = if c = true then xs else [] := by cases c <;> simp
theorem ifB (c : Bool) : -(2 ^ 63) ≤ (if c = true then (1 : Int) else 0) ∧ (if c = true then (1 : Int) else 0) < 2 ^ 63 ∧ (if c = true then (1 : Int) else 0).toNat ≤ 1 := by cases c <;> decide
theorem rep_needs {c : Bool} {p : Prop} [Decidable p] (h : c = true ↔ p) (L : List Nat) : (List.replicate (Int.toNat (if c = true then (1 : Int) else 0)) (nV L)).flatten = nV (if p then L else []) := by
  rw [rep_if]
  by_cases d : p
  · rw [if_pos (h.mpr d), if_pos d]
  · rw [if_neg (fun z => d (h.mp z)), if_neg d] <;> rfl
theorem rep_few {c : Bool} {n : Nat} (h : n ≤ 32) : n * (if c = true then (1 : Int) else 0).toNat ≤ sizeLine := small (by
  have := Nat.mul_le_mul_left n (ifB c).2.2
  omega)
theorem nV_if {p : Prop} [Decidable p] (L : List Nat) : (if p then nV L else []) = nV (if p then L else []) := by
  by_cases c : p
  · rw [if_pos c, if_pos c]
  · rw [if_neg c, if_neg c] <;> rfl
theorem ok_law_needs (T : Txt w K mg) (F_law_low : Prm P w K mg base CX0 7 "_law_low" ["_law_lows_here", "_law_kind"] (sp_low_of 6)) : ∀ n, Prm P w K mg base CX0 (n + 8) "_law_needs" ["_law_lows_here", "_law_kind"] (sp_law_needs n)
  | 0 => T.d_law_needs.never fun vs H Q E h => by
    obtain ⟨L, k, l, v, _, _, _, _, h, _⟩ := h
    omega
  | n + 1 => by
    have F_law_needs := ok_law_needs T F_law_low n
    refine T.d_law_needs.ok sc_law_needs (fun vs H Q E h => ?_) (fun f cdv A outer s H vs Q E hr h => ⟨_, (pss_cons (ps_set (i := 2) sc_law_needs.nd rfl (.inl rfl) (pe_ix (ixT K) (pv 1) pe_int (fun _ _ => rfl)))
      (pss_cons (ps_if (pt_cmpR op_eq (pv 2) pe_str (by rfl)) (pss_one (ps_ret (pe_lst (pa_cons (pe_ix (ixT K) (pv 1) pe_int (fun _ _ => rfl)) pa_nil)))) pss_nil)
      (pss_cons (ps_if (pt_cmpR (inQ K) (pv 2) (pe_tup (pa_cons pe_str (pa_cons pe_str (pa_cons pe_str (pa_cons pe_str (pa_cons pe_str (pa_cons pe_str (pa_cons pe_str pa_nil)))))))) (by rfl)) (pss_one (ps_ret (pe_lst pa_nil))) pss_nil)
      (pss_cons (ps_set (i := 3) sc_law_needs.nd rfl (.inl rfl) (pcl F_law_needs (hr.mono (by omega)) (pa_cons (pv 0) (pa_cons (pe_ix (ixT K) (pv 1) pe_int (fun _ _ => rfl)) pa_nil))))
      (pss_cons (ps_if (pt_cmpR (inQ K) (pv 2) (pe_tup (pa_cons pe_str (pa_cons pe_str pa_nil))) (by rfl)) (pss_one (ps_ret (pv 3))) pss_nil)
      (pss_cons (ps_set (i := 4) sc_law_needs.nd rfl (.inl rfl) (pcl F_law_needs (hr.mono (by omega)) (pa_cons (pv 0) (pa_cons (pe_ix (ixT K) (pv 1) pe_int (fun _ _ => rfl)) pa_nil))))
      (pss_cons (ps_if (pt_cmpR op_eq (pv 2) pe_str (by rfl)) (pss_one (ps_ret (pe_op op_cat (pv 3) (pv 4)))) pss_nil)
      (pss_cons (ps_par (i := 5) (j := 6) (by rfl) sc_law_needs.nd rfl rfl (by decide) rfl rfl (pa_cons (pcl F_law_low (hr.mono (by omega)) (pa_cons (pv 0) (pa_cons (pe_ix (ixT K) (pv 1) pe_int (fun _ _ => rfl)) pa_nil))) (pa_cons (pcl F_law_low (hr.mono (by omega)) (pa_cons (pv 0) (pa_cons (pe_ix (ixT K) (pv 1) pe_int (fun _ _ => rfl)) pa_nil))) pa_nil)) (by rfl))
      (pss_cons (ps_if (pt_cmpR op_eq (pv 2) pe_str (by rfl)) (pss_one (ps_ret (pe_op op_cat (pe_op op_rep (pv 3) (pe_callTy call_int1 (by rfl) T.z_int (by decide +kernel) (pa_cons (pe_cmpR op_eq (pv 6) pe_int (by rfl)) pa_nil))) (pe_op op_rep (pv 4) (pe_callTy call_int1 (by rfl) T.z_int (by decide +kernel) (pa_cons (pe_cmpR op_eq (pv 5) pe_int (by rfl)) pa_nil)))))) pss_nil)
      (pss_one (ps_ret (pe_op op_cat (pe_op op_rep (pv 3) (pe_callTy call_int1 (by rfl) T.z_int (by decide +kernel) (pa_cons (pe_or (pe_cmpR op_lt (pv 6) pe_int (by rfl)) (pe_one (pe_cmpR op_eq (pv 5) pe_int (by rfl)))) pa_nil))) (pe_op op_rep (pv 4) (pe_callTy call_int1 (by rfl) T.z_int (by decide +kernel) (pa_cons (pe_cmpR op_lt (pv 5) pe_int (by rfl)) pa_nil))))))))))))))), ?_⟩)
    · obtain ⟨L, k, l, v, rfl, _⟩ := h
      rfl
    obtain ⟨L, k, l, v, rfl, hL, hk, hw, hd, h5, q⟩ := h
    obtain ⟨⟨p, rfl, hp⟩, h20⟩ := id hL
    obtain ⟨a, us, rfl, ha, hs⟩ := hk.shape
    refine ⟨_, rfl, a, _, _, _, rfl, rfl, SqT.of ha, atI_nat (j := 0) rfl, ?_⟩
    refine ⟨_, rfl, rfl, _, rfl, ite2 (fun e => ?_) (fun e => ?_)⟩
    · obtain ⟨i, rfl⟩ := kw_rule (V.str.inj (of_decide_eq_true e))
      match us, hs with
      | [], _ => exact ⟨_, rfl, a, _, _, _, rfl, rfl, SqT.of ha, atI_nat (j := 1) rfl, (by show 1 ≤ sizeLine; decide), fun p hp => q _ p (same_new hp _) upd_same⟩
    have nr : ∀ i, k ≠ .rule i := fun i z => e (by rw [strEq, z]; exact decide_eq_true rfl)
    refine ⟨_, rfl, (by show 7 ≤ sizeLine; decide), fun t ht => ⟨t, _, rfl, .inr (SqT.of upd_same), rfl, rfl, _, rfl, ite2 (fun c => ?_) (fun c => ?_)⟩⟩
    · have c' := (in_bareHole k).symm.trans c
      have s1 := same_new ht (.tup [.str "void", .str "unit", .str "one", .str "set", .str "row", .str "round", .str "hole"])
      refine ⟨(by show 0 ≤ sizeLine; decide), fun p np => q _ p (s1.trans (same_new np _)) ?_⟩
      have e : needs L k = [] := by
        rw [Bool.or_eq_true] at c'
        rcases c' with c' | c'
        · cases k <;> first | rfl | cases c'
        · cases k <;> first | rfl | cases c'
      rw [e, upd_same] <;> rfl
    have c' : (isBare k || isHole k) = false := (in_bareHole k).symm.trans (Bool.eq_false_iff.mpr c)
    rw [Bool.or_eq_false_iff] at c'
    have s1 := same_new ht (.tup [.str "void", .str "unit", .str "one", .str "set", .str "row", .str "round", .str "hole"])
    generalize upd H t (.tup [.str "void", .str "unit", .str "one", .str "set", .str "row", .str "round", .str "hole"]) = H1 at *
    have hp1 := s1 _ _ hp
    have ha1 := s1 _ _ ha
    obtain ⟨x, r, ek⟩ := kp_cons c'.1 nr
    have mx : x ∈ kp k := by rw [ek]; exact List.mem_cons_self
    have wx := kp_wf hw x mx
    have dx := kp_dep x mx
    rw [ek] at hs
    match us, hs with
    | v :: us, ⟨kx, hr⟩ =>
    refine ⟨_, rfl, _, rfl, a, _, _, _, rfl, rfl, SqT.of ha1, atI_nat (j := 1) rfl, L, x, _, v, rfl, hL.sm s1, kx.tk (TK.of s1), wx, by omega, by omega, fun H2 p1 s2 e1 => ?_⟩
    have s02 := s1.trans s2
    have ha2 := s2 _ _ ha1
    refine ⟨_, rfl, (by show 2 ≤ sizeLine; decide), fun t ht => ⟨t, _, rfl, .inr (SqT.of upd_same), rfl, rfl, _, rfl, ite2 (fun c => ?_) (fun c => ?_)⟩⟩
    · have c2 := (in_ps k).symm.trans c
      rw [Bool.and_eq_true] at c2
      have sn := same_new ht (.tup [.str "point", .str "sized"])
      have z := q _ p1 (s02.trans sn) (by
        have e : needs L k = needs L x := by
          cases k <;> first | (cases c2.1; done) | (cases c'.2; done) | (simp only [kp, List.cons.injEq] at ek; rw [← ek.1]; rfl)
        rw [e]
        exact sn _ _ e1)
      exact ⟨_, rfl, z⟩
    have c2 : (isOne k && !isHole k) = false := (in_ps k).symm.trans (Bool.eq_false_iff.mpr c)
    rw [c'.2, Bool.not_false, Bool.and_true] at c2
    have sn := same_new ht (.tup [.str "point", .str "sized"])
    generalize upd H2 t (.tup [.str "point", .str "sized"]) = H3 at *
    have s03 := s02.trans sn
    have ha3 := sn _ _ ha2
    have e1' := sn _ _ e1
    obtain ⟨pk, x', y, ek2⟩ := kp_two c'.1 nr (fun x z => by rw [z] at c2; cases c2) (fun x z => by rw [z] at c2; cases c2) (fun x m n z => by rw [z] at c2; cases c2)
    have ek3 := ek.symm.trans ek2
    obtain rfl : x = x' := (List.cons.inj ek3).1
    obtain rfl : r = [y] := (List.cons.inj ek3).2
    have my : y ∈ kp k := by rw [ek]; simp
    have wy := kp_wf hw y my
    have dy := kp_dep y my
    have fx := few32 (L := L) (k := x) (by omega)
    have fy := few32 (L := L) (k := y) (by omega)
    match us, hr with
    | [vy], ⟨ky, _⟩ =>
    refine ⟨_, rfl, _, rfl, a, _, _, _, rfl, rfl, SqT.of ha3, atI_nat (j := 2) rfl, L, y, _, vy, rfl, hL.sm s03, ky.tk (TK.of s03), wy, by omega, by omega, fun H4 p2 s4 e2 => ?_⟩
    have s04 := s03.trans s4
    have ha4 := s4 _ _ ha3
    have e1'' := s4 _ _ e1'
    refine ⟨_, rfl, rfl, _, rfl, ite2 (fun e => ?_) (fun e => ?_)⟩
    · obtain ⟨x1, y1, rfl⟩ := kw_this (V.str.inj (of_decide_eq_true e))
      simp only [kp, List.cons.injEq, and_true] at ek
      obtain ⟨rfl, rfl⟩ := ek
      refine ⟨_, rfl, _, rfl, p1, p2, _, _, rfl, rfl, e1'', e2, small (by rw [nV_len, nV_len]; omega), fun p np => q _ p (s04.trans (same_new np _)) ?_⟩
      rw [upd_same, ← nV_app] <;> rfl
    have nt : ∀ i j, k ≠ .this i j := fun i j z => e (by rw [strEq, z]; exact decide_eq_true rfl)
    refine ⟨_, rfl, _, rfl, a, _, _, _, rfl, rfl, SqT.of ha4, atI_nat (j := 1) rfl, L, x, _, v, rfl, hL.sm s04, kx.tk (TK.of s04), wx, by omega, fun H5 s5 => ?_⟩
    have s05 := s04.trans s5
    refine ⟨_, rfl, _, rfl, a, _, _, _, rfl, rfl, SqT.of (s5 _ _ ha4), atI_nat (j := 2) rfl, L, y, _, vy, rfl, hL.sm s05, ky.tk (TK.of s05), wy, by omega, fun H6 s6 => ?_⟩
    have s06 := s05.trans s6
    have g1 := (s5.trans s6) _ _ e1''
    have g2 := (s5.trans s6) _ _ e2
    refine ⟨_, _, rfl, ?_⟩
    refine ⟨_, rfl, rfl, _, rfl, ite2 (fun e => ?_) (fun e => ?_)⟩
    · obtain ⟨x1, y1, rfl⟩ := kw_both (V.str.inj (of_decide_eq_true e))
      simp only [kp, List.cons.injEq, and_true] at ek
      obtain ⟨rfl, rfl⟩ := ek
      refine ⟨_, rfl, _, rfl, rfl, .inr ⟨_, rfl, p1, _, _, rfl, rfl, g1, (ifB _).1, (ifB _).2.1, rep_few (by rw [nV_len]; exact fx), fun q1 n1 => ?_⟩⟩
      have s7 := same_new n1 (.lst (nV (if low L y1 = 0 then needs L x1 else [])))
      rw [rep_needs (p := low L y1 = 0) (by rw [intEq, decide_eq_true_eq]; omega)]
      refine ⟨_, rfl, _, rfl, rfl, .inr ⟨_, rfl, p2, _, _, rfl, rfl, s7 _ _ g2, (ifB _).1, (ifB _).2.1, rep_few (by rw [nV_len]; exact fy), fun q2 n2 => ?_⟩⟩
      rw [rep_needs (p := low L x1 = 0) (by rw [intEq, decide_eq_true_eq]; omega)]
      have s8 := same_new n2 (.lst (nV (if low L x1 = 0 then needs L y1 else [])))
      refine ⟨q1, q2, _, _, rfl, rfl, s8 _ _ upd_same, upd_same, small ?_, fun p np => q _ p (((s06.trans s7).trans s8).trans (same_new np _)) ?_⟩
      · rw [nV_len, nV_len]
        split <;> split <;> (try simp only [List.length_nil]) <;> omega
      · rw [upd_same, ← nV_app] <;> rfl
    · obtain ⟨x1, y1, rfl⟩ := pair_inn pk nt fun i j z => e (by rw [strEq, z]; exact decide_eq_true rfl)
      simp only [kp, List.cons.injEq, and_true] at ek
      obtain ⟨rfl, rfl⟩ := ek
      have tail : ∀ (q1 : Addr) (H7 : Hp), Same H6 H7 → H7 q1 = some (.lst (nV (if low L y1 < 2 ∨ low L x1 = 0 then needs L x1 else []))) → ∀ Q' : V → Hp → Prop, (∀ (H' : Hp) (p : Addr), Same H H' → H' p = some (.lst (nV (needs L (.inn x1 y1)))) → Q' (.ref p) H') →
          rRep (.ref p2) (.int (if decide (((low L x1 : Nat) : Int) < 2) = true then 1 else 0)) H7 (fun v H8 => rCat (.ref q1) v H8 Q') := by
        intro q1 H7 s7 e7 Q' hq
        refine ⟨p2, _, _, rfl, rfl, s7 _ _ g2, (ifB _).1, (ifB _).2.1, rep_few (by rw [nV_len]; exact fy), fun q2 n2 => ?_⟩
        rw [rep_needs (p := low L x1 < 2) (by rw [decide_eq_true_eq]; omega)]
        have s8 := same_new n2 (.lst (nV (if low L x1 < 2 then needs L y1 else [])))
        refine ⟨q1, q2, _, _, rfl, rfl, s8 _ _ e7, upd_same, small ?_, fun p np => hq _ p (((s06.trans s7).trans s8).trans (same_new np _)) ?_⟩
        · rw [nV_len, nV_len]
          split <;> split <;> (try simp only [List.length_nil]) <;> omega
        · rw [upd_same, ← nV_app] <;> rfl
      refine ⟨_, rfl, _, rfl, _, _, rfl, rfl, _, rfl, ite2 (fun c => ?_) (fun c => ?_)⟩
      · have c3 : ((low L y1 : Nat) : Int) < 2 := of_decide_eq_true c
        refine .inr ⟨_, rfl, p1, _, _, rfl, rfl, g1, (ifB _).1, (ifB _).2.1, rep_few (by rw [nV_len]; exact fx), fun q1 n1 => ?_⟩
        rw [rep_needs (p := low L y1 < 2 ∨ low L x1 = 0) ⟨fun _ => .inl (by omega), fun _ => rfl⟩]
        exact ⟨_, rfl, _, rfl, _, _, rfl, rfl, .inr ⟨_, rfl, tail q1 _ (same_new n1 _) upd_same Q q⟩⟩
      · have c3 : ¬ ((low L y1 : Nat) : Int) < 2 := of_decide_eq_false (Bool.eq_false_iff.mpr c)
        refine ⟨_, rfl, rfl, .inr ⟨_, rfl, p1, _, _, rfl, rfl, g1, (ifB _).1, (ifB _).2.1, rep_few (by rw [nV_len]; exact fx), fun q1 n1 => ?_⟩⟩
        rw [rep_needs (p := low L y1 < 2 ∨ low L x1 = 0) (by rw [intEq, decide_eq_true_eq]; omega)]
        exact ⟨_, rfl, _, rfl, _, _, rfl, rfl, .inr ⟨_, rfl, tail q1 _ (same_new n1 _) upd_same Q q⟩⟩
/-! ### _law_insides: 0:_law_kind 1:_law_found 2:_law_part -/
theorem sc_law_insides : FnScope ["_law_kind", "_law_found", "_law_part"] ["_law_kind"] (defScope KH.s_law_insides) := ⟨rfl, rfl, rfl, by decide +kernel, rfl, by decide +kernel, by decide +kernel⟩
def ins0 : Kd → List Kd
  | .inn _ y => [y] | _ => []
theorem insides_eq (k : Kd) : insides k = ins0 k ++ (kp k).flatMap insides := by cases k <;> simp [insides, ins0, kp]
theorem insides_len : ∀ k : Kd, (insides k).length ≤ (pre k).length := by
  intro k
  induction k <;> simp only [insides, pre, List.length_cons, List.length_append, List.length_nil] <;> omega
theorem insides_few {k : Kd} (h : dep k ≤ 5) : (insides k).length ≤ 63 := by
  have a := pre_len k
  have b : 2 ^ (dep k + 1) ≤ 2 ^ 6 := Nat.pow_le_pow_right (by decide) (by omega)
  have c := insides_len k
  have d : (2 : Nat) ^ 6 = 64 := by decide
  omega
def sp_law_insides (n : Nat) : Sp := fun vs H Q _ => ∃ (k : Kd) (v : V), vs = [v] ∧ KAt H k v ∧ dep k < n ∧ dep k ≤ 5 ∧
  ∀ (H' : Hp) (p : Addr) (us : List V), Same H H' → H' p = some (.lst us) → KsAt H' (insides k) us → Q (.ref p) H'
theorem ok_law_insides (T : Txt w K mg) : ∀ n, Prm P w K mg base CX0 (n + 1) "_law_insides" ["_law_kind"] (sp_law_insides n)
  | 0 => T.d_law_insides.never fun vs H Q E h => by
    obtain ⟨k, v, _, _, h, _⟩ := h
    omega
  | n + 1 => by
    have F_law_insides := ok_law_insides T n
    refine T.d_law_insides.ok sc_law_insides (fun vs H Q E h => ?_) (fun f cdv A outer s H vs Q E hr h => ⟨_, (pss_cons (ps_set (i := 1) sc_law_insides.nd rfl (.inl rfl) (pe_mid (pe_ifExp (pt_cmpR op_eq (pe_ix (ixT K) (pv 0) pe_int (fun _ _ => rfl)) pe_str (by rfl)) (pe_lst (pa_cons (pe_ix (ixT K) (pv 0) pe_int (fun _ _ => rfl)) pa_nil)) (pe_lst pa_nil))))
      (pss_cons (ps_for PassesOwn.never rfl (piT K (hl := (pe_slice (slT K) (pv 0) (po_some pe_int) po_none))) (pg_name (i := 2) sc_law_insides.nd rfl (Or.inl rfl)) (pss_one (ps_if (pt_val (pe_callB (isiC K) (by rfl) T.z_isinstance (by decide +kernel) (pa_cons (pv 2) (pa_cons (pe_bltn (v := .ty "tuple") (by rfl) T.z_tuple (by decide +kernel) rfl) pa_nil)))) (pss_one (ps_expr (pe_bm PySem.F.plainAttrs_list PySem.F.slot_list_extend PySem.F.type_list_extend mt_extend (pv 1) (pa_cons (pcl F_law_insides (hr.mono (by omega)) (pa_cons (pv 2) pa_nil)) pa_nil)))) pss_nil)))
      (pss_one (ps_ret (pv 1))))), ?_⟩)
    · obtain ⟨k, v, rfl, _⟩ := h
      rfl
    obtain ⟨k, v, rfl, hk, hd, h5, q⟩ := h
    obtain ⟨a, us, rfl, ha, hs⟩ := hk.shape
    have hlen := hs.len
    have few2 : (kp k).length ≤ 2 := by cases k <;> simp [kp]
    refine ⟨fun v H' => ∃ pf fs, v = .ref pf ∧ H pf = none ∧ Same H H' ∧ H' pf = some (.lst fs) ∧ KsAt H' (ins0 k) fs, ?_, ?_⟩
    · refine ⟨_, rfl, a, _, _, _, rfl, rfl, SqT.of ha, atI_nat (j := 0) rfl, rfl, _, rfl, ite2 (fun c => ?_) (fun c => ?_)⟩
      · obtain ⟨x, y, rfl⟩ := kw_in (V.str.inj (of_decide_eq_true c))
        match us, hs with
        | [vx, vy], ⟨kx, ky, _⟩ =>
        refine ⟨_, rfl, a, _, _, _, rfl, rfl, SqT.of ha, atI_nat (j := 2) rfl, (by show 1 ≤ sizeLine; decide), fun p np => ⟨p, [vy], rfl, np, same_new np _, upd_same, ky.tk (TK.new np), trivial⟩⟩
      · refine ⟨(by show 0 ≤ sizeLine; decide), fun p np => ⟨p, [], rfl, np, same_new np _, upd_same, ?_⟩⟩
        have e : ins0 k = [] := by
          cases k <;> first | rfl | exact absurd rfl fun e => c (by rw [strEq]; exact decide_eq_true e)
        rw [e]
        exact trivial
    rintro v H1 ⟨pf, fs0, rfl, nf, s1, hf, kf⟩
    have ha1 := s1 _ _ ha
    refine ⟨_, rfl, 1, rfl, a, _, rfl, SqT.of ha1, (fun e => absurd e (cut_ne _ _)), fun _ p np => ?_⟩
    rw [cut_tail]
    refine ⟨p, rfl, ⟨_, SqT.of upd_same⟩, ?_⟩
    have s2 := same_new np (.tup (us ++ km k))
    have e2 : upd H1 p (.tup (us ++ km k)) p = some (.tup (us ++ km k)) := upd_same
    have hf2 := s2 _ _ hf
    have kf2 := kf.tk (TK.of s2)
    have s02 := s1.trans s2
    generalize upd H1 p (.tup (us ++ km k)) = H2 at *
    have npf : p ≠ pf := ne_of e2 hf2 (by intro z; cases z)
    refine for_tup (xs := us ++ km k) (fun i σ' H' => ∃ (fs : List V) (o : Option V), σ' = [some (.ref a), some (.ref pf), o] ∧ SB pf H2 H' ∧ H' pf = some (.lst fs) ∧ KsAt H' (ins0 k ++ ((kp k).take i).flatMap insides) fs)
      ⟨fs0, none, rfl, SB.refl _ _, hf2, by simpa using kf2⟩ (fun i σ' H' _ ⟨_, _, _, sb, _⟩ => SqT.of (sb _ _ npf e2)) ?_ ?_
    · rintro i x σ' H3 hx ⟨fs, o, rfl, sb, hf3, kf3⟩
      have t3 : TK H2 H3 := sb.tk hf2
      by_cases hi : i < us.length
      · rw [List.getElem?_append_left hi] at hx
        obtain ⟨hi', kx⟩ := (hs.tk ((TK.of s02).trans t3)).get hx
        have mem := getD_mem (d := Kd.void) hi'
        have dk := kp_dep _ mem
        obtain ⟨b, ws, rfl, hb, hws⟩ := kx.shape
        refine ⟨_, rfl, _, .ty "tuple", _, _, true, rfl, .ty _, .base (.tup hb), kit_ty (by decide +kernel), _, rfl, iteT ?_⟩
        refine ⟨_, rfl, .inl ⟨rfl, _, SqL.of hf3⟩, _, rfl, (kp k).getD i .void, _, rfl, kx, by omega, by omega, fun H4 p4 gs s4 e4 k4 => ?_⟩
        have l1 := kf3.len
        have l2 := k4.len
        have f1 := insides_few h5
        have f2 := insides_few (k := (kp k).getD i .void) (by omega)
        have f3 : (ins0 k ++ ((kp k).take i).flatMap insides).length ≤ 63 := by
          have e := congrArg List.length (insides_eq k)
          have z : (kp k).flatMap insides = ((kp k).take i).flatMap insides ++ ((kp k).drop i).flatMap insides := by rw [← List.flatMap_append, List.take_append_drop]
          rw [z, List.length_append, List.length_append] at e
          rw [List.length_append]
          omega
        have hf4 := s4 _ _ hf3
        refine ⟨pf, p4, _, _, rfl, rfl, hf4, e4, small (by omega), fs ++ gs, _, rfl, sb.trans ((SB.of s4).trans SB.upd), upd_same, ?_⟩
        have t5 : TK H4 (upd H4 pf (.lst (fs ++ gs))) := TK.lst hf4
        have kk := (kf3.tk ((TK.of s4).trans t5)).app (k4.tk t5)
        rw [List.take_add_one, List.getElem?_eq_getElem hi', List.flatMap_append, ← List.append_assoc]
        rw [getD_of_lt hi'] at kk
        simpa using kk
      · have hz : ∃ z, x = .int z := by
          rw [List.getElem?_append_right (by omega)] at hx
          have m := List.mem_of_getElem? hx
          cases k <;> simp [km] at m
          · exact ⟨_, m⟩
          · rcases m with m | m <;> exact ⟨_, m⟩
        obtain ⟨z, rfl⟩ := hz
        refine ⟨_, rfl, _, .ty "tuple", _, _, false, rfl, .ty _, .base (.int z), kit_ty (by decide +kernel), _, rfl, iteF ⟨fs, _, rfl, sb, hf3, ?_⟩⟩
        rw [List.take_of_length_le (by omega)]
        rw [List.take_of_length_le (by omega)] at kf3
        exact kf3
    · rintro σ' H3 ⟨fs, o, rfl, sb, hf3, kf3⟩
      refine ⟨_, rfl, q H3 pf fs (fun b o z => sb b o (ne_of_none z nf) (s02 _ _ z)) hf3 ?_⟩
      rw [List.take_of_length_le (by rw [List.length_append]; omega)] at kf3
      rw [insides_eq]
      exact kf3
end
end KB
/-! # Walks 9: the law's founded, ways, plain numbers -/
namespace KB
open PySem PySem.Spec PyProof.Rows L2 KM
theorem flat_nV (L : List Nat) : (nV L).all flatV = true := by
  unfold nV
  rw [List.all_map, List.all_eq_true]
  intro x _
  rfl
theorem inV_nV (j : Nat) (L : List Nat) : inV (.int (j : Nat)) (nV L) = L.contains j := by
  induction L with
  | nil => rfl
  | cons x L ih =>
    have e : inV (.int (j : Nat)) (nV (x :: L)) = (((x : Int) == (j : Int)) || inV (.int (j : Nat)) (nV L)) := rfl
    rw [e, ih]
    by_cases c : j = x
    · subst c; simp
    · rw [show ((x : Int) == (j : Int)) = false from beq_eq_false_iff_ne.mpr (by omega), Bool.false_or, List.contains_cons, show (j == x) = false from beq_eq_false_iff_ne.mpr c, Bool.false_or]
theorem rgV_nV (n : Nat) : rgV 0 (n : Nat) = nV (List.range n) := by
  unfold rgV nV
  rw [Int.sub_zero, Int.toNat_natCast]
  refine List.map_congr_left fun i _ => ?_
  rw [Int.zero_add]
theorem fm_filter {α β : Type} (p : α → Bool) (f : α → β) : ∀ l : List α, l.filterMap (fun x => if p x = true then some (f x) else none) = (l.filter p).map f
  | [] => rfl
  | x :: l => by
    rw [List.filterMap_cons, List.filter_cons]
    by_cases c : p x = true
    · rw [if_pos c, if_pos c, List.map_cons, ← fm_filter p f l]
    · rw [if_neg c, if_neg c, ← fm_filter p f l]
theorem fm_nV (p : Nat → Bool) (L : List Nat) : (List.range L.length).filterMap (fun x => if p (L.getD x 0) = true then some (V.int (L.getD x 0 : Nat)) else none) = nV (L.filter p) := by
  rw [range_getD_fm (fun i : Nat => if p i = true then some (V.int (i : Nat)) else none) 0 L, fm_filter]
  rfl
theorem nV_get {L : List Nat} {i : Nat} {x : V} (h : (nV L)[i]? = some x) : i < L.length ∧ x = V.int (L.getD i 0 : Nat) := by
  have hi : i < L.length := by
    have := (List.getElem?_eq_some_iff.mp h).1
    rw [nV_len] at this
    exact this
  refine ⟨hi, ?_⟩
  unfold nV at h
  rw [List.getElem?_map, List.getElem?_eq_getElem hi] at h
  rw [getD_of_lt hi]
  exact (Option.some.inj h).symm
theorem dp_nVL {K : PySem.W.Frag} {H : Hp} {p : Addr} {L : List Nat} (h : H p = some (.lst (nV L))) : Dp K H (.ref p) (.list (L.map fun x => PyData.int (x : Nat))) := .lst (SqL.of h) (dp_nV L)
theorem shaped_nVL (L : List Nat) : SeqAt.shaped (.list (L.map fun x => PyData.int (x : Nat))) = true := by
  have h := PySem.W.shaped_ints (L.map Int.ofNat)
  rw [List.map_map] at h
  exact h
theorem isEmpty_filter {α β : Type} (p : α → Bool) (f : α → β) (l : List α) : (!((l.filter p).map f).isEmpty) = l.any p := by
  induction l with
  | nil => rfl
  | cons x l ih =>
    rw [List.filter_cons, List.any_cons]
    cases c : p x with
    | true => rw [if_pos rfl] <;> rfl
    | false => rw [if_neg Bool.false_ne_true, ih, Bool.false_or]
theorem stands_none {L : List Nat} {k : Kd} : (insides k).any (fun y => decide (low L y = 0)) = !stands L k := by
  unfold stands
  generalize insides k = l
  induction l with
  | nil => rfl
  | cons x l ih =>
    rw [List.any_cons, List.all_cons, ih]
    by_cases c : low L x = 0
    · rw [decide_eq_true c, decide_eq_false (show ¬ 0 < low L x by omega)] <;> rfl
    · rw [decide_eq_false c, decide_eq_true (show 0 < low L x by omega), Bool.false_or, Bool.true_and]
theorem jacN_len {L : List Nat} {ks : List Kd} : ∀ t, (jacN L ks t).length ≤ ks.length
  | 0 => by simp [jacN]
  | t + 1 => by
    have ih := jacN_len (L := L) (ks := ks) t
    have e : jacN L ks (t + 1) = jac L ks (jacN L ks t) := rfl
    rw [e]
    unfold jac
    exact Nat.le_trans (List.length_filter_le _ _) ih
theorem fm_ks {H : Hp} {p : Kd → Bool} : ∀ {ks : List Kd} {vs : List V}, KsAt H ks vs → ∀ f : Nat → Option V, (∀ i v, vs[i]? = some v → f i = if p (ks.getD i .void) = true then some v else none) → KsAt H (ks.filter p) ((List.range ks.length).filterMap f)
  | [], [], _, f, _ => trivial
  | [], _ :: _, h, _, _ => h.elim
  | _ :: _, [], h, _, _ => h.elim
  | k :: ks, v :: vs, ⟨h, r⟩, f, hf => by
    have ih := fm_ks (p := p) r (fun i => f (i + 1)) fun i v e => hf (i + 1) v e
    rw [List.length_cons, List.range_succ_eq_map, List.filterMap_cons, List.filterMap_map]
    have e0 := hf 0 v rfl
    rw [e0]
    show KsAt H (List.filter p (k :: ks)) _
    rw [List.filter_cons]
    by_cases c : p k = true
    · rw [if_pos c, show ((k :: ks).getD 0 Kd.void) = k from rfl, if_pos c]
      exact ⟨h, ih⟩
    · rw [if_neg c, show ((k :: ks).getD 0 Kd.void) = k from rfl, if_neg c]
      exact ih
section
variable {P : Program} {w : World} {K : PySem.W.Frag} {mg : Str → Option Value} {base : Heap}
/-! ### _law_is_founded: 0:_law_rules 1:_law_lows_here 2:_law_rule 3:_law_left 4:_law_turn 5:_law_part 6:_law_i 7:_law_j -/
theorem sc_law_is_founded : FnScope ["_law_rules", "_law_lows_here", "_law_rule", "_law_left", "_law_turn", "_law_part", "_law_i", "_law_j"] ["_law_rules"] (defScope KH.s_law_is_founded) := ⟨rfl, rfl, rfl, by decide +kernel, rfl, by decide +kernel, by decide +kernel⟩
def sp_law_is_founded : Sp := fun vs H Q _ => ∃ (ks : List Kd) (rv : V), vs = [rv] ∧ RAt H ks rv ∧ RulesOk ks ∧ ∀ H', Same H H' → Q (.bl (founded ks)) H'
theorem ok_law_is_founded (T : Txt w K mg) (F_law_low : Prm P w K mg base CX0 7 "_law_low" ["_law_lows_here", "_law_kind"] (sp_low_of 6)) (F_law_lows : Prm P w K mg base CX0 8 "_law_lows" ["_law_rules"] sp_greatest_lows)
    (F_law_needs : Prm P w K mg base CX0 14 "_law_needs" ["_law_lows_here", "_law_kind"] (sp_law_needs 6)) (F_law_insides : Prm P w K mg base CX0 7 "_law_insides" ["_law_kind"] (sp_law_insides 6)) :
    Prm P w K mg base CX0 15 "_law_is_founded" ["_law_rules"] sp_law_is_founded := by
  refine T.d_law_is_founded.ok sc_law_is_founded (fun vs H Q E h => ?_) (fun f cdv A outer s H vs Q E hr h => ⟨_, (pss_cons (ps_set (i := 1) sc_law_is_founded.nd rfl (.inr rfl) (pcl F_law_lows (hr.mono (by omega)) (pa_cons (pv 0) pa_nil)))
      (pss_cons (ps_for PassesOwn.never rfl (piT K (hl := (pv 0))) (pg_name (i := 2) sc_law_is_founded.nd rfl (Or.inl rfl)) (pss_one (ps_if (pt_cmpR (neD K (hu := hr.units)) (pe_lc (own := [("_law_part", 5)]) (g := gName 5) (by rfl) sc_law_is_founded.nd (piL K (hl := (pcl F_law_insides (hr.mono (by omega)) (pa_cons (pv 2) pa_nil)))) (blkOk_by (by kernel_rfl)) (fun _ _ _ _ _ => pg_name (i := 5) sc_law_is_founded.nd rfl (Or.inl rfl)) (fun _ _ _ _ _ => (pts_one (pt_cmpR op_eq (pcl F_law_low (hr.mono (by omega)) (pa_cons (pv 1) (pa_cons (pv 5) pa_nil))) pe_int (by rfl)))) (fun _ _ _ _ _ => (pv 5))) (pe_lst pa_nil) (by rfl)) (pss_one (ps_ret pe_bl)) pss_nil)))
      (pss_cons (ps_set (i := 3) sc_law_is_founded.nd rfl (.inr rfl) (pe_listRg rfl (by rfl) T.z_list (prg_1 (by rfl) T.z_range (pe_callB (lenC K) (by rfl) T.z_len (by decide +kernel) (pa_cons (pv 0) pa_nil)))))
      (pss_cons (ps_for PassesOwn.never rfl (pi_range1 (by rfl) T.z_range (pa_cons (pe_callB (lenC K) (by rfl) T.z_len (by decide +kernel) (pa_cons (pv 0) pa_nil)) pa_nil)) (pg_name (i := 4) sc_law_is_founded.nd rfl (Or.inl rfl)) (pss_one (ps_set (i := 3) sc_law_is_founded.nd rfl (.inr rfl) (pe_lc (own := [("_law_i", 6)]) (g := gName 6) (by rfl) sc_law_is_founded.nd (piL K (hl := (pv 3))) (blkOk_by (by kernel_rfl)) (fun _ _ _ _ _ => pg_name (i := 6) sc_law_is_founded.nd rfl (Or.inl rfl)) (fun _ _ _ _ _ => (pts_one (pt_cmpR (neD K (hu := hr.units)) (pe_lc (own := [("_law_j", 7)]) (g := gName 7) (by rfl) sc_law_is_founded.nd (piL K (hl := (pcl F_law_needs (hr.mono (by omega)) (pa_cons (pv 1) (pa_cons (pe_ix (ixT K) (pv 0) (pv 6) (fun _ _ => rfl)) pa_nil))))) (blkOk_by (by kernel_rfl)) (fun _ _ _ _ _ => pg_name (i := 7) sc_law_is_founded.nd rfl (Or.inl rfl)) (fun _ _ _ _ _ => (pts_one (pt_cmpR (inQ K) (pv 7) (pv 3) (by rfl)))) (fun _ _ _ _ _ => (pv 7))) (pe_lst pa_nil) (by rfl)))) (fun _ _ _ _ _ => (pv 6))))))
      (pss_one (ps_ret (pe_cmpR (eqD K (hu := hr.units)) (pv 3) (pe_lst pa_nil) (by rfl)))))))), ?_⟩)
  · obtain ⟨ks, rv, rfl, _⟩ := h
    rfl
  obtain ⟨ks, rv, rfl, hR, hOk, q⟩ := h
  obtain ⟨r, us, rfl, hr', hks⟩ := id hR
  obtain ⟨k1, k4, hw⟩ := id hOk
  have hlen := hks.len
  refine ⟨_, rfl, ks, _, rfl, hR, hOk, fun H1 v s1 hL => ?_⟩
  obtain ⟨⟨pl, rfl, hpl⟩, h20⟩ := id hL
  have hr1 := s1 _ _ hr'
  refine ⟨_, rfl, r, rfl, ⟨_, SqT.of hr1⟩, ?_⟩
  refine for_tup (xs := us) (fun i σ' H' => ∃ o : Option V, σ' = [some (.ref r), some (.ref pl), o, none, none, none, none, none] ∧ Same H1 H' ∧ ∀ j, j < i → stands (glow ks) (ks.getD j .void) = true)
    ⟨none, rfl, Same.refl _, fun j hj => by omega⟩ (fun i σ' H' _ ⟨_, _, s2, _⟩ => SqT.of (s2 _ _ hr1)) ?_ ?_
  · rintro i x σ' H2 hx ⟨o, rfl, s2, hst⟩
    obtain ⟨hi, kx⟩ := (hks.tk (TK.of (s1.trans s2))).get hx
    have mem := getD_mem (d := Kd.void) hi
    obtain ⟨wk, dk⟩ := hw _ mem
    refine ⟨_, rfl, ks.getD i .void, x, rfl, kx, by omega, dk, fun H3 p gs s3 e3 k3 => ⟨p, rfl, ⟨_, SqL.of e3⟩, fun D hD => ?_⟩⟩
    have f1 := insides_few dk
    have glen := k3.len
    refine pc_list (fun j => if decide (low (glow ks) ((insides (ks.getD i .void)).getD j .void) = 0) = true then gs[j]? else none) hD (SqL.of e3) (by omega) (fun _ => rfl) (fun j y H4 hy s4 => ?_) (fun H4 s4 e => ?_)
    · obtain ⟨hj, ky⟩ := (k3.tk (TK.of s4)).get hy
      have memj := getD_mem (d := Kd.void) hj
      intro Y N hY hN
      have s24 := s2.trans (s3.trans s4)
      refine ⟨_, rfl, _, rfl, glow ks, _, _, y, rfl, hL.sm s24, ky, by rw [glow_len]; exact insides_wf wk _ memj, by have := insides_dep _ memj; omega, fun H5 s5 => ⟨rfl, _, rfl, ite2 (fun c => ?_) (fun c => ?_)⟩⟩
      · rw [intEq, decide_eq_true_eq] at c
        exact ⟨_, rfl, hY _ _ (by rw [decide_eq_true (by omega), if_pos rfl]; exact hy) s5⟩
      · rw [intEq, decide_eq_true_eq] at c
        exact hN _ (by rw [decide_eq_false (by omega), if_neg Bool.false_ne_true]) s5
    · have kf := fm_ks (p := fun y => decide (low (glow ks) y = 0)) (k3.tk (TK.of s4)) (fun j => if decide (low (glow ks) ((insides (ks.getD i .void)).getD j .void) = 0) = true then gs[j]? else none) (fun j v hv => by simp only [hv])
      rw [glen] at e
      refine ⟨Nat.zero_le _, fun e0 ne => ⟨_, .list [], .lst (SqL.of ((same_new ne _) _ _ e)) (kf.tk (TK.new ne)).dp, .lst (SqL.of upd_same) .nil, shapedKs (fun z hz => by
        have := insides_dep _ ((List.mem_filter.mp hz).1)
        omega), shapedNil, _, rfl, ?_⟩⟩
      rw [eqvNil, isEmpty_filter, stands_none]
      have sn := s4.trans (same_new ne (.lst []))
      refine ite2 (fun c => ?_) (fun c => ?_)
      · have z := q _ (((s1.trans s2).trans s3).trans sn)
        rw [not_founded_of_stands (by
          cases c' : ks.all (stands (glow ks)) with
          | false => rfl
          | true =>
            rw [List.all_eq_true.mp c' _ mem] at c
            cases c)] at z
        exact z
      · refine ⟨some x, rfl, (s2.trans s3).trans sn, fun j hj => ?_⟩
        by_cases ej : j = i
        · rw [ej]
          simpa using c
        · exact hst j (by omega)
  · rintro σ' H2 ⟨o, rfl, s2, hst⟩
    rw [hlen] at hst
    have all : ks.all (stands (glow ks)) = true := all_getD.mpr hst
    refine ⟨_, rfl, r, us, rfl, .inr (SqT.of (s2 _ _ hr1)), (us.length : Nat), rfl, RgOk.of_le (by omega) (by omega) (by omega) (by omega), fun pL nL => ?_⟩
    have s3 := s2.trans (same_new nL (.lst (rgV 0 (us.length : Nat))))
    refine ⟨_, rfl, r, us, rfl, .inr (SqT.of (s3 _ _ hr1)), (us.length : Nat), rfl, by omega, by omega, ?_⟩
    rw [Int.toNat_natCast, hlen]
    have e0 : (upd H2 pL (.lst (rgV 0 (ks.length : Nat)))) pL = some (.lst (nV (jacN (glow ks) ks 0))) := by
      rw [upd_same, rgV_nV]
      rfl
    rw [hlen] at s3
    refine for_range (n := ks.length) (fun t σ' H' => ∃ (pL : Addr) (o1 o2 : Option V), σ' = [some (.ref r), some (.ref pl), o1, some (.ref pL), o2, none, none, none] ∧ Same H1 H' ∧ H' pL = some (.lst (nV (jacN (glow ks) ks t))))
      ⟨pL, o, none, rfl, s3, e0⟩ ?_ ?_
    · rintro t σ' H3 ht ⟨pL, o1, o2, rfl, s3, e3⟩
      have few : (jacN (glow ks) ks t).length ≤ 1000 := by have := jacN_len (L := glow ks) (ks := ks) t; omega
      refine ⟨_, rfl, pL, rfl, ⟨_, SqL.of e3⟩, fun D hD => ?_⟩
      refine pc_list (fun x => if (needs (glow ks) (ks.getD ((jacN (glow ks) ks t).getD x 0) .void)).any (fun j => (jacN (glow ks) ks t).contains j) = true then some (V.int ((jacN (glow ks) ks t).getD x 0 : Nat)) else none) hD (SqL.of e3) (by rw [nV_len]; omega) (fun _ => rfl) (fun x y H4 hy s4 => ?_) (fun H4 s4 e => ?_)
      · obtain ⟨hx, rfl⟩ := nV_get hy
        have hi := jacN_lt (getD_mem (d := 0) hx)
        generalize (jacN (glow ks) ks t).getD x 0 = i at *
        obtain ⟨v, hv, kv⟩ := hks.at hi
        obtain ⟨wk, dk⟩ := hw _ (getD_mem (d := Kd.void) hi)
        have s34 := s3.trans s4
        intro Y N hY hN
        refine ⟨_, rfl, _, rfl, _, rfl, r, _, _, _, rfl, rfl, SqT.of (s34 _ _ hr1), atI_nat hv, glow ks, _, _, v, rfl, hL.sm s34, kv.tk (TK.of (s1.trans s34)), by rw [glow_len]; exact wk, by omega, dk, fun H5 p5 s5 e5 => ⟨p5, rfl, ⟨_, SqL.of e5⟩, fun D2 hD2 => ?_⟩⟩
        have e3' := (s4.trans s5) _ _ e3
        refine pc_list (fun x => if (jacN (glow ks) ks t).contains ((needs (glow ks) (ks.getD i .void)).getD x 0) = true then some (V.int ((needs (glow ks) (ks.getD i .void)).getD x 0 : Nat)) else none) hD2 (SqL.of e5) (by rw [nV_len]; have := few32 (L := glow ks) dk; omega) (fun _ => rfl) (fun x y H6 hy s6 => ?_) (fun H6 s6 e => ?_)
        · obtain ⟨hx, rfl⟩ := nV_get hy
          intro Y N hY hN
          refine ⟨_, rfl, _, rfl, pL, _, rfl, .inl (SqL.of (s6 _ _ e3')), rfl, flat_nV _, _, rfl, ?_⟩
          rw [inV_nV]
          refine ite2 (fun c => ⟨_, rfl, hY _ _ (if_pos c) (Same.refl _)⟩) (fun c => hN _ (if_neg c) (Same.refl _))
        · rw [nV_len, fm_nV (fun j => (jacN (glow ks) ks t).contains j)] at e
          refine ⟨Nat.zero_le _, fun e0 ne => ⟨_, .list [], dp_nVL ((same_new ne _) _ _ e), .lst (SqL.of upd_same) .nil, shaped_nVL _, shapedNil, _, rfl, ?_⟩⟩
          rw [eqvNil, isEmpty_filter]
          have s7 := (s5.trans s6).trans (same_new ne (.lst []))
          refine ite2 (fun c => ⟨_, rfl, hY _ _ (if_pos c) s7⟩) (fun c => hN _ (if_neg c) s7)
      · rw [nV_len, fm_nV (fun i => (needs (glow ks) (ks.getD i .void)).any fun j => (jacN (glow ks) ks t).contains j)] at e
        exact ⟨D, _, _, rfl, s3.trans s4, e⟩
    · rintro σ' H3 ⟨pL, o1, o2, rfl, s3, e3⟩
      refine ⟨_, rfl, Nat.zero_le _, fun e0 ne => ⟨_, .list [], dp_nVL ((same_new ne _) _ _ e3), .lst (SqL.of upd_same) .nil, shaped_nVL _, shapedNil, ?_⟩⟩
      rw [eqvNil]
      have z := q _ (s1.trans (s3.trans (same_new ne (.lst []))))
      unfold founded at z
      rw [all, Bool.true_and] at z
      have e : (jacN (glow ks) ks ks.length == []) = ((jacN (glow ks) ks ks.length).map fun x => PyData.int (x : Nat)).isEmpty := by
        cases jacN (glow ks) ks ks.length <;> rfl
      rw [e] at z
      exact z
/-! ### _law_ways: 0:_law_n 1:_law_k 2:_law_found 3:_law_j -/
theorem sc_law_ways : FnScope ["_law_n", "_law_k", "_law_found", "_law_j"] ["_law_n", "_law_k"] (defScope KH.s_law_ways) := ⟨rfl, rfl, rfl, by decide +kernel, rfl, by decide +kernel, by decide +kernel⟩
def sp_law_ways : Sp := fun vs H Q _ => ∃ n k : Nat, vs = [.int (n : Nat), .int (k : Nat)] ∧ k ≤ n ∧ n ≤ 3 ∧ Q (.int (ways n k : Nat)) H
theorem ok_law_ways (T : Txt w K mg) : Prm P w K mg base CX0 1 "_law_ways" ["_law_n", "_law_k"] sp_law_ways := by
  refine T.d_law_ways.ok sc_law_ways (fun vs H Q E h => ?_) (fun f cdv A outer s H vs Q E hr h => ⟨_, (pss_cons (ps_set (i := 2) sc_law_ways.nd rfl (.inl rfl) pe_int)
      (pss_cons (ps_for PassesOwn.never rfl (pi_range1 (by rfl) T.z_range (pa_cons (pv 1) pa_nil)) (pg_name (i := 3) sc_law_ways.nd rfl (Or.inl rfl)) (pss_one (ps_set (i := 2) sc_law_ways.nd rfl (.inl rfl) (pe_op op_fdivN (pe_op op_mul (pv 2) (pe_op op_sub (pv 0) (pv 3))) (pe_op op_add (pv 3) pe_int)))))
      (pss_one (ps_ret (pv 2))))), ?_⟩)
  · obtain ⟨n, k, rfl, _⟩ := h
    rfl
  obtain ⟨n, k, rfl, kn, n3, q⟩ := h
  refine ⟨_, rfl, (k : Nat), rfl, by omega, by omega, ?_⟩
  rw [Int.toNat_natCast]
  refine for_range (n := k) (fun i σ' H' => ∃ o : Option V, σ' = [some (.int (n : Nat)), some (.int (k : Nat)), some (.int (((List.range i).foldl (waysStep n) 1 : Nat) : Nat)), o] ∧ H' = H) ⟨none, rfl, rfl⟩ ?_ ?_
  · rintro i σ' H' hi ⟨o, rfl, rfl⟩
    rw [Int.zero_add]
    refine ⟨_, rfl, _, rfl, _, rfl, _, _, rfl, rfl, _, _, rfl, rfl, .inr ⟨by omega, by omega⟩, _, rfl, _, _, rfl, rfl, _, _, rfl, rfl, ⟨by omega, by omega⟩, ?_⟩
    refine ⟨some (V.int (i : Nat)), ?_, rfl⟩
    have e : ((((List.range i).foldl (waysStep n) 1 : Nat) : Int) * (((n : Nat) : Int) - ((i : Nat) : Int))).fdiv (((i : Nat) : Int) + 1) = (((List.range (i + 1)).foldl (waysStep n) 1 : Nat) : Int) := by
      rw [List.range_succ, List.foldl_append]
      show _ = ((waysStep n ((List.range i).foldl (waysStep n) 1) i : Nat) : Int)
      unfold waysStep
      rw [show ((n : Nat) : Int) - ((i : Nat) : Int) = ((n - i : Nat) : Int) by omega, show ((i : Nat) : Int) + 1 = ((i + 1 : Nat) : Int) by omega, ← Int.natCast_mul, Int.fdiv_eq_ediv_of_nonneg _ (by omega)]
      rfl
    rw [← e]
    rfl
  · rintro σ' H' ⟨o, rfl, rfl⟩
    exact ⟨_, rfl, q⟩
/-! ### _law_plain_many: 0:_law_word 1:_law_n 2:_law_fact -/
theorem sc_law_plain_many : FnScope ["_law_word", "_law_n", "_law_fact"] ["_law_word", "_law_n"] (defScope KH.s_law_plain_many) := ⟨rfl, rfl, rfl, by decide +kernel, rfl, by decide +kernel, by decide +kernel⟩
def isRow : Kd → Bool
  | .row => true | _ => false
def isRound : Kd → Bool
  | .round => true | _ => false
def isSet : Kd → Bool
  | .set => true | _ => false
def ownN : Kd → Int
  | .unit => 0 | .one => 1 | _ => -1
theorem kw_row (k : Kd) : decide (V.str (kw k) = V.str "row") = isRow k := by cases k <;> first | exact decide_eq_true rfl | exact decide_eq_false (fun e => absurd (V.str.inj e) (by simp only [kw]; decide +kernel))
theorem kw_round (k : Kd) : decide (V.str (kw k) = V.str "round") = isRound k := by cases k <;> first | exact decide_eq_true rfl | exact decide_eq_false (fun e => absurd (V.str.inj e) (by simp only [kw]; decide +kernel))
theorem kw_set (k : Kd) : decide (V.str (kw k) = V.str "set") = isSet k := by cases k <;> first | exact decide_eq_true rfl | exact decide_eq_false (fun e => absurd (V.str.inj e) (by simp only [kw]; decide +kernel))
theorem ownN_val {k : Kd} (h : isBare k = true) : ((valV (mergeK [] [(Sum.inr "unit", V.int 0), (Sum.inr "one", V.int 1)]) (Sum.inr (kw k) : Key)).getD (.int (-1))) = .int (ownN k) := by
  cases k <;> simp only [isBare, Bool.false_eq_true] at h <;> simp only [kw, ownN] <;> rfl
theorem plain_own {k : Kd} {n : Nat} (h : isBare k = true) (h1 : isRow k = false) (h2 : isRound k = false) (h3 : isSet k = false) : ((plainMany k n : Nat) : Int) = if decide (((n : Nat) : Int) = ownN k) = true then 1 else 0 := by
  cases k <;> first | (cases h; done) | (cases h1; done) | (cases h2; done) | (cases h3; done) | skip
  · rw [decide_eq_false (show ¬ ((n : Nat) : Int) = ownN .void by simp only [ownN]; omega)] <;> rfl
  · show (((if n = 0 then 1 else 0 : Nat) : Nat) : Int) = if decide (((n : Nat) : Int) = 0) = true then 1 else 0
    by_cases c : n = 0
    · rw [if_pos c, decide_eq_true (show ((n : Nat) : Int) = 0 by omega)] <;> rfl
    · rw [if_neg c, decide_eq_false (show ¬ ((n : Nat) : Int) = 0 by omega)] <;> rfl
  · show (((if n = 1 then 1 else 0 : Nat) : Nat) : Int) = if decide (((n : Nat) : Int) = 1) = true then 1 else 0
    by_cases c : n = 1
    · rw [if_pos c, decide_eq_true (show ((n : Nat) : Int) = 1 by omega)] <;> rfl
    · rw [if_neg c, decide_eq_false (show ¬ ((n : Nat) : Int) = 1 by omega)] <;> rfl
def sp_law_plain_many : Sp := fun vs H Q _ => ∃ (k : Kd) (n : Nat), vs = [.str (kw k), .int (n : Nat)] ∧ isBare k = true ∧ n ≤ 4 ∧ ∀ H', Same H H' → Q (.int (plainMany k n : Nat)) H'
theorem ok_law_plain_many (T : Txt w K mg) : Prm P w K mg base CX0 1 "_law_plain_many" ["_law_word", "_law_n"] sp_law_plain_many := by
  refine T.d_law_plain_many.ok sc_law_plain_many (fun vs H Q E h => ?_) (fun f cdv A outer s H vs Q E hr h => ⟨_, (pss_cons (ps_set (i := 2) sc_law_plain_many.nd rfl (.inl rfl) (pe_ix (ixL K) (pe_lst (pa_cons pe_int (pa_cons pe_int (pa_cons pe_int (pa_cons pe_int (pa_cons pe_int pa_nil)))))) (pv 1) (fun _ _ => rfl)))
      (pss_cons (ps_if (pt_cmpR op_eq (pv 0) pe_str (by rfl)) (pss_one (ps_ret (pv 2))) pss_nil)
      (pss_cons (ps_if (pt_cmpR op_eq (pv 0) pe_str (by rfl)) (pss_one (ps_ret (pe_ifExp (pt_cmpR op_gt (pv 1) pe_int (by rfl)) (pe_op op_fdivN (pv 2) (pv 1)) pe_int))) pss_nil)
      (pss_one (ps_ret (pe_callTy call_int1 (by rfl) T.z_int (by decide +kernel) (pa_cons (pe_or (pe_cmpR op_eq (pv 0) pe_str (by rfl)) (pe_one (pe_cmpR op_eq (pv 1) (pe_dget2 (hu_of hr) (pe_disp (pps_cons pe_str pe_int (pps_cons pe_str pe_int pps_nil)) (by rfl) (by rfl) (fun z => by cases z) (by decide)) (pv 0) (pe_un un_neg pe_int) ⟨by rfl, by rfl, by rfl, by rfl⟩) (by rfl)))) pa_nil))))))), ?_⟩)
  · obtain ⟨k, n, rfl, _⟩ := h
    rfl
  obtain ⟨k, n, rfl, hb, n4, q⟩ := h
  refine ⟨(by show 5 ≤ sizeLine; decide), fun p np => ⟨_, rfl, p, _, _, .int (fact n : Nat), rfl, rfl, SqL.of upd_same, ?_, ?_⟩⟩
  · refine atI_nat ?_
    rcases (show n = 0 ∨ n = 1 ∨ n = 2 ∨ n = 3 ∨ n = 4 by omega) with rfl | rfl | rfl | rfl | rfl <;> rfl
  have s1 := same_new np (.lst [.int 1, .int 1, .int 2, .int 6, .int 24])
  refine ⟨_, rfl, rfl, _, rfl, ?_⟩
  rw [kw_row]
  refine ite2 (fun c => ?_) (fun c => ?_)
  · cases k <;> first | (cases c; done) | skip
    exact ⟨_, rfl, q _ s1⟩
  refine ⟨_, rfl, rfl, _, rfl, ?_⟩
  rw [kw_round]
  refine ite2 (fun c2 => ?_) (fun c2 => ?_)
  · cases k <;> first | (cases c2; done) | skip
    have z := q _ s1
    simp only [plainMany] at z
    refine ⟨_, rfl, _, _, rfl, rfl, _, rfl, ite2 (fun c3 => ?_) (fun c3 => ?_)⟩
    · have c4 : (0 : Int) < ((n : Nat) : Int) := of_decide_eq_true c3
      refine ⟨_, rfl, _, rfl, _, _, rfl, rfl, ⟨by omega, by omega⟩, ?_⟩
      rw [if_pos (by omega)] at z
      have e : ((fact n : Nat) : Int).fdiv ((n : Nat) : Int) = ((fact n / n : Nat) : Int) := by
        rw [Int.fdiv_eq_ediv_of_nonneg _ (by omega)]
        rfl
      rw [← e] at z
      exact z
    · have c4 : ¬ (0 : Int) < ((n : Nat) : Int) := of_decide_eq_false (Bool.eq_false_iff.mpr c3)
      rw [if_neg (by omega)] at z
      exact z
  refine ⟨_, rfl, rfl, ?_⟩
  rw [kw_set]
  refine ⟨_, rfl, ite2 (fun c3 => ?_) (fun c3 => ?_)⟩
  · cases k <;> first | (cases c3; done) | skip
    exact .inr ⟨_, rfl, q _ s1⟩
  · refine ⟨_, rfl, fun d nd => ⟨upd_same, [(Sum.inr "unit", .int 0), (Sum.inr "one", .int 1)], rfl, (by decide), d, rfl, .inl ⟨_, .inl upd_same⟩, _, rfl, _, rfl, _, DGet.k (k := Sum.inr (kw k)) upd_same, ?_⟩⟩
    rw [ownN_val hb]
    have z := q _ (s1.trans (Same.wr (o := .dK (mergeK [] [(Sum.inr "unit", .int 0), (Sum.inr "one", .int 1)])) (same_new nd (.dK [])) nd))
    rw [plain_own hb (Bool.eq_false_iff.mpr c) (Bool.eq_false_iff.mpr c2) (Bool.eq_false_iff.mpr c3)] at z
    refine ⟨rfl, .inr ⟨_, rfl, ?_⟩⟩
    rw [intEq]
    exact z
end
end KB
/-! # Walks 10: the law's reckoning -/
namespace KB
open PySem PySem.Spec PyProof.Rows L2 KM
/-- rows of numbers: a list of lists -/
def RowsAt (H : Hp) : Tab → List V → Prop
  | [], [] => True
  | r :: N, v :: vs => (∃ b, v = .ref b ∧ H b = some (.lst (nV r))) ∧ RowsAt H N vs
  | _, _ => False
theorem RowsAt.mono {H H' : Hp} (s : ∀ b L, H b = some (.lst (nV L)) → H' b = some (.lst (nV L))) : ∀ {N : Tab} {vs : List V}, RowsAt H N vs → RowsAt H' N vs
  | [], [], _ => trivial
  | r :: N, v :: vs, ⟨⟨b, e, h⟩, t⟩ => ⟨⟨b, e, s _ _ h⟩, RowsAt.mono s t⟩
  | [], _ :: _, h => h.elim
  | _ :: _, [], h => h.elim
theorem RowsAt.len {H : Hp} : ∀ {N : Tab} {vs : List V}, RowsAt H N vs → vs.length = N.length
  | [], [], _ => rfl
  | r :: N, v :: vs, ⟨_, t⟩ => congrArg Nat.succ (RowsAt.len t)
  | [], _ :: _, h => h.elim
  | _ :: _, [], h => h.elim
theorem RowsAt.at {H : Hp} : ∀ {N : Tab} {vs : List V} {i : Nat}, RowsAt H N vs → i < N.length → ∃ b, vs[i]? = some (.ref b) ∧ H b = some (.lst (nV (N.getD i [])))
  | [], _, i, _, hi => absurd hi (Nat.not_lt_zero _)
  | r :: N, [], i, h, _ => h.elim
  | r :: N, v :: vs, 0, ⟨⟨b, e, h⟩, _⟩, _ => ⟨b, by rw [e]; rfl, h⟩
  | r :: N, v :: vs, i + 1, ⟨_, t⟩, hi => by
    obtain ⟨b, e, h⟩ := RowsAt.at (i := i) t (Nat.lt_of_succ_lt_succ hi)
    exact ⟨b, e, h⟩
def TabAt (H : Hp) (N : Tab) (v : V) : Prop := ∃ a vs, v = .ref a ∧ H a = some (.lst vs) ∧ RowsAt H N vs
theorem TabAt.sm {H H' : Hp} {N : Tab} {v : V} (s : Same H H') (h : TabAt H N v) : TabAt H' N v := by
  obtain ⟨a, vs, e, h1, h2⟩ := h
  exact ⟨a, vs, e, s _ _ h1, h2.mono fun b L q => s _ _ q⟩
/-- what is drawn from a tape leaves tables -/
theorem TabAt.sb {H H' : Hp} {N : Tab} {v : V} {t l : Addr} {c : Nat} (s : SB t H H') (ht : TapeAt H t l c) (h : TabAt H N v) : TabAt H' N v := by
  obtain ⟨cs, i, d, n, e, _⟩ := ht
  obtain ⟨a, vs, rfl, h1, h2⟩ := h
  have no : ∀ b L, H b = some (.lst (nV L)) → b ≠ t := fun b L q z => by
    rw [z, e] at q
    have q2 := HO.lst.inj (Option.some.inj q)
    cases L with
    | nil => cases q2
    | cons x L => cases (List.cons.inj q2).1
  refine ⟨a, vs, rfl, s _ _ (fun z => ?_) h1, h2.mono fun b L q => s _ _ (no b L q) q⟩
  rw [z, e] at h1
  have q2 := HO.lst.inj (Option.some.inj h1)
  rw [← q2] at h2
  match N, h2 with
  | _ :: _ :: _, ⟨_, ⟨b, z, _⟩, _⟩ => cases z
theorem reck_bare {N : Tab} {k : Kd} {n : Nat} (h : isBare k = true) : reck N k n = plainMany k n := by cases k <;> first | rfl | cases h
theorem plainK_bare {k : Kd} (h : plainK k = true) : isBare k = true := by cases k <;> first | rfl | cases h
theorem pow_lt_of {x a b : Nat} (h : x ≤ 2 ^ a) (hab : a < b) : x < 2 ^ b := Nat.lt_of_le_of_lt h (Nat.pow_lt_pow_right (by decide) hab)
theorem reck_lt {N : Tab} {k : Kd} {n : Nat} (ht : tame N) (hn : n ≤ 3) (hd : dep k ≤ 3) : reck N k n < 2 ^ 12501 := by
  have a := reck_le ht (k := k) hn
  have b := bd_mono hd
  have c : bd 3 = 2 ^ 12500 := congrArg (fun x => 2 ^ x) (show 100 * 5 ^ 3 = 12500 by decide)
  rw [c] at b
  exact pow_lt_of (Nat.le_trans a b) (by decide)
theorem wide_nat {x y a b : Nat} (hx : x < 2 ^ a) (hy : y < 2 ^ b) (h0 : 0 < a) (h1 : 0 < b) (h : a + b ≤ 1000000) : CMulW (x : Nat) (y : Nat) := wide_mul (by rw [Int.natAbs_natCast]; exact hx) (by rw [Int.natAbs_natCast]; exact hy) h0 h1 h
theorem mul_lt_pow {x y a b : Nat} (hx : x < 2 ^ a) (hy : y < 2 ^ b) : x * y < 2 ^ (a + b) := by
  rw [Nat.pow_add]
  exact Nat.mul_lt_mul'' hx hy
theorem ways_few {n k : Nat} (h : k ≤ n) (h3 : n ≤ 3) : ways n k < 2 ^ 2 := by
  rcases four h3 with rfl | rfl | rfl | rfl
  · obtain rfl : k = 0 := by omega
    decide
  · rcases (show k = 0 ∨ k = 1 by omega) with rfl | rfl <;> decide
  · rcases (show k = 0 ∨ k = 1 ∨ k = 2 by omega) with rfl | rfl | rfl <;> decide
  · rcases (show k = 0 ∨ k = 1 ∨ k = 2 ∨ k = 3 by omega) with rfl | rfl | rfl | rfl <;> decide
/-- tuples of numbers in a list -/
def SizesAt (H : Hp) : List (List Nat) → List V → Prop
  | [], [] => True
  | r :: N, v :: vs => (∃ b, v = .ref b ∧ H b = some (.tup (nV r))) ∧ SizesAt H N vs
  | _, _ => False
theorem SizesAt.sm {H H' : Hp} (s : Same H H') : ∀ {N : List (List Nat)} {vs : List V}, SizesAt H N vs → SizesAt H' N vs
  | [], [], _ => trivial
  | r :: N, v :: vs, ⟨⟨b, e, h⟩, t⟩ => ⟨⟨b, e, s _ _ h⟩, SizesAt.sm s t⟩
  | [], _ :: _, h => h.elim
  | _ :: _, [], h => h.elim
theorem SizesAt.len {H : Hp} : ∀ {N : List (List Nat)} {vs : List V}, SizesAt H N vs → vs.length = N.length
  | [], [], _ => rfl
  | r :: N, v :: vs, ⟨_, t⟩ => congrArg Nat.succ (SizesAt.len t)
  | [], _ :: _, h => h.elim
  | _ :: _, [], h => h.elim
theorem SizesAt.get {H : Hp} : ∀ {N : List (List Nat)} {vs : List V} {i : Nat} {v : V}, SizesAt H N vs → vs[i]? = some v → ∃ b, i < N.length ∧ v = .ref b ∧ H b = some (.tup (nV (N.getD i [])))
  | [], [], i, v, _, e => by simp at e
  | r :: N, [], i, v, h, _ => h.elim
  | [], _ :: _, i, v, h, _ => h.elim
  | r :: N, v' :: vs, 0, v, ⟨⟨b, e, h⟩, _⟩, g => ⟨b, Nat.succ_pos _, by rw [← e]; exact (Option.some.inj g).symm, h⟩
  | r :: N, v' :: vs, i + 1, v, ⟨_, t⟩, g => by
    obtain ⟨b, hi, e, h⟩ := SizesAt.get (i := i) t g
    exact ⟨b, Nat.succ_lt_succ hi, e, h⟩
theorem sizes_ok {n : Nat} (h : n ≤ 3) : ∀ ss ∈ sizesOf n, ss.length ≤ n ∧ ∀ s ∈ ss, 1 ≤ s ∧ s ≤ n := by
  rcases four h with rfl | rfl | rfl | rfl <;> decide
theorem fold_take {α β : Type} (f : β → α → β) (b : β) {l : List α} {i : Nat} (h : i < l.length) (d : α) : (l.take (i + 1)).foldl f b = f ((l.take i).foldl f b) (l.getD i d) := by
  rw [List.take_add_one, List.getElem?_eq_getElem h, List.foldl_append, getD_of_lt h]
  rfl
def innerV (N : Tab) (y : Kd) (n : Nat) : List V := V.int 0 :: (List.range n).map fun i => V.int (reck N y (i + 1) : Nat)
theorem inner_at {N : Tab} {y : Kd} {n s : Nat} (h1 : 1 ≤ s) (h2 : s ≤ n) : atI (innerV N y n) (s : Nat) = some (.int (reck N y s : Nat)) := by
  obtain ⟨j, rfl⟩ : ∃ j, s = j + 1 := ⟨s - 1, by omega⟩
  refine atI_nat ?_
  unfold innerV
  rw [List.getElem?_cons_succ, List.getElem?_map, List.getElem?_range (by omega)]
  rfl
section
variable {P : Program} {w : World} {K : PySem.W.Frag} {mg : Str → Option Value} {base : Heap}
/-! ### _law_reckon: 0:_law_numbers 1:_law_kind 2:_law_n 3:_law_word 4:_law_found 5:_law_k 6:_law_first 7:_law_last 8:_law_inner 9:_law_sizes 10:_law_part 11:_law_size -/
theorem sc_law_reckon : FnScope ["_law_numbers", "_law_kind", "_law_n", "_law_word", "_law_found", "_law_k", "_law_first", "_law_last", "_law_inner", "_law_sizes", "_law_part", "_law_size"] ["_law_numbers", "_law_kind", "_law_n"] (defScope KH.s_law_reckon) := ⟨rfl, rfl, rfl, by decide +kernel, rfl, by decide +kernel, by decide +kernel⟩
def sp_law_reckon (d : Nat) : Sp := fun vs H Q _ => ∃ (N : Tab) (k : Kd) (n : Nat) (nv v : V), vs = [nv, v, .int (n : Nat)] ∧ TabAt H N nv ∧ Shaped N.length N ∧ tame N ∧ KAt H k v ∧ wf N.length k ∧ dep k < d ∧ dep k ≤ 4 ∧ n ≤ 3 ∧ ∀ H', Same H H' → Q (.int (reck N k n : Nat)) H'
theorem ok_law_reckon (T : Txt w K mg) (F_law_ways : Prm P w K mg base CX0 1 "_law_ways" ["_law_n", "_law_k"] sp_law_ways) (F_law_plain_many : Prm P w K mg base CX0 1 "_law_plain_many" ["_law_word", "_law_n"] sp_law_plain_many) :
    ∀ n, Prm P w K mg base CX0 (n + 2) "_law_reckon" ["_law_numbers", "_law_kind", "_law_n"] (sp_law_reckon n)
  | 0 => T.d_law_reckon.never fun vs H Q E h => by
    obtain ⟨N, k, n, nv, v, _, _, _, _, _, _, h, _⟩ := h
    omega
  | d + 1 => by
    have F_law_reckon := ok_law_reckon T F_law_ways F_law_plain_many d
    refine T.d_law_reckon.ok sc_law_reckon (fun vs H Q E h => ?_) (fun f cdv A outer s H vs Q E hr h => ⟨_, (pss_cons (ps_set (i := 3) sc_law_reckon.nd rfl (.inl rfl) (pe_ix (ixT K) (pv 1) pe_int (fun _ _ => rfl)))
      (pss_cons (ps_if (pt_cmpR (inQ K) (pv 3) (pe_tup (pa_cons pe_str (pa_cons pe_str (pa_cons pe_str (pa_cons pe_str (pa_cons pe_str (pa_cons pe_str pa_nil))))))) (by rfl)) (pss_one (ps_ret (pcl F_law_plain_many (hr.mono (by omega)) (pa_cons (pv 3) (pa_cons (pv 2) pa_nil))))) pss_nil)
      (pss_cons (ps_if (pt_cmpR op_eq (pv 3) pe_str (by rfl)) (pss_one (ps_ret (pe_ix (ixL K) (pe_ix (ixL K) (pv 0) (pe_ix (ixT K) (pv 1) pe_int (fun _ _ => rfl)) (fun _ _ => rfl)) (pv 2) (fun _ _ => rfl)))) pss_nil)
      (pss_cons (ps_if (pt_cmpR op_eq (pv 3) pe_str (by rfl)) (pss_one (ps_ret (pcl F_law_plain_many (hr.mono (by omega)) (pa_cons (pe_ix (ixT K) (pe_ix (ixT K) (pv 1) pe_int (fun _ _ => rfl)) pe_int (fun _ _ => rfl)) (pa_cons (pe_op op_add (pv 2) pe_int) pa_nil))))) pss_nil)
      (pss_cons (ps_if (pt_cmpR op_eq (pv 3) pe_str (by rfl)) (pss_one (ps_ret (pe_ifExp (pt_chain op_le op_le (pe_ix (ixT K) (pv 1) pe_int (fun _ _ => rfl)) (pv 2) (pe_ix (ixT K) (pv 1) pe_int (fun _ _ => rfl))) (pcl F_law_reckon (hr.mono (by omega)) (pa_cons (pv 0) (pa_cons (pe_ix (ixT K) (pv 1) pe_int (fun _ _ => rfl)) (pa_cons (pv 2) pa_nil)))) pe_int))) pss_nil)
      (pss_cons (ps_if (pt_cmpR op_eq (pv 3) pe_str (by rfl)) (pss_one (ps_ret (pe_op op_mulW (pv 2) (pcl F_law_reckon (hr.mono (by omega)) (pa_cons (pv 0) (pa_cons (pe_ix (ixT K) (pv 1) pe_int (fun _ _ => rfl)) (pa_cons (pv 2) pa_nil))))))) pss_nil)
      (pss_cons (ps_if (pt_cmpR op_eq (pv 3) pe_str (by rfl)) (pss_one (ps_ret (pe_op op_add (pcl F_law_reckon (hr.mono (by omega)) (pa_cons (pv 0) (pa_cons (pe_ix (ixT K) (pv 1) pe_int (fun _ _ => rfl)) (pa_cons (pv 2) pa_nil)))) (pcl F_law_reckon (hr.mono (by omega)) (pa_cons (pv 0) (pa_cons (pe_ix (ixT K) (pv 1) pe_int (fun _ _ => rfl)) (pa_cons (pv 2) pa_nil))))))) pss_nil)
      (pss_cons (ps_set (i := 4) sc_law_reckon.nd rfl (.inl rfl) pe_int)
      (pss_cons (ps_if (pt_cmpR op_eq (pv 3) pe_str (by rfl)) (pss_cons (ps_for PassesOwn.never rfl (pi_range1 (by rfl) T.z_range (pa_cons (pe_op op_add (pv 2) pe_int) pa_nil)) (pg_name (i := 5) sc_law_reckon.nd rfl (Or.inl rfl)) (pss_cons (ps_par (i := 6) (j := 7) (by rfl) sc_law_reckon.nd rfl rfl (by decide) rfl rfl (pa_cons (pcl F_law_reckon (hr.mono (by omega)) (pa_cons (pv 0) (pa_cons (pe_ix (ixT K) (pv 1) pe_int (fun _ _ => rfl)) (pa_cons (pv 5) pa_nil)))) (pa_cons (pcl F_law_reckon (hr.mono (by omega)) (pa_cons (pv 0) (pa_cons (pe_ix (ixT K) (pv 1) pe_int (fun _ _ => rfl)) (pa_cons (pe_op op_sub (pv 2) (pv 5)) pa_nil)))) pa_nil)) (by rfl))
      (pss_one (ps_set (i := 4) sc_law_reckon.nd rfl (.inl rfl) (pe_op op_add (pv 4) (pe_op op_mulW (pe_op op_mulW (pcl F_law_ways (hr.mono (by omega)) (pa_cons (pv 2) (pa_cons (pv 5) pa_nil))) (pv 6)) (pv 7)))))))
      (pss_one (ps_ret (pv 4)))) pss_nil)
      (pss_cons (ps_set (i := 8) sc_law_reckon.nd rfl (.inl rfl) (pe_op op_cat (pe_lst (pa_cons pe_int pa_nil)) (pe_lc (own := [("_law_k", 5)]) (g := gName 5) (by rfl) sc_law_reckon.nd (pi_range2 (by rfl) T.z_range (pa_cons pe_int (pa_cons (pe_op op_add (pv 2) pe_int) pa_nil))) (blkOk_by (by kernel_rfl)) (fun _ _ _ _ _ => pg_name (i := 5) sc_law_reckon.nd rfl (Or.inl rfl)) (fun _ _ _ _ _ => pts_nil) (fun _ _ _ _ _ => (pcl F_law_reckon (hr.mono (by omega)) (pa_cons (pv 0) (pa_cons (pe_ix (ixT K) (pv 1) pe_int (fun _ _ => rfl)) (pa_cons (pv 5) pa_nil))))))))
      (pss_cons (ps_for PassesOwn.never rfl (piL K (hl := (pe_mid (pe_ix (ixL K) (pe_lst (pa_cons (pe_lst (pa_cons (pe_tup pa_nil) pa_nil)) (pa_cons (pe_lst (pa_cons (pe_tup (pa_cons pe_int pa_nil)) pa_nil)) (pa_cons (pe_lst (pa_cons (pe_tup (pa_cons pe_int pa_nil)) (pa_cons (pe_tup (pa_cons pe_int (pa_cons pe_int pa_nil))) pa_nil))) (pa_cons (pe_lst (pa_cons (pe_tup (pa_cons pe_int pa_nil)) (pa_cons (pe_tup (pa_cons pe_int (pa_cons pe_int pa_nil))) (pa_cons (pe_tup (pa_cons pe_int (pa_cons pe_int pa_nil))) (pa_cons (pe_tup (pa_cons pe_int (pa_cons pe_int pa_nil))) (pa_cons (pe_tup (pa_cons pe_int (pa_cons pe_int (pa_cons pe_int pa_nil)))) pa_nil)))))) pa_nil))))) (pv 2) (fun _ _ => rfl))))) (pg_name (i := 9) sc_law_reckon.nd rfl (Or.inl rfl)) (pss_cons (ps_set (i := 10) sc_law_reckon.nd rfl (.inl rfl) (pcl F_law_reckon (hr.mono (by omega)) (pa_cons (pv 0) (pa_cons (pe_ix (ixT K) (pv 1) pe_int (fun _ _ => rfl)) (pa_cons (pe_callB (lenC K) (by rfl) T.z_len (by decide +kernel) (pa_cons (pv 9) pa_nil)) pa_nil)))))
      (pss_cons (ps_for PassesOwn.never rfl (piT K (hl := (pv 9))) (pg_name (i := 11) sc_law_reckon.nd rfl (Or.inl rfl)) (pss_one (ps_set (i := 10) sc_law_reckon.nd rfl (.inl rfl) (pe_op op_mulW (pv 10) (pe_ix (ixL K) (pv 8) (pv 11) (fun _ _ => rfl))))))
      (pss_one (ps_set (i := 4) sc_law_reckon.nd rfl (.inl rfl) (pe_op op_add (pv 4) (pv 10)))))))
      (pss_one (ps_ret (pv 4)))))))))))))), ?_⟩)
    · obtain ⟨N, k, n, nv, v, rfl, _⟩ := h
      rfl
    obtain ⟨N, k, n, nv, v, rfl, hN, hS, hT, hk, hw, hd, h4, n3, q⟩ := h
    obtain ⟨an, rs, rfl, hnv, hrows⟩ := id hN
    obtain ⟨a, us, rfl, ha, hs⟩ := hk.shape
    -- a part's number
    have pw : ∀ (x : Kd), x ∈ kp k → wf N.length x ∧ dep x < d ∧ dep x ≤ 4 := fun x mx => ⟨kp_wf hw x mx, by have := kp_dep x mx; omega, by have := kp_dep x mx; omega⟩
    have lt : ∀ (x : Kd) (j : Nat), x ∈ kp k → j ≤ 3 → reck N x j < 2 ^ 12501 := fun x j mx j3 => reck_lt hT j3 (by have := kp_dep x mx; omega)
    refine ⟨_, rfl, a, _, _, _, rfl, rfl, SqT.of ha, atI_nat (j := 0) rfl, ?_⟩
    refine ⟨_, rfl, (by show 6 ≤ sizeLine; decide), fun t ht => ⟨t, _, rfl, .inr (SqT.of upd_same), rfl, rfl, _, rfl, ite2 (fun c => ?_) (fun c => ?_)⟩⟩
    · have c' : isBare k = true := (in_bare k).symm.trans c
      have s1 := same_new ht (.tup [.str "void", .str "unit", .str "one", .str "set", .str "row", .str "round"])
      refine ⟨_, rfl, _, rfl, k, n, rfl, c', by omega, fun H2 s2 => ?_⟩
      rw [← reck_bare (N := N) c']
      exact q _ (s1.trans s2)
    have c' : isBare k = false := (in_bare k).symm.trans (Bool.eq_false_iff.mpr c)
    have s1 := same_new ht (.tup [.str "void", .str "unit", .str "one", .str "set", .str "row", .str "round"])
    generalize upd H t (.tup [.str "void", .str "unit", .str "one", .str "set", .str "row", .str "round"]) = H1 at *
    have ha1 := s1 _ _ ha
    refine ⟨_, rfl, rfl, _, rfl, ite2 (fun e => ?_) (fun e => ?_)⟩
    · obtain ⟨i, rfl⟩ := kw_rule (V.str.inj (of_decide_eq_true e))
      match us, hs with
      | [], _ =>
      have hi : i < N.length := hw
      obtain ⟨b, hb, eb⟩ := hrows.at hi
      have r4 := hS.2 _ (getD_mem (d := ([] : List Nat)) hi)
      exact ⟨_, rfl, _, rfl, a, _, _, _, rfl, rfl, SqT.of ha1, atI_nat (j := 1) rfl, an, _, _, _, rfl, rfl, SqL.of (s1 _ _ hnv), atI_nat hb, _, rfl, b, _, _, _, rfl, rfl, SqL.of (s1 _ _ eb), nV_at (by omega), q H1 s1⟩
    have nr : ∀ i, k ≠ .rule i := fun i z => e (by rw [strEq, z]; exact decide_eq_true rfl)
    obtain ⟨x, r, ek⟩ := kp_cons c' nr
    have mx : x ∈ kp k := by rw [ek]; exact List.mem_cons_self
    have dx := kp_dep x mx
    rw [ek] at hs
    match us, hs with
    | v :: us, ⟨kx, hr⟩ =>
    refine ⟨_, rfl, rfl, _, rfl, ite2 (fun e => ?_) (fun e => ?_)⟩
    · obtain ⟨y, rfl⟩ := kw_hole (V.str.inj (of_decide_eq_true e))
      obtain rfl : y = x := (List.cons.inj ek).1
      obtain ⟨b, ws, rfl, hb, hws⟩ := kx.shape
      refine ⟨_, rfl, a, _, _, _, rfl, rfl, SqT.of ha1, atI_nat (j := 1) rfl, b, _, _, _, rfl, rfl, SqT.of (s1 _ _ hb), atI_nat (j := 0) rfl, _, rfl, _, _, rfl, rfl, y, n + 1, rfl, plainK_bare hw, by omega, fun H2 s2 => ?_⟩
      exact q _ (s1.trans s2)
    have nh : ∀ i, k ≠ .hole i := fun i z => e (by rw [strEq, z]; exact decide_eq_true rfl)
    refine ⟨_, rfl, rfl, _, rfl, ite2 (fun e => ?_) (fun e => ?_)⟩
    · obtain ⟨y, lo, hi, rfl⟩ := kw_sized (V.str.inj (of_decide_eq_true e))
      obtain rfl : y = x := (List.cons.inj ek).1
      obtain rfl : [] = r := (List.cons.inj ek).2
      match us, hr with
      | [], _ =>
      have z := fun H2 s2 => q H2 (s1.trans s2)
      simp only [reck] at z
      refine ⟨_, rfl, a, _, _, _, rfl, rfl, SqT.of ha1, atI_nat (j := 2) rfl, _, rfl, _, _, rfl, rfl, _, rfl, ite2 (fun g => ?_) (fun g => ?_)⟩
      · have g1 : ((lo : Nat) : Int) ≤ ((n : Nat) : Int) := of_decide_eq_true g
        refine ⟨_, rfl, a, _, _, _, rfl, rfl, SqT.of ha1, atI_nat (j := 3) rfl, _, _, rfl, rfl, _, rfl, ite2 (fun g => ?_) (fun g => ?_)⟩
        · have g2 : ((n : Nat) : Int) ≤ ((hi : Nat) : Int) := of_decide_eq_true g
          refine ⟨_, rfl, _, rfl, a, _, _, _, rfl, rfl, SqT.of ha1, atI_nat (j := 1) rfl, _, rfl, ⟨N, y, n, _, v, rfl, hN.sm s1, hS, hT, kx.tk (TK.of s1), (pw _ mx).1, (pw _ mx).2.1, (pw _ mx).2.2, n3, fun H2 s2 => ?_⟩⟩
          have z2 := z _ s2
          rw [if_pos (by omega)] at z2
          exact z2
        · have g2 : ¬ ((n : Nat) : Int) ≤ ((hi : Nat) : Int) := of_decide_eq_false (Bool.eq_false_iff.mpr g)
          have z2 := z _ (Same.refl _)
          rw [if_neg (by omega)] at z2
          exact z2
      · have g1 : ¬ ((lo : Nat) : Int) ≤ ((n : Nat) : Int) := of_decide_eq_false (Bool.eq_false_iff.mpr g)
        have z2 := z _ (Same.refl _)
        rw [if_neg (by omega)] at z2
        exact ⟨_, rfl, iteF z2⟩
    have ns : ∀ i m n, k ≠ .sized i m n := fun i m n z => e (by rw [strEq, z]; exact decide_eq_true rfl)
    refine ⟨_, rfl, rfl, _, rfl, ite2 (fun e => ?_) (fun e => ?_)⟩
    · obtain ⟨y, rfl⟩ := kw_point (V.str.inj (of_decide_eq_true e))
      obtain rfl : y = x := (List.cons.inj ek).1
      refine ⟨_, rfl, _, rfl, _, rfl, a, _, _, _, rfl, rfl, SqT.of ha1, atI_nat (j := 1) rfl, _, rfl, ⟨N, y, n, _, v, rfl, hN.sm s1, hS, hT, kx.tk (TK.of s1), (pw _ mx).1, (pw _ mx).2.1, (pw _ mx).2.2, n3, fun H2 s2 => ⟨_, _, rfl, rfl, wide_nat (a := 2) (by omega) (lt y n mx n3) (by decide) (by decide) (by decide), ?_⟩⟩⟩
      have z := q _ (s1.trans s2)
      simp only [reck] at z
      rw [Int.natCast_mul] at z
      exact z
    have np : ∀ i, k ≠ .point i := fun i z => e (by rw [strEq, z]; exact decide_eq_true rfl)
    obtain ⟨pk, x', y, ek2⟩ := kp_two c' nr np nh ns
    have ek3 := ek.symm.trans ek2
    obtain rfl : x = x' := (List.cons.inj ek3).1
    obtain rfl : r = [y] := (List.cons.inj ek3).2
    have my : y ∈ kp k := by rw [ek]; simp
    match us, hr with
    | [vy], ⟨ky, _⟩ =>
    refine ⟨_, rfl, rfl, _, rfl, ite2 (fun e => ?_) (fun e => ?_)⟩
    · obtain ⟨x1, y1, rfl⟩ := kw_this (V.str.inj (of_decide_eq_true e))
      simp only [kp, List.cons.injEq, and_true] at ek
      obtain ⟨rfl, rfl⟩ := ek
      refine ⟨_, rfl, _, rfl, a, _, _, _, rfl, rfl, SqT.of ha1, atI_nat (j := 1) rfl, _, rfl, ⟨N, x1, n, _, v, rfl, hN.sm s1, hS, hT, kx.tk (TK.of s1), (pw _ mx).1, (pw _ mx).2.1, (pw _ mx).2.2, n3, fun H2 s2 => ?_⟩⟩
      refine ⟨_, rfl, _, rfl, a, _, _, _, rfl, rfl, SqT.of (s2 _ _ ha1), atI_nat (j := 2) rfl, _, rfl, ⟨N, y1, n, _, vy, rfl, hN.sm (s1.trans s2), hS, hT, ky.tk (TK.of (s1.trans s2)), (pw _ my).1, (pw _ my).2.1, (pw _ my).2.2, n3, fun H3 s3 => ⟨_, _, rfl, rfl, ?_⟩⟩⟩
      have z := q _ ((s1.trans s2).trans s3)
      simp only [reck] at z
      rw [Int.natCast_add] at z
      exact z
    have nt : ∀ i j, k ≠ .this i j := fun i j z => e (by rw [strEq, z]; exact decide_eq_true rfl)
    -- found = 0
    refine ⟨_, rfl, rfl, _, rfl, ite2 (fun e => ?_) (fun e => ?_)⟩
    · obtain ⟨x1, y1, rfl⟩ := kw_both (V.str.inj (of_decide_eq_true e))
      simp only [kp, List.cons.injEq, and_true] at ek
      obtain ⟨rfl, rfl⟩ := ek
      refine ⟨_, rfl, _, _, rfl, rfl, _, rfl, by omega, by omega, ?_⟩
      rw [show (((n : Nat) : Int) + 1).toNat = n + 1 by omega]
      refine for_range (n := n + 1) (fun i σ' H' => ∃ o1 o2 o3 : Option V, σ' = [some (.ref an), some (.ref a), some (.int (n : Nat)), some (.str "both"), some (.int (((List.range i).foldl (fun f k => f + ways n k * reck N x1 k * reck N y1 (n - k)) 0 : Nat) : Nat)), o1, o2, o3, none, none, none, none] ∧ Same H H')
        ⟨none, none, none, rfl, s1⟩ ?_ ?_
      · rintro i σ' H2 hi ⟨o1, o2, o3, rfl, s2⟩
        rw [Int.zero_add]
        have s02 := s2
        have ha2 := s2 _ _ ha
        refine ⟨_, rfl, _, rfl, a, _, _, _, rfl, rfl, SqT.of ha2, atI_nat (j := 1) rfl, _, rfl, N, x1, i, _, v, rfl, hN.sm s2, hS, hT, kx.tk (TK.of s2), (pw _ mx).1, (pw _ mx).2.1, (pw _ mx).2.2, by omega, fun H3 s3 => ?_⟩
        have s23 := s2.trans s3
        refine ⟨_, rfl, _, rfl, a, _, _, _, rfl, rfl, SqT.of (s3 _ _ ha2), atI_nat (j := 2) rfl, _, rfl, _, rfl, _, _, rfl, rfl, N, y1, n - i, _, vy, (show [V.ref an, vy, V.int (((n : Nat) : Int) - ((i : Nat) : Int))] = _ by rw [show ((n : Nat) : Int) - ((i : Nat) : Int) = ((n - i : Nat) : Int) by omega]), hN.sm s23, hS, hT, ky.tk (TK.of s23), (pw _ my).1, (pw _ my).2.1, (pw _ my).2.2, by omega, fun H4 s4 => ?_⟩
        have l1 := lt x1 i mx (by omega)
        have l2 := lt y1 (n - i) my (by omega)
        have l3 := ways_few (show i ≤ n by omega) n3
        refine ⟨_, _, rfl, _, rfl, _, rfl, _, rfl, n, i, rfl, by omega, n3, _, rfl, _, _, rfl, rfl, wide_nat l3 l1 (by decide) (by decide) (by decide), _, rfl, _, _, rfl, rfl, ?_, _, _, rfl, rfl, ?_⟩
        · rw [← Int.natCast_mul]
          exact wide_nat (mul_lt_pow l3 l1) l2 (by decide) (by decide) (by decide)
        · refine ⟨some (.int (i : Nat)), some (.int (reck N x1 i : Nat)), some (.int (reck N y1 (n - i) : Nat)), ?_, s23.trans s4⟩
          rw [List.range_succ, List.foldl_append]
          rfl
      · rintro σ' H2 ⟨o1, o2, o3, rfl, s2⟩
        exact ⟨_, rfl, q _ s2⟩
    · obtain ⟨x1, y1, rfl⟩ := pair_inn pk nt fun i j z => e (by rw [strEq, z]; exact decide_eq_true rfl)
      simp only [kp, List.cons.injEq, and_true] at ek
      obtain ⟨rfl, rfl⟩ := ek
      have en : (((n : Nat) : Int) + 1 - 1).toNat = n := by omega
      refine ⟨(by show 1 ≤ sizeLine; decide), fun p1 n1 => ?_⟩
      have e1 : upd H1 p1 (.lst [.int 0]) p1 = some (.lst [.int 0]) := upd_same
      have s2 := s1.trans (same_new n1 (.lst [.int 0]))
      generalize upd H1 p1 (.lst [.int 0]) = H2 at *
      refine ⟨_, rfl, _, _, rfl, rfl, _, _, rfl, ⟨by omega, by omega, by omega, by omega⟩, fun D hD => ?_⟩
      rw [en]
      refine pc_range (fun i => some (V.int (reck N y1 (i + 1) : Nat))) hD (by omega) (fun _ => rfl) (fun i H3 hi s3 => turn_yes fun Y hY => ?_) (fun H4 s4 e4 => ?_)
      · have s23 := s2.trans s3
        exact ⟨_, rfl, _, rfl, a, _, _, _, rfl, rfl, SqT.of (s23 _ _ ha), atI_nat (j := 2) rfl, _, rfl, N, y1, i + 1, _, vy, (show [V.ref an, vy, V.int ((1 : Int) + ((i : Nat) : Int))] = _ by rw [show (1 : Int) + ((i : Nat) : Int) = ((i + 1 : Nat) : Int) by omega]), hN.sm s23, hS, hT, ky.tk (TK.of s23), (pw _ my).1, (pw _ my).2.1, (pw _ my).2.2, by omega, hY⟩
      rw [fm_map] at e4
      refine ⟨p1, D, _, _, rfl, rfl, s4 _ _ e1, e4, small (by rw [List.length_map, List.length_range]; show 1 + n ≤ 1000; omega), fun pin npin => ?_⟩
      have s5 := (s2.trans s4).trans (same_new npin (.lst (innerV N y1 n)))
      have e5 : upd H4 pin (.lst (innerV N y1 n)) pin = some (.lst (innerV N y1 n)) := upd_same
      change (fun Hx => _) (upd H4 pin (.lst (innerV N y1 n)))
      generalize upd H4 pin (.lst (innerV N y1 n)) = H5 at *
      refine ⟨fun v H' => ∃ p vs, v = .ref p ∧ Same H5 H' ∧ H' p = some (.lst vs) ∧ SizesAt H' (sizesOf n) vs, ?_, ?_⟩
      · clear q
        refine ⟨(by show 0 ≤ sizeLine; decide), fun t00 nt00 => ?_⟩
        have gt00 := same_new nt00 (.tup [])
        have et00 : upd H5 t00 (.tup []) t00 = some (.tup []) := upd_same
        generalize upd H5 t00 (.tup []) = G0 at *
        refine ⟨(by show 1 ≤ sizeLine; decide), fun l0 nl0 => ?_⟩
        have gl0 := same_new nl0 (.lst [.ref t00])
        have el0 : upd G0 l0 (.lst [.ref t00]) l0 = some (.lst [.ref t00]) := upd_same
        generalize upd G0 l0 (.lst [.ref t00]) = G1 at *
        refine ⟨(by show 1 ≤ sizeLine; decide), fun t10 nt10 => ?_⟩
        have gt10 := same_new nt10 (.tup [.int 1])
        have et10 : upd G1 t10 (.tup [.int 1]) t10 = some (.tup [.int 1]) := upd_same
        generalize upd G1 t10 (.tup [.int 1]) = G2 at *
        refine ⟨(by show 1 ≤ sizeLine; decide), fun l1 nl1 => ?_⟩
        have gl1 := same_new nl1 (.lst [.ref t10])
        have el1 : upd G2 l1 (.lst [.ref t10]) l1 = some (.lst [.ref t10]) := upd_same
        generalize upd G2 l1 (.lst [.ref t10]) = G3 at *
        refine ⟨(by show 1 ≤ sizeLine; decide), fun t20 nt20 => ?_⟩
        have gt20 := same_new nt20 (.tup [.int 2])
        have et20 : upd G3 t20 (.tup [.int 2]) t20 = some (.tup [.int 2]) := upd_same
        generalize upd G3 t20 (.tup [.int 2]) = G4 at *
        refine ⟨(by show 2 ≤ sizeLine; decide), fun t21 nt21 => ?_⟩
        have gt21 := same_new nt21 (.tup [.int 1, .int 1])
        have et21 : upd G4 t21 (.tup [.int 1, .int 1]) t21 = some (.tup [.int 1, .int 1]) := upd_same
        generalize upd G4 t21 (.tup [.int 1, .int 1]) = G5 at *
        refine ⟨(by show 2 ≤ sizeLine; decide), fun l2 nl2 => ?_⟩
        have gl2 := same_new nl2 (.lst [.ref t20, .ref t21])
        have el2 : upd G5 l2 (.lst [.ref t20, .ref t21]) l2 = some (.lst [.ref t20, .ref t21]) := upd_same
        generalize upd G5 l2 (.lst [.ref t20, .ref t21]) = G6 at *
        refine ⟨(by show 1 ≤ sizeLine; decide), fun t30 nt30 => ?_⟩
        have gt30 := same_new nt30 (.tup [.int 3])
        have et30 : upd G6 t30 (.tup [.int 3]) t30 = some (.tup [.int 3]) := upd_same
        generalize upd G6 t30 (.tup [.int 3]) = G7 at *
        refine ⟨(by show 2 ≤ sizeLine; decide), fun t31 nt31 => ?_⟩
        have gt31 := same_new nt31 (.tup [.int 1, .int 2])
        have et31 : upd G7 t31 (.tup [.int 1, .int 2]) t31 = some (.tup [.int 1, .int 2]) := upd_same
        generalize upd G7 t31 (.tup [.int 1, .int 2]) = G8 at *
        refine ⟨(by show 2 ≤ sizeLine; decide), fun t32 nt32 => ?_⟩
        have gt32 := same_new nt32 (.tup [.int 1, .int 2])
        have et32 : upd G8 t32 (.tup [.int 1, .int 2]) t32 = some (.tup [.int 1, .int 2]) := upd_same
        generalize upd G8 t32 (.tup [.int 1, .int 2]) = G9 at *
        refine ⟨(by show 2 ≤ sizeLine; decide), fun t33 nt33 => ?_⟩
        have gt33 := same_new nt33 (.tup [.int 1, .int 2])
        have et33 : upd G9 t33 (.tup [.int 1, .int 2]) t33 = some (.tup [.int 1, .int 2]) := upd_same
        generalize upd G9 t33 (.tup [.int 1, .int 2]) = G10 at *
        refine ⟨(by show 3 ≤ sizeLine; decide), fun t34 nt34 => ?_⟩
        have gt34 := same_new nt34 (.tup [.int 1, .int 1, .int 1])
        have et34 : upd G10 t34 (.tup [.int 1, .int 1, .int 1]) t34 = some (.tup [.int 1, .int 1, .int 1]) := upd_same
        generalize upd G10 t34 (.tup [.int 1, .int 1, .int 1]) = G11 at *
        refine ⟨(by show 5 ≤ sizeLine; decide), fun l3 nl3 => ?_⟩
        have gl3 := same_new nl3 (.lst [.ref t30, .ref t31, .ref t32, .ref t33, .ref t34])
        have el3 : upd G11 l3 (.lst [.ref t30, .ref t31, .ref t32, .ref t33, .ref t34]) l3 = some (.lst [.ref t30, .ref t31, .ref t32, .ref t33, .ref t34]) := upd_same
        generalize upd G11 l3 (.lst [.ref t30, .ref t31, .ref t32, .ref t33, .ref t34]) = G12 at *
        refine ⟨(by show 4 ≤ sizeLine; decide), fun lo nlo => ?_⟩
        have glo := same_new nlo (.lst [.ref l0, .ref l1, .ref l2, .ref l3])
        have elo : upd G12 lo (.lst [.ref l0, .ref l1, .ref l2, .ref l3]) lo = some (.lst [.ref l0, .ref l1, .ref l2, .ref l3]) := upd_same
        generalize upd G12 lo (.lst [.ref l0, .ref l1, .ref l2, .ref l3]) = G13 at *
        have qt00 := (gl0.trans (gt10.trans (gl1.trans (gt20.trans (gt21.trans (gl2.trans (gt30.trans (gt31.trans (gt32.trans (gt33.trans (gt34.trans (gl3.trans (glo))))))))))))) _ _ et00
        have ql0 := (gt10.trans (gl1.trans (gt20.trans (gt21.trans (gl2.trans (gt30.trans (gt31.trans (gt32.trans (gt33.trans (gt34.trans (gl3.trans (glo)))))))))))) _ _ el0
        have qt10 := (gl1.trans (gt20.trans (gt21.trans (gl2.trans (gt30.trans (gt31.trans (gt32.trans (gt33.trans (gt34.trans (gl3.trans (glo))))))))))) _ _ et10
        have ql1 := (gt20.trans (gt21.trans (gl2.trans (gt30.trans (gt31.trans (gt32.trans (gt33.trans (gt34.trans (gl3.trans (glo)))))))))) _ _ el1
        have qt20 := (gt21.trans (gl2.trans (gt30.trans (gt31.trans (gt32.trans (gt33.trans (gt34.trans (gl3.trans (glo))))))))) _ _ et20
        have qt21 := (gl2.trans (gt30.trans (gt31.trans (gt32.trans (gt33.trans (gt34.trans (gl3.trans (glo)))))))) _ _ et21
        have ql2 := (gt30.trans (gt31.trans (gt32.trans (gt33.trans (gt34.trans (gl3.trans (glo))))))) _ _ el2
        have qt30 := (gt31.trans (gt32.trans (gt33.trans (gt34.trans (gl3.trans (glo)))))) _ _ et30
        have qt31 := (gt32.trans (gt33.trans (gt34.trans (gl3.trans (glo))))) _ _ et31
        have qt32 := (gt33.trans (gt34.trans (gl3.trans (glo)))) _ _ et32
        have qt33 := (gt34.trans (gl3.trans (glo))) _ _ et33
        have qt34 := (gl3.trans (glo)) _ _ et34
        have ql3 := (glo) _ _ el3
        have qlo := (Same.refl _) _ _ elo
        have sAll := gt00.trans (gl0.trans (gt10.trans (gl1.trans (gt20.trans (gt21.trans (gl2.trans (gt30.trans (gt31.trans (gt32.trans (gt33.trans (gt34.trans (gl3.trans (glo)))))))))))))
        rcases four n3 with rfl | rfl | rfl | rfl
        · exact ⟨_, rfl, lo, _, _, _, rfl, rfl, SqL.of qlo, atI_nat (j := 0) rfl, l0, _, rfl, sAll, ql0, ⟨⟨_, rfl, qt00⟩, trivial⟩⟩
        · exact ⟨_, rfl, lo, _, _, _, rfl, rfl, SqL.of qlo, atI_nat (j := 1) rfl, l1, _, rfl, sAll, ql1, ⟨⟨_, rfl, qt10⟩, trivial⟩⟩
        · exact ⟨_, rfl, lo, _, _, _, rfl, rfl, SqL.of qlo, atI_nat (j := 2) rfl, l2, _, rfl, sAll, ql2, ⟨⟨_, rfl, qt20⟩, ⟨⟨_, rfl, qt21⟩, trivial⟩⟩⟩
        · exact ⟨_, rfl, lo, _, _, _, rfl, rfl, SqL.of qlo, atI_nat (j := 3) rfl, l3, _, rfl, sAll, ql3, ⟨⟨_, rfl, qt30⟩, ⟨⟨_, rfl, qt31⟩, ⟨⟨_, rfl, qt32⟩, ⟨⟨_, rfl, qt33⟩, ⟨⟨_, rfl, qt34⟩, trivial⟩⟩⟩⟩⟩⟩
      rintro v H6 ⟨p, vs, rfl, s6, e6, k6⟩
      have s06 := s5.trans s6
      have hl := k6.len
      refine ⟨p, rfl, ⟨_, SqL.of e6⟩, ?_⟩
      refine for_list (xs := vs) (fun i σ' H' => ∃ o1 o2 o3 : Option V, σ' = [some (.ref an), some (.ref a), some (.int (n : Nat)), some (.str "in"), some (.int ((((sizesOf n).take i).foldl (fun f ss => f + ss.foldl (fun p s => p * reck N y1 s) (reck N x1 ss.length)) 0 : Nat) : Nat)), none, none, none, some (.ref pin), o1, o2, o3] ∧ Same H6 H')
        ⟨none, none, none, rfl, Same.refl _⟩ (fun i σ' H' _ ⟨_, _, _, _, s'⟩ => SqL.of (s' _ _ e6)) ?_ ?_
      · rintro i xv σ' H7 hx ⟨o1, o2, o3, rfl, s7⟩
        obtain ⟨b, hi, rfl, eb⟩ := (k6.sm s7).get hx
        have s07 := s06.trans s7
        have ha7 := s07 _ _ ha
        obtain ⟨okl, oks⟩ := sizes_ok n3 _ (getD_mem (d := ([] : List Nat)) hi)
        have fold := fold_take (fun f ss => f + ss.foldl (fun p s => p * reck N y1 s) (reck N x1 ss.length)) 0 hi []
        generalize (sizesOf n).getD i [] = ss at *
        refine ⟨_, rfl, _, rfl, a, _, _, _, rfl, rfl, SqT.of ha7, atI_nat (j := 1) rfl, _, rfl, b, _, rfl, .inr (SqT.of eb), N, x1, ss.length, _, v, (by rw [nV_len] <;> rfl), hN.sm s07, hS, hT, kx.tk (TK.of s07), (pw _ mx).1, (pw _ mx).2.1, (pw _ mx).2.2, by omega, fun H8 s8 => ?_⟩
        have s08 := s07.trans s8
        refine ⟨_, rfl, b, rfl, ⟨_, SqT.of (s8 _ _ eb)⟩, ?_⟩
        refine for_tup (xs := nV ss) (fun j σ' H' => ∃ (o3 : Option V) (pt : Nat), σ' = [some (.ref an), some (.ref a), some (.int (n : Nat)), some (.str "in"), some (.int ((((sizesOf n).take i).foldl (fun f ss => f + ss.foldl (fun p s => p * reck N y1 s) (reck N x1 ss.length)) 0 : Nat) : Nat)), none, none, none, some (.ref pin), some (.ref b), some (.int (pt : Nat)), o3] ∧ Same H8 H' ∧
            pt = (ss.take j).foldl (fun p s => p * reck N y1 s) (reck N x1 ss.length) ∧ pt < 2 ^ (12501 * (j + 1)))
          ⟨o3, _, rfl, Same.refl _, rfl, lt x1 _ mx (by omega)⟩ (fun j σ' H' _ ⟨_, _, _, s', _⟩ => SqT.of (s' _ _ (s8 _ _ eb))) ?_ ?_
        · rintro j yv σ' H9 hy ⟨o3, pt, rfl, s9, ept, lpt⟩
          obtain ⟨hj, rfl⟩ := nV_get hy
          have sok := oks _ (getD_mem (d := 0) hj)
          have e9 := (s6.trans (s7.trans (s8.trans s9))) _ _ e5
          have ly := lt y1 (ss.getD j 0) my (by omega)
          refine ⟨_, rfl, _, rfl, _, rfl, pin, _, _, _, rfl, rfl, SqL.of e9, inner_at sok.1 sok.2, _, _, rfl, rfl, wide_nat lpt ly (by omega) (by decide) (by omega), ?_⟩
          refine ⟨some (.int (ss.getD j 0 : Nat)), pt * reck N y1 (ss.getD j 0), ?_, s9, ?_, ?_⟩
          · rw [Int.natCast_mul]
            rfl
          · rw [fold_take _ _ hj 0, ← ept]
          · have := mul_lt_pow lpt ly
            rw [show 12501 * (j + 1 + 1) = 12501 * (j + 1) + 12501 by omega]
            exact this
        · rintro σ' H9 ⟨o3, pt, rfl, s9, ept, lpt⟩
          refine ⟨_, rfl, _, rfl, _, _, rfl, rfl, some (.ref b), some (.int (pt : Nat)), o3, ?_, s7.trans (s8.trans s9)⟩
          rw [nV_len, List.take_length] at ept
          rw [fold, ← ept, Int.natCast_add]
          rfl
      · rintro σ' H7 ⟨o1, o2, o3, rfl, s7⟩
        refine ⟨_, rfl, ?_⟩
        have z := q _ (s06.trans s7)
        simp only [reck] at z
        rw [hl, List.take_length]
        exact z
end
end KB
/-! # Walks 11: tables of numbers -/
namespace KB
open PySem PySem.Spec PyProof.Rows L2 KM
/-! ### comprehensions whose parts are new -/
section
variable {K : PySem.W.Frag} {a : Addr} {xs : List V} {j : Nat} {te : TE} {vs : List Nat} {σ : L2.St} {H1 : Hp} {D : Addr} {Qd : Hp → Prop}
theorem rc_tup (R : Nat → V → Hp → Prop) (st : ∀ i v H H', SB D H H' → R i v H → R i v H') (hD : H1 D = none) (hS : SqT K H1 a xs) (hn : xs.length ≤ 1000) (hw : ∀ x, wipe ((wipe σ vs).set j (some x)) vs = wipe σ vs)
    (hs : ∀ i x H, xs[i]? = some x → Same H1 H → (∃ acc, H D = some (.lst acc)) → ∀ Y : V → Hp → Prop, (∀ y H4, Same H H4 → R i y H4 → Y y H4) → te ((wipe σ vs).set j (some x)) H Y)
    (hd : ∀ H acc, Same H1 H → H D = some (.lst acc) → acc.length = xs.length → (∀ i v, acc[i]? = some v → R i v H) → Qd H) :
    ∃ W : Nat → Nat → Hp → Prop, (∃ m, W 0 m (upd H1 D (.lst []))) ∧ ∀ i m H, W i m H →
      ((Itt K a).stop i H ∧ Qd H) ∨ ((Itt K a).go i H ∧ ∃ Nx : Hp → Prop, (∀ H', Nx H' → ∃ m', m' < m ∧ W (i + 1) m' H') ∧ ∀ x H', (Itt K a).yld i H x H' → gName j x (wipe σ vs) H' fun σ2 H2 => wipe σ2 vs = wipe σ vs ∧ tYes σ2 H2 fun b H3 =>
        if b = true then te σ2 H3 fun y H4 => ∃ acc, H4 D = some (.lst acc) ∧ acc.length < sizeLine ∧ Nx (upd H4 D (.lst (acc ++ [y]))) else Nx H3) :=
  lc_tup (fun i H => Same H1 H ∧ ∃ acc, H D = some (.lst acc) ∧ acc.length = i ∧ ∀ m v, acc[m]? = some v → R m v H) ⟨same_new hD _, [], upd_same, rfl, fun m v e => by simp at e⟩ (fun i H _ p => SqT.sm p.1 hS)
    (fun i x H hx ⟨s, acc, e, el, hr⟩ => ⟨hw x, by
      simp only [tYes, if_true]
      refine (hs i x H hx s ⟨acc, e⟩ _ fun y H4 s4 r4 => ?_)
      have hi := (List.getElem?_eq_some_iff.mp hx).1
      refine ⟨acc, s4 _ _ e, by rw [el]; exact small1000 (by omega), Same.wr (s.trans s4) hD, acc ++ [y], upd_same, by rw [List.length_append, el]; rfl, fun m v q => ?_⟩
      have up : SB D H4 (upd H4 D (.lst (acc ++ [y]))) := SB.upd
      by_cases c : m < acc.length
      · rw [List.getElem?_append_left c] at q
        exact st _ _ _ _ ((SB.of s4).trans up) (hr m v q)
      · rw [List.getElem?_append_right (by omega)] at q
        have c2 : m - acc.length = 0 := by
          have := (List.getElem?_eq_some_iff.mp q).1
          rw [List.length_singleton] at this
          omega
        rw [c2] at q
        obtain rfl : y = v := Option.some.inj q
        obtain rfl : m = i := by omega
        exact st _ _ _ _ up r4⟩) fun H p => by
    obtain ⟨s, acc, e, el, hr⟩ := p
    exact hd H acc s e el hr
/-- .. drawing from a tape -/
theorem rt_range {n k b c : Nat} {t l : Addr} (R : Nat → V → Hp → Prop) (hk : n = k) (st : ∀ i v H H', TK H H' → R i v H → R i v H') (hD : H1 D = none) (hT : TapeAt H1 t l c) (hn : k ≤ 1000) (hw : ∀ x, wipe ((wipe σ vs).set j (some x)) vs = wipe σ vs)
    (hs : ∀ (i : Nat) H, i < k → SB t H1 H → TapeAt H t l (c + b * i) → ∀ Y : V → Hp → Prop, (∀ y H4, SB t H H4 → TapeAt H4 t l (c + b * (i + 1)) → R i y H4 → Y y H4) → te ((wipe σ vs).set j (some (.int (i : Nat)))) H Y)
    (hd : ∀ H acc, SB t H1 H → TapeAt H t l (c + b * k) → H D = some (.lst acc) → acc.length = k → (∀ i v, acc[i]? = some v → R i v H) → Qd H) :
    ∃ W : Nat → Nat → Hp → Prop, (∃ m, W 0 m (upd H1 D (.lst []))) ∧ ∀ i m H, W i m H →
      ((Itr 0 n).stop i H ∧ Qd H) ∨ ((Itr 0 n).go i H ∧ ∃ Nx : Hp → Prop, (∀ H', Nx H' → ∃ m', m' < m ∧ W (i + 1) m' H') ∧ ∀ x H', (Itr 0 n).yld i H x H' → gName j x (wipe σ vs) H' fun σ2 H2 => wipe σ2 vs = wipe σ vs ∧ tYes σ2 H2 fun b H3 =>
        if b = true then te σ2 H3 fun y H4 => ∃ acc, H4 D = some (.lst acc) ∧ acc.length < sizeLine ∧ Nx (upd H4 D (.lst (acc ++ [y]))) else Nx H3) := by
  subst hk
  have ne := hT.ne hD
  refine lc_range (fun i H => SB t H1 H ∧ TapeAt H t l (c + b * i) ∧ ∃ acc, H D = some (.lst acc) ∧ acc.length = i ∧ ∀ m v, acc[m]? = some v → R m v H) ⟨SB.new hD, hT.upd ne.1 ne.2, [], upd_same, rfl, fun m v e => by simp at e⟩
    (fun i H hi ⟨s, hT', acc, e, el, hr⟩ => ⟨hw _, ?_⟩) fun H p => ?_
  · simp only [tYes, if_true]
    rw [Int.zero_add]
    refine (hs i H hi s hT' _ fun y H4 s4 hT4 r4 => ?_)
    have e4 := s4 _ _ ne.1 e
    refine ⟨acc, e4, by rw [el]; exact small1000 (by omega), fun p o np q => ?_, hT4.upd ne.1 ne.2, acc ++ [y], upd_same, by rw [List.length_append, el]; rfl, fun m v q => ?_⟩
    · rw [upd_ne (ne_of_none q hD)]
      exact s4 _ _ np (s _ _ np q)
    have up : TK H4 (upd H4 D (.lst (acc ++ [y]))) := TK.lst e4
    by_cases c : m < acc.length
    · rw [List.getElem?_append_left c] at q
      exact st _ _ _ _ ((hT'.tk s4).trans up) (hr m v q)
    · rw [List.getElem?_append_right (by omega)] at q
      have c2 : m - acc.length = 0 := by
        have := (List.getElem?_eq_some_iff.mp q).1
        rw [List.length_singleton] at this
        omega
      rw [c2] at q
      obtain rfl : y = v := Option.some.inj q
      obtain rfl : m = i := by omega
      exact st _ _ _ _ up r4
  · obtain ⟨s, hT', acc, e, el, hr⟩ := p
    exact hd H acc s hT' e el hr
theorem rt_list {b c : Nat} {t l : Addr} (R : Nat → V → Hp → Prop) (st : ∀ i v H H', TK H H' → R i v H → R i v H') (hD : H1 D = none) (hS : H1 a = some (.lst xs)) (na : a ≠ t) (hT : TapeAt H1 t l c) (hn : xs.length ≤ 1000) (hw : ∀ x, wipe ((wipe σ vs).set j (some x)) vs = wipe σ vs)
    (hs : ∀ (i : Nat) x H, xs[i]? = some x → SB t H1 H → TapeAt H t l (c + b * i) → ∀ Y : V → Hp → Prop, (∀ y H4, SB t H H4 → TapeAt H4 t l (c + b * (i + 1)) → R i y H4 → Y y H4) → te ((wipe σ vs).set j (some x)) H Y)
    (hd : ∀ H acc, SB t H1 H → TapeAt H t l (c + b * xs.length) → H D = some (.lst acc) → acc.length = xs.length → (∀ i v, acc[i]? = some v → R i v H) → Qd H) :
    ∃ W : Nat → Nat → Hp → Prop, (∃ m, W 0 m (upd H1 D (.lst []))) ∧ ∀ i m H, W i m H →
      ((Itl K a).stop i H ∧ Qd H) ∨ ((Itl K a).go i H ∧ ∃ Nx : Hp → Prop, (∀ H', Nx H' → ∃ m', m' < m ∧ W (i + 1) m' H') ∧ ∀ x H', (Itl K a).yld i H x H' → gName j x (wipe σ vs) H' fun σ2 H2 => wipe σ2 vs = wipe σ vs ∧ tYes σ2 H2 fun b H3 =>
        if b = true then te σ2 H3 fun y H4 => ∃ acc, H4 D = some (.lst acc) ∧ acc.length < sizeLine ∧ Nx (upd H4 D (.lst (acc ++ [y]))) else Nx H3) := by
  have ne := hT.ne hD
  refine lc_list (fun i H => SB t H1 H ∧ TapeAt H t l (c + b * i) ∧ ∃ acc, H D = some (.lst acc) ∧ acc.length = i ∧ ∀ m v, acc[m]? = some v → R m v H) ⟨SB.new hD, hT.upd ne.1 ne.2, [], upd_same, rfl, fun m v e => by simp at e⟩
    (fun i H _ p => SqL.of (p.1 _ _ na hS)) (fun i x H hx ⟨s, hT', acc, e, el, hr⟩ => ⟨hw _, ?_⟩) fun H p => ?_
  · simp only [tYes, if_true]
    have hi := (List.getElem?_eq_some_iff.mp hx).1
    refine (hs i x H hx s hT' _ fun y H4 s4 hT4 r4 => ?_)
    have e4 := s4 _ _ ne.1 e
    refine ⟨acc, e4, by rw [el]; exact small1000 (by omega), fun p o np q => ?_, hT4.upd ne.1 ne.2, acc ++ [y], upd_same, by rw [List.length_append, el]; rfl, fun m v q => ?_⟩
    · rw [upd_ne (ne_of_none q hD)]
      exact s4 _ _ np (s _ _ np q)
    have up : TK H4 (upd H4 D (.lst (acc ++ [y]))) := TK.lst e4
    by_cases c : m < acc.length
    · rw [List.getElem?_append_left c] at q
      exact st _ _ _ _ ((hT'.tk s4).trans up) (hr m v q)
    · rw [List.getElem?_append_right (by omega)] at q
      have c2 : m - acc.length = 0 := by
        have := (List.getElem?_eq_some_iff.mp q).1
        rw [List.length_singleton] at this
        omega
      rw [c2] at q
      obtain rfl : y = v := Option.some.inj q
      obtain rfl : m = i := by omega
      exact st _ _ _ _ up r4
  · obtain ⟨s, hT', acc, e, el, hr⟩ := p
    exact hd H acc s hT' e el hr
end
theorem RowsAt.of {H : Hp} : ∀ {N : Tab} {vs : List V}, vs.length = N.length → (∀ i v, vs[i]? = some v → ∃ b, v = .ref b ∧ H b = some (.lst (nV (N.getD i [])))) → RowsAt H N vs
  | [], [], _, _ => trivial
  | r :: N, v :: vs, hl, h => ⟨h 0 v rfl, RowsAt.of (Nat.succ.inj hl) fun i v' e => h (i + 1) v' e⟩
  | [], _ :: _, hl, _ => by simp at hl
  | _ :: _, [], hl, _ => by simp at hl
theorem stepN_row {ks : List Kd} {N : Tab} {i : Nat} (hi : i < ks.length) : (stepN ks N).getD i [] = (List.range 4).map fun n => min cap (reck N (ks.getD i .void) n) := by
  unfold stepN
  rw [getD_of_lt (by rw [List.length_map]; exact hi), List.getElem_map, getD_of_lt hi]
theorem steps0_row {ks : List Kd} {i : Nat} (hi : i < ks.length) : (stepsN ks 0).getD i [] = List.replicate 4 0 := by
  unfold stepsN
  rw [getD_of_lt (by rw [List.length_map]; exact hi), List.getElem_map]
theorem min_cap (x : Nat) : (if ((x : Nat) : Int) < (10 : Int) ^ (Int.toNat 30) then ((x : Nat) : Int) else (10 : Int) ^ (Int.toNat 30)) = ((min cap x : Nat) : Int) := by
  have e : (10 : Int) ^ (Int.toNat 30) = ((cap : Nat) : Int) := by decide +kernel
  rw [e]
  generalize cap = c
  split <;> omega
section
variable {P : Program} {w : World} {K : PySem.W.Frag} {mg : Str → Option Value} {base : Heap}
/-! ### _law_steps: 0:_law_rules 1:_law_turns 2:_law_numbers 3:_law_turn 4:_law_rule 5:_law_n -/
theorem sc_law_steps : FnScope ["_law_rules", "_law_turns", "_law_numbers", "_law_turn", "_law_rule", "_law_n"] ["_law_rules", "_law_turns"] (defScope KH.s_law_steps) := ⟨rfl, rfl, rfl, by decide +kernel, rfl, by decide +kernel, by decide +kernel⟩
def sp_law_steps : Sp := fun vs H Q _ => ∃ (ks : List Kd) (rv : V) (t : Nat), vs = [rv, .int (t : Nat)] ∧ RAt H ks rv ∧ RulesOk ks ∧ (∀ k ∈ ks, dep k ≤ 4) ∧ t ≤ 1000 ∧ ∀ H' v, Same H H' → TabAt H' (stepsN ks t) v → Q v H'
theorem ok_law_steps (T : Txt w K mg) (F_law_reckon : Prm P w K mg base CX0 7 "_law_reckon" ["_law_numbers", "_law_kind", "_law_n"] (sp_law_reckon 5)) : Prm P w K mg base CX0 8 "_law_steps" ["_law_rules", "_law_turns"] sp_law_steps := by
  refine T.d_law_steps.ok sc_law_steps (fun vs H Q E h => ?_) (fun f cdv A outer s H vs Q E hr h => ⟨_, (pss_cons (ps_set (i := 2) sc_law_steps.nd rfl (.inr rfl) (pe_lc (own := [("_law_rule", 4)]) (g := gName 4) (by rfl) sc_law_steps.nd (piT K (hl := (pv 0))) (blkOk_by (by kernel_rfl)) (fun _ _ _ _ _ => pg_name (i := 4) sc_law_steps.nd rfl (Or.inl rfl)) (fun _ _ _ _ _ => pts_nil) (fun _ _ _ _ _ => (pe_op op_rep (pe_lst (pa_cons pe_int pa_nil)) pe_int))))
      (pss_cons (ps_for PassesOwn.never rfl (pi_range1 (by rfl) T.z_range (pa_cons (pv 1) pa_nil)) (pg_name (i := 3) sc_law_steps.nd rfl (Or.inl rfl)) (pss_one (ps_set (i := 2) sc_law_steps.nd rfl (.inr rfl) (pe_lc (own := [("_law_rule", 4)]) (g := gName 4) (by rfl) sc_law_steps.nd (piT K (hl := (pv 0))) (blkOk_by (by kernel_rfl)) (fun _ _ _ _ _ => pg_name (i := 4) sc_law_steps.nd rfl (Or.inr rfl)) (fun _ _ _ _ _ => pts_nil) (fun _ _ _ _ _ => (pe_lc (own := [("_law_n", 5)]) (g := gName 5) (by rfl) sc_law_steps.nd (pi_range1 (by rfl) T.z_range (pa_cons pe_int pa_nil)) (blkOk_by (by kernel_rfl)) (fun _ _ _ _ _ => pg_name (i := 5) sc_law_steps.nd rfl (Or.inl rfl)) (fun _ _ _ _ _ => pts_nil) (fun _ _ _ _ _ => (pe_callB (call_min2 rfl) (by rfl) T.z_min (by decide +kernel) (pa_cons (pe_op op_pow pe_int pe_int) (pa_cons (pcl F_law_reckon (hr.mono (by omega)) (pa_cons (pv 2) (pa_cons (pv 4) (pa_cons (pv 5) pa_nil)))) pa_nil))))))))))
      (pss_one (ps_ret (pv 2))))), ?_⟩)
  · obtain ⟨ks, rv, t, rfl, _⟩ := h
    rfl
  obtain ⟨ks, rv, t, rfl, hR, hOk, hd4, ht, q⟩ := h
  obtain ⟨r, us, rfl, hr', hks⟩ := id hR
  obtain ⟨k1, k4, hw⟩ := id hOk
  have hlen := hks.len
  refine ⟨_, rfl, r, rfl, ⟨_, SqT.of hr'⟩, fun D hD => ?_⟩
  refine rc_tup (fun i v H' => ∃ b, v = .ref b ∧ b ≠ D ∧ H' b = some (.lst (nV ((stepsN ks 0).getD i [])))) (fun i v H H' s ⟨b, e, n, h⟩ => ⟨b, e, n, s _ _ n h⟩) hD (SqT.of hr') (by omega) (fun _ => rfl) (fun i x H1 hx s1 ⟨acc, hacc⟩ Y hY => ?_) (fun H1 acc s1 e1 el hr1 => ?_)
  · have hi : i < ks.length := by have := (List.getElem?_eq_some_iff.mp hx).1; omega
    refine ⟨(by show 1 ≤ sizeLine; decide), fun p np => ⟨p, _, _, rfl, rfl, upd_same, by decide, by decide, (by show 1 * 4 ≤ sizeLine; decide), fun p2 np2 => ?_⟩⟩
    refine hY _ _ ((same_new np _).trans (same_new np2 _)) ⟨p2, rfl, fun e => ?_, ?_⟩
    · rw [e, upd_ne (ne_of_none hacc np), hacc] at np2
      cases np2
    · rw [upd_same, steps0_row hi]
      rfl
  have row0 : TabAt H1 (stepsN ks 0) (.ref D) := ⟨D, acc, rfl, e1, RowsAt.of (by rw [el, stepsN_len, hlen]) fun i v e => by
    obtain ⟨b, e, _, h⟩ := hr1 i v e
    exact ⟨b, e, h⟩⟩
  refine ⟨_, rfl, (t : Nat), rfl, by omega, by omega, ?_⟩
  rw [Int.toNat_natCast]
  refine for_range (n := t) (fun i σ' H' => ∃ (v : V) (o : Option V), σ' = [some (.ref r), some (.int (t : Nat)), some v, o, none, none] ∧ Same H H' ∧ TabAt H' (stepsN ks i) v) ⟨.ref D, none, rfl, s1, row0⟩ ?_ ?_
  · rintro tt σ' H2 htt ⟨nv, o, rfl, s2, hN⟩
    refine ⟨_, rfl, r, rfl, ⟨_, SqT.of (s2 _ _ hr')⟩, fun D hD => ?_⟩
    refine rc_tup (fun i v H' => ∃ b, v = .ref b ∧ b ≠ D ∧ H' b = some (.lst (nV ((stepsN ks (tt + 1)).getD i [])))) (fun i v H H' s ⟨b, e, n, h⟩ => ⟨b, e, n, s _ _ n h⟩) hD (SqT.of (s2 _ _ hr')) (by omega) (fun _ => rfl) (fun i x H3 hx s3 ⟨acc, hacc⟩ Y hY => ?_) (fun H3 acc s3 e3 el hr3 => ?_)
    · obtain ⟨hi, kx⟩ := (hks.tk (TK.of (s2.trans s3))).get hx
      have mem := getD_mem (d := Kd.void) hi
      refine ⟨4, rfl, by decide, by decide, fun D2 hD2 => ?_⟩
      refine pc_range0 (k := 4) (fun n => some (V.int (min cap (reck (stepsN ks tt) (ks.getD i .void) n) : Nat))) (by decide) hD2 (by decide) (fun _ => rfl) (fun n H4 hn s4 => turn_yes fun Y hY => ?_) (fun H4 s4 e => ?_)
      · have s34 := s3.trans s4
        refine ⟨_, _, rfl, rfl, ⟨by decide, by decide, by decide⟩, _, rfl, _, rfl, _, rfl, stepsN ks tt, ks.getD i .void, n, nv, x, rfl, hN.sm s34, by rw [stepsN_len]; exact stepsN_shaped tt, stepsN_tame tt, kx.tk (TK.of s4), by rw [stepsN_len]; exact (hw _ mem).1, by have := hd4 _ mem; omega, hd4 _ mem, by omega, fun H5 s5 => ⟨_, _, rfl, ?_⟩⟩
        rw [min_cap]
        exact hY _ s5
      · rw [fm_map] at e
        refine hY _ _ s4 ⟨D2, rfl, fun z => ?_, ?_⟩
        · rw [z, hacc] at hD2
          cases hD2
        · rw [e]
          show _ = some (HO.lst (nV ((stepN ks (stepsN ks tt)).getD i [])))
          rw [stepN_row hi]
          unfold nV
          rw [List.map_map]
          rfl
    · refine ⟨.ref D, some (.int (tt : Nat)), ?_, s2.trans s3, D, acc, rfl, e3, RowsAt.of (by rw [el, stepsN_len, hlen]) fun i v e => ?_⟩
      · rw [Int.zero_add]
        rfl
      · obtain ⟨b, e, _, h⟩ := hr3 i v e
        exact ⟨b, e, h⟩
  · rintro σ' H2 ⟨nv, o, rfl, s2, hN⟩
    exact ⟨_, rfl, q _ _ s2 hN⟩
/-! ### _law_is_so: 0:_law_rules 1:_law_lows_here 2:_law_numbers 3:_law_again 4:_law_i 5:_law_row 6:_law_rule 7:_law_n 8:_law_part -/
theorem sc_law_is_so : FnScope ["_law_rules", "_law_lows_here", "_law_numbers", "_law_again", "_law_i", "_law_row", "_law_rule", "_law_n", "_law_part"] ["_law_rules", "_law_lows_here", "_law_numbers"] (defScope KH.s_law_is_so) := ⟨rfl, rfl, rfl, by decide +kernel, rfl, by decide +kernel, by decide +kernel⟩
def dTab (N : Tab) : PyData := .list (N.map fun r => .list (r.map fun x => PyData.int (x : Nat)))
theorem RowsAt.dp {H : Hp} : ∀ {N : Tab} {vs : List V}, RowsAt H N vs → DpAll K H vs (N.map fun r => .list (r.map fun x => PyData.int (x : Nat)))
  | [], [], _ => .nil
  | r :: N, v :: vs, ⟨⟨b, e, h⟩, t⟩ => .cons (by rw [e]; exact dp_nVL h) (RowsAt.dp t)
  | [], _ :: _, h => h.elim
  | _ :: _, [], h => h.elim
theorem TabAt.dp {H : Hp} {N : Tab} {v : V} (h : TabAt H N v) : Dp K H v (dTab N) := by
  obtain ⟨a, vs, rfl, h1, h2⟩ := h
  exact .lst (SqL.of h1) h2.dp
theorem shaped_dTab (N : Tab) : SeqAt.shaped (dTab N) = true := by
  have h : ∀ L : List Nat, PyData.canLayAll0 (L.map fun x => PyData.int (x : Nat)) = true ∧ PyData.depthAll (L.map fun x => PyData.int (x : Nat)) = 0 := fun L => by
    induction L with
    | nil => exact ⟨by simp [PyData.canLayAll0], by simp [PyData.depthAll]⟩
    | cons x L ih => exact ⟨by simp [PyData.canLayAll0, PyData.canLay0, ih.1], by simp [PyData.depthAll, PyData.depth, ih.2]⟩
  have g : ∀ M : Tab, PyData.canLayAll0 (M.map fun r => .list (r.map fun x => PyData.int (x : Nat))) = true ∧ PyData.depthAll (M.map fun r => .list (r.map fun x => PyData.int (x : Nat))) ≤ 1 := fun M => by
    induction M with
    | nil => exact ⟨by simp [PyData.canLayAll0], by simp [PyData.depthAll]⟩
    | cons x M ih =>
      refine ⟨by simp [PyData.canLayAll0, PyData.canLay0, (h x).1, ih.1], ?_⟩
      simp only [List.map_cons, PyData.depthAll, PyData.depth, (h x).2]
      omega
  unfold SeqAt.shaped dTab
  rw [Bool.and_eq_true]
  refine ⟨by simp only [PyData.canLay0]; exact (g N).1, ?_⟩
  rw [decide_eq_true_eq]
  have := (g N).2
  simp only [PyData.depth]
  omega
theorem eqv_dTab (N : Tab) : PyData.eqv (dTab N) (dTab N) = true := by
  have g : ∀ M : Tab, PyData.eqvAll (M.map fun r => .list (r.map fun x => PyData.int (x : Nat))) (M.map fun r => .list (r.map fun x => PyData.int (x : Nat))) = true := fun M => by
    induction M with
    | nil => simp [PyData.eqvAll]
    | cons x M ih =>
      simp only [List.map_cons, PyData.eqvAll, PyData.eqv, ih, Bool.and_true]
      rw [eqv_nV]
      exact decide_eq_true rfl
  unfold dTab
  simp only [PyData.eqv]
  exact g N
theorem fm_none {α : Type} (n : Nat) : (List.range n).filterMap (fun _ => (none : Option α)) = [] := by
  rw [List.filterMap_eq_nil_iff]
  exact fun _ _ => rfl
def sp_law_is_so : Sp := fun vs H Q _ => ∃ (ks : List Kd) (rv nv : V) (a : Addr) (ls rs : List Int), vs = [rv, .ref a, nv] ∧ RAt H ks rv ∧ RulesOk ks ∧ (∀ k ∈ ks, dep k ≤ 4) ∧ lets ks ls rs = true ∧ H a = some (.tup (ls.map V.int)) ∧ TabAt H (stepsN ks (4 * ks.length + 1)) nv ∧ ∀ H', Same H H' → Q (.bl true) H'
theorem ok_law_is_so (T : Txt w K mg) (F_law_reckon : Prm P w K mg base CX0 7 "_law_reckon" ["_law_numbers", "_law_kind", "_law_n"] (sp_law_reckon 5)) (F_law_insides : Prm P w K mg base CX0 7 "_law_insides" ["_law_kind"] (sp_law_insides 6)) :
    Prm P w K mg base CX0 8 "_law_is_so" ["_law_rules", "_law_lows_here", "_law_numbers"] sp_law_is_so := by
  refine T.d_law_is_so.ok sc_law_is_so (fun vs H Q E h => ?_) (fun f cdv A outer s H vs Q E hr h => ⟨_, (pss_cons (ps_setLc (i := 3) (own := [("_law_rule", 6)]) (g := gName 6) (by rfl) sc_law_is_so.nd rfl rfl (sw_true rfl rfl rfl (by decide +kernel)) (piT K (hl := (pv 0))) (blkOk_by (by kernel_rfl)) (fun _ _ _ _ _ => pg_name (i := 6) sc_law_is_so.nd rfl (Or.inr rfl)) (fun _ _ _ _ _ => pts_nil) (fun _ _ _ _ _ => (pe_lc (own := [("_law_n", 7)]) (g := gName 7) (by rfl) sc_law_is_so.nd (pi_range1 (by rfl) T.z_range (pa_cons pe_int pa_nil)) (blkOk_by (by kernel_rfl)) (fun _ _ _ _ _ => pg_name (i := 7) sc_law_is_so.nd rfl (Or.inl rfl)) (fun _ _ _ _ _ => pts_nil) (fun _ _ _ _ _ => (pe_callB (call_min2 rfl) (by rfl) T.z_min (by decide +kernel) (pa_cons (pe_op op_pow pe_int pe_int) (pa_cons (pcl F_law_reckon (hr.mono (by omega)) (pa_cons (pv 2) (pa_cons (pv 6) (pa_cons (pv 7) pa_nil)))) pa_nil)))))))
      (pss_cons (ps_if (pt_cmpR (neD K (hu := hr.units)) (pv 3) (pv 2) (by rfl)) (pss_one (ps_ret pe_bl)) pss_nil)
      (pss_cons (ps_for PassesOwn.never rfl (pi_range1 (by rfl) T.z_range (pa_cons (pe_callB (lenC K) (by rfl) T.z_len (by decide +kernel) (pa_cons (pv 0) pa_nil)) pa_nil)) (pg_name (i := 4) sc_law_is_so.nd rfl (Or.inr rfl)) (pss_cons (ps_set (i := 5) sc_law_is_so.nd rfl (.inr rfl) (pe_ix (ixL K) (pv 2) (pv 4) (fun _ _ => rfl)))
      (pss_cons (ps_if (pt_cmpR (neD K (hu := hr.units)) (pe_lc (own := [("_law_n", 7)]) (g := gName 7) (by rfl) sc_law_is_so.nd (pi_range1 (by rfl) T.z_range (pa_cons pe_int pa_nil)) (blkOk_by (by kernel_rfl)) (fun _ _ _ _ _ => pg_name (i := 7) sc_law_is_so.nd rfl (Or.inl rfl)) (fun _ _ _ _ _ => (pts_one (pt_mid (PW.pt (pw_and (pt_cmpR op_lt (pv 7) (pe_ix (ixT K) (pv 1) (pv 4) (fun _ _ => rfl)) (by rfl)) (pw_and1 (pt_cmpR op_gt (pe_ix (ixL K) (pv 5) (pv 7) (fun _ _ => rfl)) pe_int (by rfl)))))))) (fun _ _ _ _ _ => (pv 7))) (pe_lst pa_nil) (by rfl)) (pss_one (ps_ret pe_bl)) pss_nil)
      (pss_one (ps_if (pt_cmpR (neD K (hu := hr.units)) (pe_lc (own := [("_law_part", 8)]) (g := gName 8) (by rfl) sc_law_is_so.nd (piL K (hl := (pcl F_law_insides (hr.mono (by omega)) (pa_cons (pe_ix (ixT K) (pv 0) (pv 4) (fun _ _ => rfl)) pa_nil)))) (blkOk_by (by kernel_rfl)) (fun _ _ _ _ _ => pg_name (i := 8) sc_law_is_so.nd rfl (Or.inl rfl)) (fun _ _ _ _ _ => (pts_one (pt_cmpR op_gt (pcl F_law_reckon (hr.mono (by omega)) (pa_cons (pv 2) (pa_cons (pv 8) (pa_cons pe_int pa_nil)))) pe_int (by rfl)))) (fun _ _ _ _ _ => (pv 8))) (pe_lst pa_nil) (by rfl)) (pss_one (ps_ret pe_bl)) pss_nil)))))
      (pss_one (ps_ret pe_bl))))), ?_⟩)
  · obtain ⟨ks, rv, nv, a, ls, rs, rfl, _⟩ := h
    rfl
  obtain ⟨ks, rv, nv, a, ls, rs, rfl, hR, hOk, hd4, hlets, ha, hN, q⟩ := h
  obtain ⟨r, us, rfl, hr', hks⟩ := id hR
  obtain ⟨k1, k4, hw⟩ := id hOk
  have hW := wfs_of hOk
  have hlen := hks.len
  have pap := lets_out hlets
  have ends := pap.ends hW
  have obey := stepsN_obeys pap hW (4 * ks.length + 1)
  have ins := fun {i : Nat} (hi : i < ks.length) {y : Kd} (hy : y ∈ insides (ks.getD i .void)) => pap.inside hW hi hy (4 * ks.length + 1)
  have hS := stepsN_shaped (rules := ks) (4 * ks.length + 1)
  have hT := stepsN_tame (rules := ks) (4 * ks.length + 1)
  have hL := stepsN_len (rules := ks) (4 * ks.length + 1)
  have lenls : ls.length = ks.length := by
    have z := hlets
    unfold lets shapeOk at z
    rw [Bool.and_eq_true, Bool.and_eq_true] at z
    exact rowOk_len z.1.1
  generalize stepsN ks (4 * ks.length + 1) = N at *
  refine ⟨_, rfl, r, rfl, ⟨_, SqT.of hr'⟩, fun D hD => ?_⟩
  refine rc_tup (fun i v H' => ∃ b, v = .ref b ∧ b ≠ D ∧ H' b = some (.lst (nV (N.getD i [])))) (fun i v H H' s ⟨b, e, n, h⟩ => ⟨b, e, n, s _ _ n h⟩) hD (SqT.of hr') (by omega) (fun _ => rfl) (fun i x H3 hx s3 ⟨acc, hacc⟩ Y hY => ?_) (fun H1 acc s1 e1 el hr3 => ?_)
  · obtain ⟨hi, kx⟩ := (hks.tk (TK.of s3)).get hx
    have mem := getD_mem (d := Kd.void) hi
    refine ⟨4, rfl, by decide, by decide, fun D2 hD2 => ?_⟩
    refine pc_range0 (k := 4) (fun n => some (V.int (min cap (reck N (ks.getD i .void) n) : Nat))) (by decide) hD2 (by decide) (fun _ => rfl) (fun n H4 hn s4 => turn_yes fun Y hY => ?_) (fun H4 s4 e => ?_)
    · have s34 := s3.trans s4
      refine ⟨_, _, rfl, rfl, ⟨by decide, by decide, by decide⟩, _, rfl, _, rfl, _, rfl, N, ks.getD i .void, n, nv, x, rfl, hN.sm s34, by rw [hL]; exact hS, hT, kx.tk (TK.of s4), by rw [hL]; exact (hw _ mem).1, by have := hd4 _ mem; omega, hd4 _ mem, by omega, fun H5 s5 => ⟨_, _, rfl, ?_⟩⟩
      rw [min_cap]
      exact hY _ s5
    · rw [fm_map] at e
      refine hY _ _ s4 ⟨D2, rfl, fun z => ?_, ?_⟩
      · rw [z, hacc] at hD2
        cases hD2
      · rw [e, ← ends, stepN_row hi]
        unfold nV
        rw [List.map_map]
        rw [ends]
        rfl
  have again : TabAt H1 N (.ref D) := ⟨D, acc, rfl, e1, RowsAt.of (by rw [el, hL, hlen]) fun i v e => by
    obtain ⟨b, e, _, h⟩ := hr3 i v e
    exact ⟨b, e, h⟩⟩
  refine ⟨_, rfl, _, rfl, _, _, again.dp, (hN.sm s1).dp, shaped_dTab N, shaped_dTab N, _, rfl, ?_⟩
  rw [eqv_dTab]
  show (if false = true then _ else _)
  refine iteF ?_
  refine ⟨_, rfl, r, us, rfl, .inr (SqT.of (s1 _ _ hr')), (us.length : Nat), rfl, by omega, by omega, ?_⟩
  rw [Int.toNat_natCast, hlen]
  refine for_range (n := ks.length) (fun i σ' H' => ∃ o1 o2 : Option V, σ' = [some (.ref r), some (.ref a), some nv, some (.ref D), o1, o2, none, none, none] ∧ Same H H') ⟨none, none, rfl, s1⟩ ?_ ?_
  · rintro i σ' H2 hi ⟨o1, o2, rfl, s2⟩
    rw [Int.zero_add]
    obtain ⟨an, rs, rfl, hnv, hrows⟩ := hN.sm s2
    obtain ⟨b, hb, eb⟩ := hrows.at (i := i) (by rw [hL]; exact hi)
    have r4 := hS.2 _ (getD_mem (d := ([] : List Nat)) (i := i) (by rw [hL]; exact hi))
    have ob := obey i
    refine ⟨_, rfl, _, rfl, an, _, _, _, rfl, rfl, SqL.of hnv, atI_nat hb, ?_⟩
    refine ⟨4, rfl, by decide, by decide, fun D1 hD1 => ?_⟩
    refine pc_range0 (k := 4) (fun n => none) (by decide) hD1 (by decide) (fun _ => rfl) (fun n H3 hn s3 Y N' hY hN' => ?_) (fun H3 s3 e => ?_)
    · have s23 := s2.trans s3
      refine ⟨fun c H' => c = false ∧ H' = H3, ?_, ?_⟩
      · refine ⟨_, rfl, _, rfl, _, rfl, a, _, _, _, rfl, rfl, SqT.of (s23 _ _ ha), int_at (by omega), _, _, rfl, rfl, _, rfl, ite2 (fun c => ?_) (fun _ => ⟨rfl, rfl⟩)⟩
        have c' : ((n : Nat) : Int) < ls.getD i 0 := of_decide_eq_true c
        have z := ob n (by omega) (by rw [nats_getD]; omega)
        unfold cell at z
        refine ⟨_, rfl, _, rfl, b, _, _, _, rfl, rfl, SqL.of (s3 _ _ eb), nV_at (by omega), _, _, rfl, rfl, _, rfl, ?_, rfl⟩
        rw [z]
        rfl
      · rintro c H' ⟨rfl, rfl⟩
        exact iteF (hN' _ rfl (Same.refl _))
    rw [fm_none] at e
    refine ⟨Nat.zero_le _, fun e0 ne => ⟨.list [], .list [], .lst (SqL.of ((same_new ne _) _ _ e)) .nil, .lst (SqL.of upd_same) .nil, shapedNil, shapedNil, _, rfl, ?_⟩⟩
    rw [eqvNil]
    show (if false = true then _ else _)
    refine iteF ?_
    have s4 := s3.trans (same_new ne (.lst []))
    have s24 := s2.trans s4
    obtain ⟨v, hv, kv⟩ := hks.at hi
    obtain ⟨wk, dk⟩ := hw _ (getD_mem (d := Kd.void) hi)
    have dk4 := hd4 _ (getD_mem (d := Kd.void) hi)
    refine ⟨_, rfl, _, rfl, r, _, _, _, rfl, rfl, SqT.of (s24 _ _ hr'), atI_nat hv, ks.getD i .void, v, rfl, kv.tk (TK.of s24), by omega, dk, fun H5 p gs s5 e5 k5 => ⟨p, rfl, ⟨_, SqL.of e5⟩, fun D3 hD3 => ?_⟩⟩
    have f1 := insides_few dk
    have glen := k5.len
    refine pc_list (fun _ => none) hD3 (SqL.of e5) (by omega) (fun _ => rfl) (fun j y H6 hy s6 Y N' hY hN' => ?_) (fun H6 s6 e => ?_)
    · obtain ⟨hj, ky⟩ := (k5.tk (TK.of s6)).get hy
      have memj := getD_mem (d := Kd.void) hj
      have s46 := s24.trans (s5.trans s6)
      have z := ins hi memj
      refine ⟨_, rfl, _, rfl, N, _, 0, _, y, rfl, hN.sm s46, by rw [hL]; exact hS, hT, ky, by rw [hL]; exact insides_wf wk _ memj, by have := insides_dep _ memj; omega, by have := insides_dep _ memj; omega, by omega, fun H7 s7 => ⟨_, _, rfl, rfl, _, rfl, ?_⟩⟩
      rw [z]
      show (if false = true then _ else _)
      exact iteF (hN' _ rfl s7)
    · rw [fm_none] at e
      refine ⟨Nat.zero_le _, fun e0 ne => ⟨.list [], .list [], .lst (SqL.of ((same_new ne _) _ _ e)) .nil, .lst (SqL.of upd_same) .nil, shapedNil, shapedNil, _, rfl, ?_⟩⟩
      rw [eqvNil]
      show (if false = true then _ else _)
      exact iteF ⟨_, _, rfl, s24.trans (s5.trans (s6.trans (same_new ne (.lst []))))⟩
  · rintro σ' H2 ⟨o1, o2, rfl, s2⟩
    exact q _ s2
end
end KB
/-! # Walks 12: kinds from the tape -/
namespace KB
open PySem PySem.Spec PyProof.Rows L2 KM
def wb (d : Nat) : Nat := 4 * 3 ^ d
theorem wb_pos (d : Nat) : 4 ≤ wb d := by
  unfold wb
  have : 1 ≤ 3 ^ d := Nat.pow_pos (by decide)
  omega
theorem wb_succ (d : Nat) : wb (d + 1) = 3 * wb d := by
  unfold wb
  rw [Nat.pow_succ]
  omega
def plain7 : List Kd := [.one, .set, .row, .round, .unit, .void, .one]
def plain5 : List Kd := [.one, .set, .row, .round, .unit]
theorem fdiv_lt {a b : Nat} {k : Int} (hk : k = ((b : Nat) : Int)) (hb : 0 < b) : ((a : Nat) : Int).fdiv k = ((a / b : Nat) : Int) := by
  rw [hk, Int.fdiv_eq_ediv_of_nonneg _ (by omega)]
  rfl
section
variable {P : Program} {w : World} {K : PySem.W.Frag} {mg : Str → Option Value} {base : Heap}
/-! ### _law_wild: 0:_law_tape_here 1:_law_many 2:_law_deep 3:_law_plain 4:_law_at 5:_law_way 6:_law_first 7:_law_low_here -/
theorem sc_law_wild : FnScope ["_law_tape_here", "_law_many", "_law_deep", "_law_plain", "_law_at", "_law_way", "_law_first", "_law_low_here"] ["_law_tape_here", "_law_many", "_law_deep"] (defScope KH.s_law_wild) := ⟨rfl, rfl, rfl, by decide +kernel, rfl, by decide +kernel, by decide +kernel⟩
def sp_law_wild (d : Nat) : Sp := fun vs H Q _ => ∃ (t l : Addr) (m c : Nat), vs = [.ref t, .int (m : Nat), .int (d : Nat)] ∧ 1 ≤ m ∧ m ≤ 4 ∧ TapeAt H t l c ∧ c + wb d ≤ 1000000 ∧ d ≤ 8 ∧
  ∀ (H' : Hp) (v : V) (k : Kd), SB t H H' → TapeAt H' t l (c + wb d) → KAt H' k v → wf m k → dep k ≤ d → Q v H'
def sp_law_wild' (n : Nat) : Sp := fun vs H Q E => ∃ d, d < n ∧ sp_law_wild d vs H Q E
theorem ok_law_wild (T : Txt w K mg) (F_law_next : Prm P w K mg base CX0 1 "_law_next" ["_law_tape_here", "_law_many"] sp_next) :
    ∀ n, Prm P w K mg base CX0 (n + 1) "_law_wild" ["_law_tape_here", "_law_many", "_law_deep"] (sp_law_wild' n)
  | 0 => T.d_law_wild.never fun vs H Q E h => by
    obtain ⟨d, h, _⟩ := h
    omega
  | n + 1 => by
    have F_law_wild := ok_law_wild T F_law_next n
    refine T.d_law_wild.ok sc_law_wild (fun vs H Q E h => ?_) (fun f cdv A outer s H vs Q E hr h => ⟨_, (pss_cons (ps_if (pt_mid (PW.pt (pw_or (pt_cmpR op_eq (pv 2) pe_int (by rfl)) (pw_or1 (pt_cmpR op_eq (pcl F_law_next (hr.mono (by omega)) (pa_cons (pv 0) (pa_cons pe_int pa_nil))) pe_int (by rfl)))))) (pss_cons (ps_set (i := 3) sc_law_wild.nd rfl (.inl rfl) (pe_mid (pe_lst (pa_cons (pe_tup (pa_cons pe_str pa_nil)) (pa_cons (pe_tup (pa_cons pe_str pa_nil)) (pa_cons (pe_tup (pa_cons pe_str pa_nil)) (pa_cons (pe_tup (pa_cons pe_str pa_nil)) (pa_cons (pe_tup (pa_cons pe_str pa_nil)) (pa_cons (pe_tup (pa_cons pe_str pa_nil)) (pa_cons (pe_tup (pa_cons pe_str pa_nil)) pa_nil))))))))))
      (pss_cons (ps_set (i := 4) sc_law_wild.nd rfl (.inl rfl) (pcl F_law_next (hr.mono (by omega)) (pa_cons (pv 0) (pa_cons (pe_op op_add pe_int (pe_op op_mul pe_int (pv 1))) pa_nil))))
      (pss_one (ps_ret (pe_ifExp (pt_cmpR op_lt (pv 4) pe_int (by rfl)) (pe_ix (ixL K) (pv 3) (pv 4) (fun _ _ => rfl)) (pe_tup (pa_cons pe_str (pa_cons (pe_op op_fdivN (pe_op op_sub (pv 4) pe_int) pe_int) pa_nil)))))))) pss_nil)
      (pss_cons (ps_set (i := 5) sc_law_wild.nd rfl (.inl rfl) (pcl F_law_next (hr.mono (by omega)) (pa_cons (pv 0) (pa_cons pe_int pa_nil))))
      (pss_cons (ps_if (pt_cmpR op_eq (pv 5) pe_int (by rfl)) (pss_one (ps_ret (pe_tup (pa_cons pe_str (pa_cons (pe_ix (ixL K) (pe_mid (pe_lst (pa_cons (pe_tup (pa_cons pe_str pa_nil)) (pa_cons (pe_tup (pa_cons pe_str pa_nil)) (pa_cons (pe_tup (pa_cons pe_str pa_nil)) (pa_cons (pe_tup (pa_cons pe_str pa_nil)) (pa_cons (pe_tup (pa_cons pe_str pa_nil)) pa_nil))))))) (pcl F_law_next (hr.mono (by omega)) (pa_cons (pv 0) (pa_cons pe_int pa_nil))) (fun _ _ => rfl)) pa_nil))))) pss_nil)
      (pss_cons (ps_set (i := 6) sc_law_wild.nd rfl (.inl rfl) (pcl F_law_wild (hr.mono (by omega)) (pa_cons (pv 0) (pa_cons (pv 1) (pa_cons (pe_op op_sub (pv 2) pe_int) pa_nil)))))
      (pss_cons (ps_if (pt_cmpR op_eq (pv 5) pe_int (by rfl)) (pss_one (ps_ret (pe_tup (pa_cons pe_str (pa_cons (pv 6) pa_nil))))) pss_nil)
      (pss_cons (ps_if (pt_cmpR op_eq (pv 5) pe_int (by rfl)) (pss_cons (ps_set (i := 7) sc_law_wild.nd rfl (.inl rfl) (pcl F_law_next (hr.mono (by omega)) (pa_cons (pv 0) (pa_cons pe_int pa_nil))))
      (pss_one (ps_ret (pe_tup (pa_cons pe_str (pa_cons (pv 6) (pa_cons (pv 7) (pa_cons (pe_op op_add (pv 7) (pe_ix (ixL K) (pe_lst (pa_cons pe_int (pa_cons pe_int (pa_cons pe_int pa_nil)))) (pcl F_law_next (hr.mono (by omega)) (pa_cons (pv 0) (pa_cons pe_int pa_nil))) (fun _ _ => rfl))) pa_nil)))))))) pss_nil)
      (pss_one (ps_ret (pe_tup (pa_cons (pe_ix (ixL K) (pe_lst (pa_cons pe_str (pa_cons pe_str (pa_cons pe_str pa_nil)))) (pe_op op_modN (pe_op op_fdivN (pv 5) pe_int) pe_int) (fun _ _ => rfl)) (pa_cons (pv 6) (pa_cons (pcl F_law_wild (hr.mono (by omega)) (pa_cons (pv 0) (pa_cons (pv 1) (pa_cons (pe_op op_sub (pv 2) pe_int) pa_nil)))) pa_nil)))))))))))), ?_⟩)
    · obtain ⟨d, hd, t, l, m, c, rfl, _⟩ := h
      rfl
    obtain ⟨d, hdn, t, l, m, c, rfl, m1, m4, hT, hc, d8, q⟩ := h
    have w4 := wb_pos d
    refine ⟨fun b H' => SB t H H' ∧ TapeAt H' t l (c + 1) ∧ (b = false → 1 ≤ d), ?_, ?_⟩
    · refine ⟨_, rfl, rfl, _, rfl, ite2 (fun e => ?_) (fun e => ?_)⟩
      · exact ⟨SB.refl _ _, hT.le (by omega), fun z => by cases z⟩
      · rw [intEq, decide_eq_true_eq] at e
        refine ⟨_, rfl, t, l, 4, c, rfl, by omega, by omega, hT, by omega, fun x H1 hx s1 T1 => ⟨rfl, _, rfl, ?_⟩⟩
        exact ⟨s1, T1, fun _ => by omega⟩
    rintro b H1 ⟨s1, hT1, hb⟩
    refine ite2 (fun e => ?_) (fun e => ?_)
    · refine ⟨fun v H' => ∃ p vs, v = .ref p ∧ p ≠ t ∧ Same H1 H' ∧ H' p = some (.lst vs) ∧ KsAt H' plain7 vs, ?_, ?_⟩
      · clear q
        refine ⟨(by show 1 ≤ sizeLine; decide), fun w0 nw0 => ?_⟩
        have gw0 := same_new nw0 (.tup [.str "one"])
        have ew0 : upd H1 w0 (.tup [.str "one"]) w0 = some (.tup [.str "one"]) := upd_same
        generalize upd H1 w0 (.tup [.str "one"]) = G0 at *
        refine ⟨(by show 1 ≤ sizeLine; decide), fun w1 nw1 => ?_⟩
        have gw1 := same_new nw1 (.tup [.str "set"])
        have ew1 : upd G0 w1 (.tup [.str "set"]) w1 = some (.tup [.str "set"]) := upd_same
        generalize upd G0 w1 (.tup [.str "set"]) = G1 at *
        refine ⟨(by show 1 ≤ sizeLine; decide), fun w2 nw2 => ?_⟩
        have gw2 := same_new nw2 (.tup [.str "row"])
        have ew2 : upd G1 w2 (.tup [.str "row"]) w2 = some (.tup [.str "row"]) := upd_same
        generalize upd G1 w2 (.tup [.str "row"]) = G2 at *
        refine ⟨(by show 1 ≤ sizeLine; decide), fun w3 nw3 => ?_⟩
        have gw3 := same_new nw3 (.tup [.str "round"])
        have ew3 : upd G2 w3 (.tup [.str "round"]) w3 = some (.tup [.str "round"]) := upd_same
        generalize upd G2 w3 (.tup [.str "round"]) = G3 at *
        refine ⟨(by show 1 ≤ sizeLine; decide), fun w4 nw4 => ?_⟩
        have gw4 := same_new nw4 (.tup [.str "unit"])
        have ew4 : upd G3 w4 (.tup [.str "unit"]) w4 = some (.tup [.str "unit"]) := upd_same
        generalize upd G3 w4 (.tup [.str "unit"]) = G4 at *
        refine ⟨(by show 1 ≤ sizeLine; decide), fun w5 nw5 => ?_⟩
        have gw5 := same_new nw5 (.tup [.str "void"])
        have ew5 : upd G4 w5 (.tup [.str "void"]) w5 = some (.tup [.str "void"]) := upd_same
        generalize upd G4 w5 (.tup [.str "void"]) = G5 at *
        refine ⟨(by show 1 ≤ sizeLine; decide), fun w6 nw6 => ?_⟩
        have gw6 := same_new nw6 (.tup [.str "one"])
        have ew6 : upd G5 w6 (.tup [.str "one"]) w6 = some (.tup [.str "one"]) := upd_same
        generalize upd G5 w6 (.tup [.str "one"]) = G6 at *
        refine ⟨(by show 7 ≤ sizeLine; decide), fun wl nwl => ?_⟩
        have gwl := same_new nwl (.lst [.ref w0, .ref w1, .ref w2, .ref w3, .ref w4, .ref w5, .ref w6])
        have ewl : upd G6 wl (.lst [.ref w0, .ref w1, .ref w2, .ref w3, .ref w4, .ref w5, .ref w6]) wl = some (.lst [.ref w0, .ref w1, .ref w2, .ref w3, .ref w4, .ref w5, .ref w6]) := upd_same
        generalize upd G6 wl (.lst [.ref w0, .ref w1, .ref w2, .ref w3, .ref w4, .ref w5, .ref w6]) = G7 at *
        have qw0 := (gw1.trans (gw2.trans (gw3.trans (gw4.trans (gw5.trans (gw6.trans (gwl))))))) _ _ ew0
        have qw1 := (gw2.trans (gw3.trans (gw4.trans (gw5.trans (gw6.trans (gwl)))))) _ _ ew1
        have qw2 := (gw3.trans (gw4.trans (gw5.trans (gw6.trans (gwl))))) _ _ ew2
        have qw3 := (gw4.trans (gw5.trans (gw6.trans (gwl)))) _ _ ew3
        have qw4 := (gw5.trans (gw6.trans (gwl))) _ _ ew4
        have qw5 := (gw6.trans (gwl)) _ _ ew5
        have qw6 := (gwl) _ _ ew6
        have qwl := (Same.refl _) _ _ ewl
        have sAll := gw0.trans (gw1.trans (gw2.trans (gw3.trans (gw4.trans (gw5.trans (gw6.trans (gwl)))))))
        exact ⟨wl, _, rfl, (hT1.ne ((gw0.trans (gw1.trans (gw2.trans (gw3.trans (gw4.trans (gw5.trans (gw6))))))).free nwl)).1, sAll, qwl, ⟨_, rfl, qw0⟩, ⟨_, rfl, qw1⟩, ⟨_, rfl, qw2⟩, ⟨_, rfl, qw3⟩, ⟨_, rfl, qw4⟩, ⟨_, rfl, qw5⟩, ⟨_, rfl, qw6⟩, trivial⟩
      rintro v H2 ⟨p, vs, rfl, np, s2, e2, k2⟩
      refine ⟨_, rfl, _, rfl, _, _, rfl, rfl, .inl ⟨by decide, by decide⟩, _, _, rfl, rfl, t, l, 7 + 3 * (m : Nat), c + 1, rfl, by omega, by omega, hT1.sm s2, by omega, fun x H3 hx s3 T3 => ?_⟩
      have s13 := s1.trans ((SB.of s2).trans s3)
      refine ⟨_, rfl, _, _, rfl, rfl, _, rfl, ite2 (fun g => ?_) (fun g => ?_)⟩
      · have g' : ((x : Nat) : Int) < 7 := of_decide_eq_true g
        obtain ⟨v, hv, kv⟩ := k2.at (i := x) (show x < 7 by omega)
        have ok : ∀ k ∈ plain7, wf m k ∧ dep k = 0 := by
          intro k hk
          simp only [plain7, List.mem_cons, List.not_mem_nil, or_false] at hk
          rcases hk with rfl | rfl | rfl | rfl | rfl | rfl | rfl <;> exact ⟨trivial, rfl⟩
        obtain ⟨o1, o2⟩ := ok _ (getD_mem (d := Kd.void) (show x < plain7.length by show x < 7; omega))
        exact ⟨_, rfl, _, rfl, p, _, _, _, rfl, rfl, SqL.of (s3 _ _ np e2), atI_nat hv, q H3 v _ s13 (T3.le (by omega)) (kv.tk (hT1.sm s2 |>.tk s3)) o1 (by omega)⟩
      · have g' : ¬ ((x : Nat) : Int) < 7 := of_decide_eq_false (Bool.eq_false_iff.mpr g)
        have ez : (((x : Nat) : Int) - 7).fdiv 3 = (((x - 7) / 3 : Nat) : Int) := by
          rw [show ((x : Nat) : Int) - 7 = ((x - 7 : Nat) : Int) by omega]
          exact fdiv_lt rfl (by decide)
        refine ⟨_, rfl, _, _, rfl, rfl, _, _, rfl, rfl, ⟨by decide, by decide⟩, (by show 2 ≤ sizeLine; decide), fun p np => ?_⟩
        refine q _ _ (.rule ((x - 7) / 3)) (s13.trans (SB.new np)) (((T3.le (by omega)).sm (same_new np _))) ⟨p, rfl, ?_⟩ (by show (x - 7) / 3 < m; omega) (Nat.zero_le _)
        rw [upd_same, ← ez]
    have d1 := hb (Bool.eq_false_iff.mpr e)
    obtain ⟨d, rfl⟩ : ∃ d', d = d' + 1 := ⟨d - 1, by omega⟩
    have wd := wb_succ d
    have w4 := wb_pos d
    refine ⟨_, rfl, t, l, 9, c + 1, rfl, by omega, by omega, hT1, by omega, fun x H2 hx s2 T2 => ?_⟩
    have s12 := s1.trans s2
    refine ⟨_, rfl, rfl, _, rfl, ite2 (fun e => ?_) (fun e => ?_)⟩
    · refine ⟨fun v H' => ∃ p vs, v = .ref p ∧ p ≠ t ∧ Same H2 H' ∧ H' p = some (.lst vs) ∧ KsAt H' plain5 vs, ?_, ?_⟩
      · clear q
        have hT1 := T2
        refine ⟨(by show 1 ≤ sizeLine; decide), fun w0 nw0 => ?_⟩
        have gw0 := same_new nw0 (.tup [.str "one"])
        have ew0 : upd H2 w0 (.tup [.str "one"]) w0 = some (.tup [.str "one"]) := upd_same
        generalize upd H2 w0 (.tup [.str "one"]) = G0 at *
        refine ⟨(by show 1 ≤ sizeLine; decide), fun w1 nw1 => ?_⟩
        have gw1 := same_new nw1 (.tup [.str "set"])
        have ew1 : upd G0 w1 (.tup [.str "set"]) w1 = some (.tup [.str "set"]) := upd_same
        generalize upd G0 w1 (.tup [.str "set"]) = G1 at *
        refine ⟨(by show 1 ≤ sizeLine; decide), fun w2 nw2 => ?_⟩
        have gw2 := same_new nw2 (.tup [.str "row"])
        have ew2 : upd G1 w2 (.tup [.str "row"]) w2 = some (.tup [.str "row"]) := upd_same
        generalize upd G1 w2 (.tup [.str "row"]) = G2 at *
        refine ⟨(by show 1 ≤ sizeLine; decide), fun w3 nw3 => ?_⟩
        have gw3 := same_new nw3 (.tup [.str "round"])
        have ew3 : upd G2 w3 (.tup [.str "round"]) w3 = some (.tup [.str "round"]) := upd_same
        generalize upd G2 w3 (.tup [.str "round"]) = G3 at *
        refine ⟨(by show 1 ≤ sizeLine; decide), fun w4 nw4 => ?_⟩
        have gw4 := same_new nw4 (.tup [.str "unit"])
        have ew4 : upd G3 w4 (.tup [.str "unit"]) w4 = some (.tup [.str "unit"]) := upd_same
        generalize upd G3 w4 (.tup [.str "unit"]) = G4 at *
        refine ⟨(by show 5 ≤ sizeLine; decide), fun wl nwl => ?_⟩
        have gwl := same_new nwl (.lst [.ref w0, .ref w1, .ref w2, .ref w3, .ref w4])
        have ewl : upd G4 wl (.lst [.ref w0, .ref w1, .ref w2, .ref w3, .ref w4]) wl = some (.lst [.ref w0, .ref w1, .ref w2, .ref w3, .ref w4]) := upd_same
        generalize upd G4 wl (.lst [.ref w0, .ref w1, .ref w2, .ref w3, .ref w4]) = G5 at *
        have qw0 := (gw1.trans (gw2.trans (gw3.trans (gw4.trans (gwl))))) _ _ ew0
        have qw1 := (gw2.trans (gw3.trans (gw4.trans (gwl)))) _ _ ew1
        have qw2 := (gw3.trans (gw4.trans (gwl))) _ _ ew2
        have qw3 := (gw4.trans (gwl)) _ _ ew3
        have qw4 := (gwl) _ _ ew4
        have qwl := (Same.refl _) _ _ ewl
        have sAll := gw0.trans (gw1.trans (gw2.trans (gw3.trans (gw4.trans (gwl)))))
        exact ⟨wl, _, rfl, (hT1.ne ((gw0.trans (gw1.trans (gw2.trans (gw3.trans (gw4))))).free nwl)).1, sAll, qwl, ⟨_, rfl, qw0⟩, ⟨_, rfl, qw1⟩, ⟨_, rfl, qw2⟩, ⟨_, rfl, qw3⟩, ⟨_, rfl, qw4⟩, trivial⟩
      rintro v H3 ⟨p, vs, rfl, np, s3, e3, k3⟩
      refine ⟨_, rfl, t, l, 5, c + 1 + 1, rfl, by omega, by omega, T2.sm s3, by omega, fun y H4 hy s4 T4 => ?_⟩
      obtain ⟨v, hv, kv⟩ := k3.at (i := y) (show y < 5 by omega)
      have ok : ∀ k ∈ plain5, plainK k = true ∧ dep k = 0 := by
        intro k hk
        simp only [plain5, List.mem_cons, List.not_mem_nil, or_false] at hk
        rcases hk with rfl | rfl | rfl | rfl | rfl <;> exact ⟨rfl, rfl⟩
      obtain ⟨o1, o2⟩ := ok _ (getD_mem (d := Kd.void) (show y < plain5.length by show y < 5; omega))
      refine ⟨p, _, _, _, rfl, rfl, SqL.of (s4 _ _ np e3), atI_nat hv, (by show 2 ≤ sizeLine; decide), fun p2 np2 => ?_⟩
      refine q _ _ (.hole (plain5.getD y .void)) (s12.trans ((SB.of s3).trans (s4.trans (SB.new np2)))) ((T4.le (by omega)).sm (same_new np2 _)) ⟨p2, v, rfl, upd_same, ?_⟩ o1 (by simp only [dep]; omega)
      exact kv.tk (((T2.sm s3).tk s4).trans (TK.new np2))
    refine ⟨_, rfl, _, rfl, _, rfl, _, _, rfl, rfl, d, by omega, t, l, m, c + 1 + 1, (show [V.ref t, V.int (m : Nat), V.int (((d + 1 : Nat) : Int) - 1)] = _ by rw [show ((d + 1 : Nat) : Int) - 1 = ((d : Nat) : Int) by omega]), m1, m4, T2, by omega, by omega, fun H3 v k s3 T3 k3 w3 d3 => ?_⟩
    have s13 := s12.trans s3
    refine ⟨_, rfl, rfl, _, rfl, ite2 (fun e => ?_) (fun e => ?_)⟩
    · refine ⟨_, rfl, (by show 2 ≤ sizeLine; decide), fun p2 np2 => ?_⟩
      exact q _ _ (.point k) (s13.trans (SB.new np2)) ((T3.le (by omega)).sm (same_new np2 _)) ⟨p2, v, rfl, upd_same, k3.tk (TK.new np2)⟩ w3 (by simp only [dep]; omega)
    refine ⟨_, rfl, rfl, _, rfl, ite2 (fun e => ?_) (fun e => ?_)⟩
    · refine ⟨_, rfl, t, l, 3, c + 1 + 1 + wb d, rfl, by omega, by omega, T3, by omega, fun y H4 hy s4 T4 => ?_⟩
      refine ⟨_, rfl, _, rfl, _, rfl, (by show 3 ≤ sizeLine; decide), fun p np => ?_⟩
      have ne := (T4.ne np).1
      refine ⟨_, rfl, t, l, 3, c + 1 + 1 + wb d + 1, rfl, by omega, by omega, T4.sm (same_new np _), by omega, fun z H5 hz s5 T5 => ?_⟩
      have e5 := s5 _ _ ne upd_same
      obtain ⟨g, hg, g18⟩ : ∃ g : Nat, ([V.int 0, V.int 1, V.int 18])[z]? = some (.int (g : Nat)) ∧ g ≤ 18 := by
        rcases (show z = 0 ∨ z = 1 ∨ z = 2 by omega) with rfl | rfl | rfl
        · exact ⟨0, rfl, by decide⟩
        · exact ⟨1, rfl, by decide⟩
        · exact ⟨18, rfl, by decide⟩
      refine ⟨p, _, _, _, rfl, rfl, SqL.of e5, atI_nat hg, _, _, rfl, rfl, (by show 4 ≤ sizeLine; decide), fun p2 np2 => ?_⟩
      refine q _ _ (.sized k y (y + g)) (s13.trans (s4.trans ((SB.new np).trans (s5.trans (SB.new np2))))) ((T5.le (by omega)).sm (same_new np2 _)) ⟨p2, v, rfl, ?_, ?_⟩ ⟨w3, by omega, by omega⟩ (by simp only [dep]; omega)
      · rw [upd_same, Int.natCast_add]
      · exact k3.tk ((T3.tk s4).trans ((TK.new np).trans (((T4.sm (same_new np _)).tk s5).trans (TK.new np2))))
    · refine ⟨(by show 3 ≤ sizeLine; decide), fun p np => ?_⟩
      have ej : ((((x : Nat) : Int).fdiv 2).fmod 3) = ((x / 2 % 3 : Nat) : Int) := by
        have e1 : ((x : Nat) : Int).fdiv 2 = ((x / 2 : Nat) : Int) := fdiv_lt rfl (by decide)
        rw [e1, Int.fmod_eq_emod_of_nonneg _ (by decide)]
        rfl
      obtain ⟨z, mk, h1, h2, h3, h4⟩ : ∃ (z : Str) (mk : Kd → Kd → Kd), ([V.str "this", V.str "both", V.str "in"])[x / 2 % 3]? = some (.str z) ∧ (∀ (H' : Hp) (a b : Kd) (p : Addr) (va vb : V), H' p = some (.tup [.str z, va, vb]) → KAt H' a va → KAt H' b vb → KAt H' (mk a b) (.ref p)) ∧ (∀ a b, wf m a → wf m b → wf m (mk a b)) ∧ (∀ a b, dep (mk a b) = max (dep a) (dep b) + 1) := by
        rcases (show x / 2 % 3 = 0 ∨ x / 2 % 3 = 1 ∨ x / 2 % 3 = 2 by omega) with e | e | e <;> rw [e]
        · exact ⟨"this", .this, rfl, fun H' a b p va vb h ha hb => ⟨p, va, vb, rfl, h, ha, hb⟩, fun a b ha hb => ⟨ha, hb⟩, fun a b => rfl⟩
        · exact ⟨"both", .both, rfl, fun H' a b p va vb h ha hb => ⟨p, va, vb, rfl, h, ha, hb⟩, fun a b ha hb => ⟨ha, hb⟩, fun a b => rfl⟩
        · exact ⟨"in", .inn, rfl, fun H' a b p va vb h ha hb => ⟨p, va, vb, rfl, h, ha, hb⟩, fun a b ha hb => ⟨ha, hb⟩, fun a b => rfl⟩
      refine ⟨_, rfl, _, _, rfl, rfl, ⟨by decide, by decide⟩, _, _, rfl, rfl, (show (3 : Int) ≠ 0 by decide), p, _, _, .str z, rfl, rfl, SqL.of upd_same, ?_, ?_⟩
      · show atI _ ((((x : Nat) : Int).fdiv 2).fmod 3) = _
        rw [ej]
        exact atI_nat h1
      refine ⟨_, rfl, _, rfl, _, rfl, _, rfl, _, _, rfl, rfl, d, by omega, t, l, m, c + 1 + 1 + wb d, (show [V.ref t, V.int (m : Nat), V.int (((d + 1 : Nat) : Int) - 1)] = _ by rw [show ((d + 1 : Nat) : Int) - 1 = ((d : Nat) : Int) by omega]), m1, m4, T3.sm (same_new np _), by omega, by omega, fun H4 v2 k2 s4 T4 kk2 w2 d2 => ?_⟩
      refine ⟨(by show 3 ≤ sizeLine; decide), fun p2 np2 => ?_⟩
      refine q _ _ (mk k k2) (s13.trans ((SB.new np).trans (s4.trans (SB.new np2)))) ((T4.le (by omega)).sm (same_new np2 _)) (h2 _ _ _ _ v v2 upd_same ?_ (kk2.tk (TK.new np2))) (h3 _ _ w3 w2) (by rw [h4]; omega)
      exact k3.tk ((TK.new np).trans (((T3.sm (same_new np _)).tk s4).trans (TK.new np2)))
end
end KB
/-! # Walks 13: rules from the tape -/
namespace KB
open PySem PySem.Spec PyProof.Rows L2 KM
def back0 (i : Nat) : List Kd := [(.rule i), (.both (.rule i) .set), (.both .row (.rule i)), (.inn (.rule i) .one), (.inn (.rule i) (.sized .set 2 20))]
def back1 (i : Nat) : List Kd := [(.inn (.sized .set 1 2) (.rule i)), (.point (.rule i)), (.sized (.rule i) 0 20), (.both .one (.rule i))]
def back2 (i : Nat) : List Kd := [(.both (.rule i) (.rule i)), (.inn .set (.rule i)), (.inn (.sized .set 2 20) (.rule i)), (.both (.rule i) (.both .set .one))]
def back3 (i : Nat) : List Kd := [(.inn (.point (.rule i)) .one), (.inn .round (.rule i))]
def backs (i : Nat) : List Kd := back0 i ++ back1 i ++ back2 i ++ back3 i
theorem backs_ok {m i : Nat} (h : i < m) : ∀ k ∈ backs i, wf m k ∧ dep k ≤ 2 := by
  intro k hk
  simp only [backs, back0, back1, back2, back3, List.cons_append, List.nil_append, List.mem_cons, List.not_mem_nil, or_false] at hk
  rcases hk with rfl | rfl | rfl | rfl | rfl | rfl | rfl | rfl | rfl | rfl | rfl | rfl | rfl | rfl | rfl <;> exact ⟨by simp [wf, h], by simp only [dep]; omega⟩
def firsts : List Kd := [.one, .unit, .void]
section
variable {P : Program} {w : World} {K : PySem.W.Frag} {mg : Str → Option Value} {base : Heap}
/-! ### _law_back: 0:_law_tape_here 1:_law_many 2:_law_rule 3:_law_one 4:_law_some 5:_law_two 6:_law_ways_here 7:_law_way -/
theorem sc_law_back : FnScope ["_law_tape_here", "_law_many", "_law_rule", "_law_one", "_law_some", "_law_two", "_law_ways_here", "_law_way"] ["_law_tape_here", "_law_many"] (defScope KH.s_law_back) := ⟨rfl, rfl, rfl, by decide +kernel, rfl, by decide +kernel, by decide +kernel⟩
def sp_law_back : Sp := fun vs H Q _ => ∃ (t l : Addr) (m c : Nat), vs = [.ref t, .int (m : Nat)] ∧ 1 ≤ m ∧ m ≤ 4 ∧ TapeAt H t l c ∧ c + 3 ≤ 1000000 ∧
  ∀ (H' : Hp) (v : V) (k : Kd), SB t H H' → TapeAt H' t l (c + 3) → KAt H' k v → wf m k → dep k ≤ 3 → Q v H'
theorem ok_law_back (T : Txt w K mg) (F_law_next : Prm P w K mg base CX0 1 "_law_next" ["_law_tape_here", "_law_many"] sp_next) : Prm P w K mg base CX0 2 "_law_back" ["_law_tape_here", "_law_many"] sp_law_back := by
  refine T.d_law_back.ok sc_law_back (fun vs H Q E h => ?_) (fun f cdv A outer s H vs Q E hr h => ⟨_, (pss_cons (ps_set (i := 2) sc_law_back.nd rfl (.inl rfl) (pe_tup (pa_cons pe_str (pa_cons (pcl F_law_next (hr.mono (by omega)) (pa_cons (pv 0) (pa_cons (pv 1) pa_nil))) pa_nil))))
      (pss_cons (ps_asg (pe_tup (pa_cons (pe_tup (pa_cons pe_str pa_nil)) (pa_cons (pe_tup (pa_cons pe_str pa_nil)) (pa_cons (pe_tup (pa_cons pe_str (pa_cons (pe_tup (pa_cons pe_str pa_nil)) (pa_cons pe_int (pa_cons pe_int pa_nil))))) pa_nil)))) (pg_tup (by rfl) (pgs_cons (pg_name (i := 3) sc_law_back.nd rfl (.inl rfl)) (pgs_cons (pg_name (i := 4) sc_law_back.nd rfl (.inl rfl)) (pgs_cons (pg_name (i := 5) sc_law_back.nd rfl (.inl rfl)) pgs_nil)))))
      (pss_cons (ps_set (i := 6) sc_law_back.nd rfl (.inl rfl) (pe_mid (pe_lst (pa_cons (pv 2) (pa_cons (pe_tup (pa_cons pe_str (pa_cons (pv 2) (pa_cons (pv 4) pa_nil)))) (pa_cons (pe_tup (pa_cons pe_str (pa_cons (pe_tup (pa_cons pe_str pa_nil)) (pa_cons (pv 2) pa_nil)))) (pa_cons (pe_tup (pa_cons pe_str (pa_cons (pv 2) (pa_cons (pv 3) pa_nil)))) (pa_cons (pe_tup (pa_cons pe_str (pa_cons (pv 2) (pa_cons (pv 5) pa_nil)))) pa_nil))))))))
      (pss_cons (ps_set (i := 6) sc_law_back.nd rfl (.inl rfl) (pe_mid (pe_op op_cat (pv 6) (pe_lst (pa_cons (pe_tup (pa_cons pe_str (pa_cons (pe_tup (pa_cons pe_str (pa_cons (pv 4) (pa_cons pe_int (pa_cons pe_int pa_nil))))) (pa_cons (pv 2) pa_nil)))) (pa_cons (pe_tup (pa_cons pe_str (pa_cons (pv 2) pa_nil))) (pa_cons (pe_tup (pa_cons pe_str (pa_cons (pv 2) (pa_cons pe_int (pa_cons pe_int pa_nil))))) (pa_cons (pe_tup (pa_cons pe_str (pa_cons (pv 3) (pa_cons (pv 2) pa_nil)))) pa_nil))))))))
      (pss_cons (ps_set (i := 6) sc_law_back.nd rfl (.inl rfl) (pe_mid (pe_op op_cat (pv 6) (pe_lst (pa_cons (pe_tup (pa_cons pe_str (pa_cons (pv 2) (pa_cons (pv 2) pa_nil)))) (pa_cons (pe_tup (pa_cons pe_str (pa_cons (pv 4) (pa_cons (pv 2) pa_nil)))) (pa_cons (pe_tup (pa_cons pe_str (pa_cons (pv 5) (pa_cons (pv 2) pa_nil)))) (pa_cons (pe_tup (pa_cons pe_str (pa_cons (pv 2) (pa_cons (pe_tup (pa_cons pe_str (pa_cons (pv 4) (pa_cons (pv 3) pa_nil)))) pa_nil)))) pa_nil))))))))
      (pss_cons (ps_set (i := 6) sc_law_back.nd rfl (.inl rfl) (pe_mid (pe_op op_cat (pv 6) (pe_lst (pa_cons (pe_tup (pa_cons pe_str (pa_cons (pe_tup (pa_cons pe_str (pa_cons (pv 2) pa_nil))) (pa_cons (pv 3) pa_nil)))) (pa_cons (pe_tup (pa_cons pe_str (pa_cons (pe_tup (pa_cons pe_str pa_nil)) (pa_cons (pv 2) pa_nil)))) pa_nil))))))
      (pss_cons (ps_set (i := 7) sc_law_back.nd rfl (.inl rfl) (pcl F_law_next (hr.mono (by omega)) (pa_cons (pv 0) (pa_cons pe_int pa_nil))))
      (pss_one (ps_ret (pe_tup (pa_cons pe_str (pa_cons (pe_ix (ixL K) (pe_lst (pa_cons (pv 3) (pa_cons (pe_tup (pa_cons pe_str pa_nil)) (pa_cons (pe_tup (pa_cons pe_str pa_nil)) pa_nil)))) (pcl F_law_next (hr.mono (by omega)) (pa_cons (pv 0) (pa_cons pe_int pa_nil))) (fun _ _ => rfl)) (pa_cons (pe_ix (ixL K) (pv 6) (pv 7) (fun _ _ => rfl)) pa_nil))))))))))))), ?_⟩)
  · obtain ⟨t, l, m, c, rfl, _⟩ := h
    rfl
  obtain ⟨t, l, m, c, rfl, m1, m4, hT, hc, q⟩ := h
  refine ⟨_, rfl, _, rfl, t, l, m, c, rfl, by omega, by omega, hT, by omega, fun i H1 hi s1 T1 => ?_⟩
  have him : i < m := by omega
  refine ⟨(by show 2 ≤ sizeLine; decide), fun ar nr => ?_⟩
  have er : KAt (upd H1 ar (.tup [.str "rule", .int (i : Nat)])) (.rule i) (.ref ar) := ⟨ar, rfl, upd_same⟩
  have s2 := s1.trans (SB.new (o := .tup [.str "rule", .int (i : Nat)]) nr)
  have T2 := T1.sm (same_new nr (.tup [.str "rule", .int (i : Nat)]))
  generalize upd H1 ar (.tup [.str "rule", .int (i : Nat)]) = H2 at *
  refine ⟨(by show 1 ≤ sizeLine; decide), fun x0 nx0 => ?_⟩
  have gx0 := same_new nx0 (.tup [.str "one"])
  have ex0 : upd H2 x0 (.tup [.str "one"]) x0 = some (.tup [.str "one"]) := upd_same
  generalize upd H2 x0 (.tup [.str "one"]) = A0 at *
  refine ⟨(by show 1 ≤ sizeLine; decide), fun x1 nx1 => ?_⟩
  have gx1 := same_new nx1 (.tup [.str "set"])
  have ex1 : upd A0 x1 (.tup [.str "set"]) x1 = some (.tup [.str "set"]) := upd_same
  generalize upd A0 x1 (.tup [.str "set"]) = A1 at *
  refine ⟨(by show 1 ≤ sizeLine; decide), fun x2 nx2 => ?_⟩
  have gx2 := same_new nx2 (.tup [.str "set"])
  have ex2 : upd A1 x2 (.tup [.str "set"]) x2 = some (.tup [.str "set"]) := upd_same
  generalize upd A1 x2 (.tup [.str "set"]) = A2 at *
  refine ⟨(by show 4 ≤ sizeLine; decide), fun x3 nx3 => ?_⟩
  have gx3 := same_new nx3 (.tup [.str "sized", .ref x2, .int 2, .int 20])
  have ex3 : upd A2 x3 (.tup [.str "sized", .ref x2, .int 2, .int 20]) x3 = some (.tup [.str "sized", .ref x2, .int 2, .int 20]) := upd_same
  generalize upd A2 x3 (.tup [.str "sized", .ref x2, .int 2, .int 20]) = A3 at *
  refine ⟨(by show 3 ≤ sizeLine; decide), fun x4 nx4 => ?_⟩
  have gx4 := same_new nx4 (.tup [.ref x0, .ref x1, .ref x3])
  have ex4 : upd A3 x4 (.tup [.ref x0, .ref x1, .ref x3]) x4 = some (.tup [.ref x0, .ref x1, .ref x3]) := upd_same
  generalize upd A3 x4 (.tup [.ref x0, .ref x1, .ref x3]) = A4 at *
  have qx0 := (gx1.trans (gx2.trans (gx3.trans (gx4)))) _ _ ex0
  have qx1 := (gx2.trans (gx3.trans (gx4))) _ _ ex1
  have qx2 := (gx3.trans (gx4)) _ _ ex2
  have qx3 := (gx4) _ _ ex3
  have qx4 := (Same.refl _) _ _ ex4
  have sAll := gx0.trans (gx1.trans (gx2.trans (gx3.trans (gx4))))
  have kr := er.tk (TK.of sAll)
  have k1 : KAt A4 .one (.ref x0) := ⟨_, rfl, qx0⟩
  have k2 : KAt A4 .set (.ref x1) := ⟨_, rfl, qx1⟩
  have k3 : KAt A4 (.sized .set 2 20) (.ref x3) := ⟨_, _, rfl, qx3, ⟨_, rfl, qx2⟩⟩
  have s3 := s2.trans (SB.of sAll)
  have T3 := T2.sm sAll
  refine ⟨x4, _, rfl, SqT.of qx4, rfl, _, _, rfl, _, _, rfl, _, _, rfl, rfl, ?_⟩
  clear er T2 T1
  generalize V.ref ar = vr at *
  generalize V.ref x0 = v1 at *
  generalize V.ref x1 = v2 at *
  generalize V.ref x3 = v3 at *
  clear qx0 qx1 qx2 qx3 qx4
  clear sAll
  refine ⟨fun v H' => ∃ p vs, v = .ref p ∧ p ≠ t ∧ Same A4 H' ∧ H' p = some (.lst vs) ∧ KsAt H' (back0 i) vs, ?_, ?_⟩
  · clear q
    refine ⟨_, rfl, _, rfl, _, rfl, (by show 3 ≤ sizeLine; decide), fun y0 ny0 => ?_⟩
    have gy0 := same_new ny0 (.tup [.str "both", vr, v2])
    have ey0 : upd A4 y0 (.tup [.str "both", vr, v2]) y0 = some (.tup [.str "both", vr, v2]) := upd_same
    generalize upd A4 y0 (.tup [.str "both", vr, v2]) = B00 at *
    refine ⟨(by show 1 ≤ sizeLine; decide), fun y1 ny1 => ?_⟩
    have gy1 := same_new ny1 (.tup [.str "row"])
    have ey1 : upd B00 y1 (.tup [.str "row"]) y1 = some (.tup [.str "row"]) := upd_same
    generalize upd B00 y1 (.tup [.str "row"]) = B01 at *
    refine ⟨_, rfl, (by show 3 ≤ sizeLine; decide), fun y2 ny2 => ?_⟩
    have gy2 := same_new ny2 (.tup [.str "both", .ref y1, vr])
    have ey2 : upd B01 y2 (.tup [.str "both", .ref y1, vr]) y2 = some (.tup [.str "both", .ref y1, vr]) := upd_same
    generalize upd B01 y2 (.tup [.str "both", .ref y1, vr]) = B02 at *
    refine ⟨_, rfl, _, rfl, (by show 3 ≤ sizeLine; decide), fun y3 ny3 => ?_⟩
    have gy3 := same_new ny3 (.tup [.str "in", vr, v1])
    have ey3 : upd B02 y3 (.tup [.str "in", vr, v1]) y3 = some (.tup [.str "in", vr, v1]) := upd_same
    generalize upd B02 y3 (.tup [.str "in", vr, v1]) = B03 at *
    refine ⟨_, rfl, _, rfl, (by show 3 ≤ sizeLine; decide), fun y4 ny4 => ?_⟩
    have gy4 := same_new ny4 (.tup [.str "in", vr, v3])
    have ey4 : upd B03 y4 (.tup [.str "in", vr, v3]) y4 = some (.tup [.str "in", vr, v3]) := upd_same
    generalize upd B03 y4 (.tup [.str "in", vr, v3]) = B04 at *
    refine ⟨(by show 5 ≤ sizeLine; decide), fun y5 ny5 => ?_⟩
    have gy5 := same_new ny5 (.lst [vr, .ref y0, .ref y2, .ref y3, .ref y4])
    have ey5 : upd B04 y5 (.lst [vr, .ref y0, .ref y2, .ref y3, .ref y4]) y5 = some (.lst [vr, .ref y0, .ref y2, .ref y3, .ref y4]) := upd_same
    generalize upd B04 y5 (.lst [vr, .ref y0, .ref y2, .ref y3, .ref y4]) = B05 at *
    have qy0 := (gy1.trans (gy2.trans (gy3.trans (gy4.trans (gy5))))) _ _ ey0
    have qy1 := (gy2.trans (gy3.trans (gy4.trans (gy5)))) _ _ ey1
    have qy2 := (gy3.trans (gy4.trans (gy5))) _ _ ey2
    have qy3 := (gy4.trans (gy5)) _ _ ey3
    have qy4 := (gy5) _ _ ey4
    have qy5 := (Same.refl _) _ _ ey5
    have sAll := gy0.trans (gy1.trans (gy2.trans (gy3.trans (gy4.trans (gy5)))))
    have kk : KsAt B05 (back0 i) [vr, .ref y0, .ref y2, .ref y3, .ref y4] := ⟨(kr.tk (TK.of sAll)), ⟨_, _, _, rfl, qy0, (kr.tk (TK.of sAll)), (k2.tk (TK.of sAll))⟩, ⟨_, _, _, rfl, qy2, ⟨_, rfl, qy1⟩, (kr.tk (TK.of sAll))⟩, ⟨_, _, _, rfl, qy3, (kr.tk (TK.of sAll)), (k1.tk (TK.of sAll))⟩, ⟨_, _, _, rfl, qy4, (kr.tk (TK.of sAll)), (k3.tk (TK.of sAll))⟩, trivial⟩
    exact ⟨y5, _, rfl, (T3.ne ((gy0.trans (gy1.trans (gy2.trans (gy3.trans (gy4))))).free ny5)).1, sAll, qy5, kk⟩
  rintro v G0 ⟨lp, vs, rfl, nlp, sG, el, kl⟩
  have kr := kr.tk (TK.of sG)
  have k1 := k1.tk (TK.of sG)
  have k2 := k2.tk (TK.of sG)
  have k3 := k3.tk (TK.of sG)
  have s3 := s3.trans (SB.of sG)
  have T3 := T3.sm sG
  clear sG
  refine ⟨fun v H' => ∃ p vs, v = .ref p ∧ p ≠ t ∧ Same G0 H' ∧ H' p = some (.lst vs) ∧ KsAt H' (back0 i ++ back1 i) vs, ?_, ?_⟩
  · clear q
    refine ⟨_, rfl, _, rfl, (by show 4 ≤ sizeLine; decide), fun y0 ny0 => ?_⟩
    have gy0 := same_new ny0 (.tup [.str "sized", v2, .int 1, .int 2])
    have ey0 : upd G0 y0 (.tup [.str "sized", v2, .int 1, .int 2]) y0 = some (.tup [.str "sized", v2, .int 1, .int 2]) := upd_same
    generalize upd G0 y0 (.tup [.str "sized", v2, .int 1, .int 2]) = B10 at *
    refine ⟨_, rfl, (by show 3 ≤ sizeLine; decide), fun y1 ny1 => ?_⟩
    have gy1 := same_new ny1 (.tup [.str "in", .ref y0, vr])
    have ey1 : upd B10 y1 (.tup [.str "in", .ref y0, vr]) y1 = some (.tup [.str "in", .ref y0, vr]) := upd_same
    generalize upd B10 y1 (.tup [.str "in", .ref y0, vr]) = B11 at *
    refine ⟨_, rfl, (by show 2 ≤ sizeLine; decide), fun y2 ny2 => ?_⟩
    have gy2 := same_new ny2 (.tup [.str "point", vr])
    have ey2 : upd B11 y2 (.tup [.str "point", vr]) y2 = some (.tup [.str "point", vr]) := upd_same
    generalize upd B11 y2 (.tup [.str "point", vr]) = B12 at *
    refine ⟨_, rfl, (by show 4 ≤ sizeLine; decide), fun y3 ny3 => ?_⟩
    have gy3 := same_new ny3 (.tup [.str "sized", vr, .int 0, .int 20])
    have ey3 : upd B12 y3 (.tup [.str "sized", vr, .int 0, .int 20]) y3 = some (.tup [.str "sized", vr, .int 0, .int 20]) := upd_same
    generalize upd B12 y3 (.tup [.str "sized", vr, .int 0, .int 20]) = B13 at *
    refine ⟨_, rfl, _, rfl, (by show 3 ≤ sizeLine; decide), fun y4 ny4 => ?_⟩
    have gy4 := same_new ny4 (.tup [.str "both", v1, vr])
    have ey4 : upd B13 y4 (.tup [.str "both", v1, vr]) y4 = some (.tup [.str "both", v1, vr]) := upd_same
    generalize upd B13 y4 (.tup [.str "both", v1, vr]) = B14 at *
    refine ⟨(by show 4 ≤ sizeLine; decide), fun y5 ny5 => ?_⟩
    have gy5 := same_new ny5 (.lst [.ref y1, .ref y2, .ref y3, .ref y4])
    have ey5 : upd B14 y5 (.lst [.ref y1, .ref y2, .ref y3, .ref y4]) y5 = some (.lst [.ref y1, .ref y2, .ref y3, .ref y4]) := upd_same
    generalize upd B14 y5 (.lst [.ref y1, .ref y2, .ref y3, .ref y4]) = B15 at *
    have qy0 := (gy1.trans (gy2.trans (gy3.trans (gy4.trans (gy5))))) _ _ ey0
    have qy1 := (gy2.trans (gy3.trans (gy4.trans (gy5)))) _ _ ey1
    have qy2 := (gy3.trans (gy4.trans (gy5))) _ _ ey2
    have qy3 := (gy4.trans (gy5)) _ _ ey3
    have qy4 := (gy5) _ _ ey4
    have qy5 := (Same.refl _) _ _ ey5
    have sAll := gy0.trans (gy1.trans (gy2.trans (gy3.trans (gy4.trans (gy5)))))
    have kk : KsAt B15 (back1 i) [.ref y1, .ref y2, .ref y3, .ref y4] := ⟨⟨_, _, _, rfl, qy1, ⟨_, _, rfl, qy0, (k2.tk (TK.of sAll))⟩, (kr.tk (TK.of sAll))⟩, ⟨_, _, rfl, qy2, (kr.tk (TK.of sAll))⟩, ⟨_, _, rfl, qy3, (kr.tk (TK.of sAll))⟩, ⟨_, _, _, rfl, qy4, (k1.tk (TK.of sAll)), (kr.tk (TK.of sAll))⟩, trivial⟩
    refine ⟨lp, y5, vs, _, rfl, rfl, sAll _ _ el, qy5, small (by rw [kl.len]; show 5 + 4 ≤ 1000; decide), fun p np => ⟨p, _, rfl, (T3.ne (sAll.free np)).1, sAll.trans (same_new np _), upd_same, ((kl.tk (TK.of sAll)).app kk).tk (TK.new np)⟩⟩
  rintro v G1 ⟨lp, vs, rfl, nlp, sG, el, kl⟩
  have kr := kr.tk (TK.of sG)
  have k1 := k1.tk (TK.of sG)
  have k2 := k2.tk (TK.of sG)
  have k3 := k3.tk (TK.of sG)
  have s3 := s3.trans (SB.of sG)
  have T3 := T3.sm sG
  clear sG
  refine ⟨fun v H' => ∃ p vs, v = .ref p ∧ p ≠ t ∧ Same G1 H' ∧ H' p = some (.lst vs) ∧ KsAt H' (back0 i ++ back1 i ++ back2 i) vs, ?_, ?_⟩
  · clear q
    refine ⟨_, rfl, _, rfl, _, rfl, (by show 3 ≤ sizeLine; decide), fun y0 ny0 => ?_⟩
    have gy0 := same_new ny0 (.tup [.str "both", vr, vr])
    have ey0 : upd G1 y0 (.tup [.str "both", vr, vr]) y0 = some (.tup [.str "both", vr, vr]) := upd_same
    generalize upd G1 y0 (.tup [.str "both", vr, vr]) = B20 at *
    refine ⟨_, rfl, _, rfl, (by show 3 ≤ sizeLine; decide), fun y1 ny1 => ?_⟩
    have gy1 := same_new ny1 (.tup [.str "in", v2, vr])
    have ey1 : upd B20 y1 (.tup [.str "in", v2, vr]) y1 = some (.tup [.str "in", v2, vr]) := upd_same
    generalize upd B20 y1 (.tup [.str "in", v2, vr]) = B21 at *
    refine ⟨_, rfl, _, rfl, (by show 3 ≤ sizeLine; decide), fun y2 ny2 => ?_⟩
    have gy2 := same_new ny2 (.tup [.str "in", v3, vr])
    have ey2 : upd B21 y2 (.tup [.str "in", v3, vr]) y2 = some (.tup [.str "in", v3, vr]) := upd_same
    generalize upd B21 y2 (.tup [.str "in", v3, vr]) = B22 at *
    refine ⟨_, rfl, _, rfl, _, rfl, (by show 3 ≤ sizeLine; decide), fun y3 ny3 => ?_⟩
    have gy3 := same_new ny3 (.tup [.str "both", v2, v1])
    have ey3 : upd B22 y3 (.tup [.str "both", v2, v1]) y3 = some (.tup [.str "both", v2, v1]) := upd_same
    generalize upd B22 y3 (.tup [.str "both", v2, v1]) = B23 at *
    refine ⟨(by show 3 ≤ sizeLine; decide), fun y4 ny4 => ?_⟩
    have gy4 := same_new ny4 (.tup [.str "both", vr, .ref y3])
    have ey4 : upd B23 y4 (.tup [.str "both", vr, .ref y3]) y4 = some (.tup [.str "both", vr, .ref y3]) := upd_same
    generalize upd B23 y4 (.tup [.str "both", vr, .ref y3]) = B24 at *
    refine ⟨(by show 4 ≤ sizeLine; decide), fun y5 ny5 => ?_⟩
    have gy5 := same_new ny5 (.lst [.ref y0, .ref y1, .ref y2, .ref y4])
    have ey5 : upd B24 y5 (.lst [.ref y0, .ref y1, .ref y2, .ref y4]) y5 = some (.lst [.ref y0, .ref y1, .ref y2, .ref y4]) := upd_same
    generalize upd B24 y5 (.lst [.ref y0, .ref y1, .ref y2, .ref y4]) = B25 at *
    have qy0 := (gy1.trans (gy2.trans (gy3.trans (gy4.trans (gy5))))) _ _ ey0
    have qy1 := (gy2.trans (gy3.trans (gy4.trans (gy5)))) _ _ ey1
    have qy2 := (gy3.trans (gy4.trans (gy5))) _ _ ey2
    have qy3 := (gy4.trans (gy5)) _ _ ey3
    have qy4 := (gy5) _ _ ey4
    have qy5 := (Same.refl _) _ _ ey5
    have sAll := gy0.trans (gy1.trans (gy2.trans (gy3.trans (gy4.trans (gy5)))))
    have kk : KsAt B25 (back2 i) [.ref y0, .ref y1, .ref y2, .ref y4] := ⟨⟨_, _, _, rfl, qy0, (kr.tk (TK.of sAll)), (kr.tk (TK.of sAll))⟩, ⟨_, _, _, rfl, qy1, (k2.tk (TK.of sAll)), (kr.tk (TK.of sAll))⟩, ⟨_, _, _, rfl, qy2, (k3.tk (TK.of sAll)), (kr.tk (TK.of sAll))⟩, ⟨_, _, _, rfl, qy4, (kr.tk (TK.of sAll)), ⟨_, _, _, rfl, qy3, (k2.tk (TK.of sAll)), (k1.tk (TK.of sAll))⟩⟩, trivial⟩
    refine ⟨lp, y5, vs, _, rfl, rfl, sAll _ _ el, qy5, small (by rw [kl.len]; show 9 + 4 ≤ 1000; decide), fun p np => ⟨p, _, rfl, (T3.ne (sAll.free np)).1, sAll.trans (same_new np _), upd_same, ((kl.tk (TK.of sAll)).app kk).tk (TK.new np)⟩⟩
  rintro v G2 ⟨lp, vs, rfl, nlp, sG, el, kl⟩
  have kr := kr.tk (TK.of sG)
  have k1 := k1.tk (TK.of sG)
  have k2 := k2.tk (TK.of sG)
  have k3 := k3.tk (TK.of sG)
  have s3 := s3.trans (SB.of sG)
  have T3 := T3.sm sG
  clear sG
  refine ⟨fun v H' => ∃ p vs, v = .ref p ∧ p ≠ t ∧ Same G2 H' ∧ H' p = some (.lst vs) ∧ KsAt H' (back0 i ++ back1 i ++ back2 i ++ back3 i) vs, ?_, ?_⟩
  · clear q
    refine ⟨_, rfl, _, rfl, (by show 2 ≤ sizeLine; decide), fun y0 ny0 => ?_⟩
    have gy0 := same_new ny0 (.tup [.str "point", vr])
    have ey0 : upd G2 y0 (.tup [.str "point", vr]) y0 = some (.tup [.str "point", vr]) := upd_same
    generalize upd G2 y0 (.tup [.str "point", vr]) = B30 at *
    refine ⟨_, rfl, (by show 3 ≤ sizeLine; decide), fun y1 ny1 => ?_⟩
    have gy1 := same_new ny1 (.tup [.str "in", .ref y0, v1])
    have ey1 : upd B30 y1 (.tup [.str "in", .ref y0, v1]) y1 = some (.tup [.str "in", .ref y0, v1]) := upd_same
    generalize upd B30 y1 (.tup [.str "in", .ref y0, v1]) = B31 at *
    refine ⟨(by show 1 ≤ sizeLine; decide), fun y2 ny2 => ?_⟩
    have gy2 := same_new ny2 (.tup [.str "round"])
    have ey2 : upd B31 y2 (.tup [.str "round"]) y2 = some (.tup [.str "round"]) := upd_same
    generalize upd B31 y2 (.tup [.str "round"]) = B32 at *
    refine ⟨_, rfl, (by show 3 ≤ sizeLine; decide), fun y3 ny3 => ?_⟩
    have gy3 := same_new ny3 (.tup [.str "in", .ref y2, vr])
    have ey3 : upd B32 y3 (.tup [.str "in", .ref y2, vr]) y3 = some (.tup [.str "in", .ref y2, vr]) := upd_same
    generalize upd B32 y3 (.tup [.str "in", .ref y2, vr]) = B33 at *
    refine ⟨(by show 2 ≤ sizeLine; decide), fun y4 ny4 => ?_⟩
    have gy4 := same_new ny4 (.lst [.ref y1, .ref y3])
    have ey4 : upd B33 y4 (.lst [.ref y1, .ref y3]) y4 = some (.lst [.ref y1, .ref y3]) := upd_same
    generalize upd B33 y4 (.lst [.ref y1, .ref y3]) = B34 at *
    have qy0 := (gy1.trans (gy2.trans (gy3.trans (gy4)))) _ _ ey0
    have qy1 := (gy2.trans (gy3.trans (gy4))) _ _ ey1
    have qy2 := (gy3.trans (gy4)) _ _ ey2
    have qy3 := (gy4) _ _ ey3
    have qy4 := (Same.refl _) _ _ ey4
    have sAll := gy0.trans (gy1.trans (gy2.trans (gy3.trans (gy4))))
    have kk : KsAt B34 (back3 i) [.ref y1, .ref y3] := ⟨⟨_, _, _, rfl, qy1, ⟨_, _, rfl, qy0, (kr.tk (TK.of sAll))⟩, (k1.tk (TK.of sAll))⟩, ⟨_, _, _, rfl, qy3, ⟨_, rfl, qy2⟩, (kr.tk (TK.of sAll))⟩, trivial⟩
    refine ⟨lp, y4, vs, _, rfl, rfl, sAll _ _ el, qy4, small (by rw [kl.len]; show 13 + 2 ≤ 1000; decide), fun p np => ⟨p, _, rfl, (T3.ne (sAll.free np)).1, sAll.trans (same_new np _), upd_same, ((kl.tk (TK.of sAll)).app kk).tk (TK.new np)⟩⟩
  rintro v G3 ⟨lp, vs, rfl, nlp, sG, el, kl⟩
  have kr := kr.tk (TK.of sG)
  have k1 := k1.tk (TK.of sG)
  have k2 := k2.tk (TK.of sG)
  have k3 := k3.tk (TK.of sG)
  have s3 := s3.trans (SB.of sG)
  have T3 := T3.sm sG
  clear sG
  refine ⟨_, rfl, t, l, 15, c + 1, rfl, by omega, by omega, T3, by omega, fun x H4 hx s4 T4 => ?_⟩
  have s4' := s3.trans s4
  have el4 := s4 _ _ nlp el
  have kl4 := kl.tk (T3.tk s4)
  have k14 := k1.tk (T3.tk s4)
  refine ⟨_, rfl, ?_⟩
  refine ⟨(by show 1 ≤ sizeLine; decide), fun pu nu => ?_⟩
  have gu := same_new nu (.tup [.str "unit"])
  have eu : upd H4 pu (.tup [.str "unit"]) pu = some (.tup [.str "unit"]) := upd_same
  generalize upd H4 pu (.tup [.str "unit"]) = H5 at *
  refine ⟨(by show 1 ≤ sizeLine; decide), fun pv nv => ?_⟩
  have gv := same_new nv (.tup [.str "void"])
  have ev : upd H5 pv (.tup [.str "void"]) pv = some (.tup [.str "void"]) := upd_same
  generalize upd H5 pv (.tup [.str "void"]) = H6 at *
  refine ⟨(by show 3 ≤ sizeLine; decide), fun pf nf => ?_⟩
  have gf := same_new nf (.lst [v1, .ref pu, .ref pv])
  have ef : upd H6 pf (.lst [v1, .ref pu, .ref pv]) pf = some (.lst [v1, .ref pu, .ref pv]) := upd_same
  generalize upd H6 pf (.lst [v1, .ref pu, .ref pv]) = H7 at *
  have s47 := gu.trans (gv.trans gf)
  have T7 := T4.sm s47
  have npf := (T4.ne ((gu.trans gv).free nf)).1
  have kf : KsAt H7 firsts [v1, .ref pu, .ref pv] := ⟨k14.tk (TK.of s47), ⟨_, rfl, (gv.trans gf) _ _ eu⟩, ⟨_, rfl, gf _ _ ev⟩, trivial⟩
  refine ⟨_, rfl, t, l, 3, c + 1 + 1, rfl, by omega, by omega, T7, by omega, fun y H8 hy s8 T8 => ?_⟩
  have s8' := (SB.of s47 : SB t H4 H7).trans s8
  have t8 := T7.tk s8
  obtain ⟨va, ha, ka⟩ := kf.at (i := y) (show y < 3 by omega)
  obtain ⟨vb, hb, kb⟩ := kl4.at (i := x) (show x < 15 by omega)
  have okb := backs_ok him _ (getD_mem (d := Kd.void) (show x < (backs i).length by show x < 15; omega))
  have oka : ∀ k ∈ firsts, wf m k ∧ dep k = 0 := by
    intro k hk
    simp only [firsts, List.mem_cons, List.not_mem_nil, or_false] at hk
    rcases hk with rfl | rfl | rfl <;> exact ⟨trivial, rfl⟩
  have oka := oka _ (getD_mem (d := Kd.void) (show y < firsts.length by show y < 3; omega))
  refine ⟨pf, _, _, _, rfl, rfl, SqL.of (s8 _ _ npf ef), atI_nat ha, _, rfl, _, rfl, lp, _, _, _, rfl, rfl, SqL.of (s8' _ _ nlp el4), atI_nat hb, (by show 3 ≤ sizeLine; decide), fun p np => ?_⟩
  refine q _ _ (.this (firsts.getD y .void) ((backs i).getD x .void)) (s4'.trans (s8'.trans (SB.new np))) (T8.sm (same_new np _)) ⟨p, _, _, rfl, upd_same, ka.tk (t8.trans (TK.new np)), kb.tk ((TK.of s47).trans (t8.trans (TK.new np)))⟩ ⟨oka.1, okb.1⟩ ?_
  have d1 := oka.2
  have d2 := okb.2
  simp only [dep]
  omega
end
end KB
/-! # Walks 14: papers from the tape, what lets_found says -/
namespace KB
open PySem PySem.Spec PyProof.Rows L2 KM
section
variable {X : Cx}
theorem takesF : L2.Takes X (fun _ _ _ _ => False) := fun u s' h => by
  rcases h with ⟨_, _, _, _, _, _, _, _, _, _, _, _, _, _, _, _, no⟩
  exact no.elim
variable {W : WX} {x : Str} {k : Nat} {ps : List Str} {sp : Sp} {e : Expr} {es : List Expr} {t : TA} {p pos : Pos}
/-- a call of a def that may raise, within a try -/
theorem pclX (F : Prm X.prog X.w X.K X.mg X.base (L2.CX X.prog X.w) k x ps sp) (hr : Room k X.A) (tk : L2.Takes X W) (ha : PA X (e :: es) t) (hg : Gl X x := by rfl) (hdb : (x == ("__debug__" : Str)) = false := by decide)
    (he : starEach (e :: es) X.env = (false, eval e X.env) :: starEach es X.env := by rfl) (hpl : (backTo pos (starEach es X.env)).any (·.1) = false := by rfl) : PE X (.Call (.Name x p) (e :: es) [] pos) (tCallS sp (fun σ => WE W σ) t) := by
  obtain ⟨f, fd, F, hm, kp, hb⟩ := F
  exact pe_callS F hr hg hm kp hb (fun σ => passAt tk σ) ha hdb he hpl
end
section
variable {K : PySem.W.Frag} {H : Hp} {Q : VK} {a b : Addr} {xs ys : List Int}
theorem cut_ints (lo hi : Option Int) : ∃ zs : List Int, cutV (xs.map V.int) lo hi = zs.map V.int ∧ zs.length ≤ xs.length := by
  refine ⟨(xs.drop (HT.sIx (xs.map V.int).length 0 lo)).take (HT.sIx (xs.map V.int).length (xs.map V.int).length hi - HT.sIx (xs.map V.int).length 0 lo), ?_, ?_⟩
  · unfold cutV
    rw [List.map_take, List.map_drop]
  · rw [List.length_take, List.length_drop]
    omega
theorem sl_ints {lo hi : Option Int} (h : H a = some (.tup (xs.map V.int))) (q : ∀ (H' : Hp) (b : Addr) (zs : List Int), Same H H' → H' b = some (.tup (zs.map V.int)) → zs.length ≤ xs.length → Q (.ref b) H') : rSlA K (.ref a) lo hi H Q := by
  refine ⟨a, _, rfl, SqT.of h, fun _ => q _ _ _ (Same.refl _) h (Nat.le_refl _), fun _ p np => ?_⟩
  obtain ⟨zs, e, l⟩ := cut_ints (xs := xs) lo hi
  exact q _ p zs (same_new np _) (by rw [upd_same, e]) l
theorem cat_ints (h : H a = some (.tup (xs.map V.int))) (g : H b = some (.tup (ys.map V.int))) (few : xs.length + ys.length ≤ 1000) (q : ∀ (H' : Hp) (c : Addr) (zs : List Int), Same H H' → H' c = some (.tup (zs.map V.int)) → zs.length ≤ xs.length + ys.length → Q (.ref c) H') : rCatA K (.ref a) (.ref b) H Q := by
  refine ⟨a, b, _, _, rfl, rfl, SqT.of h, SqT.of g, small (by rw [List.length_map, List.length_map]; exact few), fun _ => q _ _ _ (Same.refl _) g (by omega), fun _ _ => q _ _ _ (Same.refl _) h (by omega), fun _ _ p np => ?_⟩
  exact q _ p (xs ++ ys) (same_new np _) (by rw [upd_same, List.map_append]) (by rw [List.length_append]; exact Nat.le_refl _)
end
theorem shaped_tup_ints (xs : List Int) : SeqAt.shaped (.tuple (xs.map PyData.int)) = true := by
  have h : ∀ L : List Int, PyData.canLayAll0 (L.map PyData.int) = true ∧ PyData.depthAll (L.map PyData.int) = 0 := fun L => by
    induction L with
    | nil => exact ⟨by simp [PyData.canLayAll0], by simp [PyData.depthAll]⟩
    | cons x L ih => exact ⟨by simp [PyData.canLayAll0, PyData.canLay0, ih.1], by simp [PyData.depthAll, PyData.depth, ih.2]⟩
  unfold SeqAt.shaped
  simp [PyData.canLay0, PyData.depth, h xs]
theorem eqv_tup_nil (xs : List Int) : PyData.eqv (.tuple (xs.map PyData.int)) (.tuple []) = xs.isEmpty := by
  cases xs <;> simp [PyData.eqv, PyData.eqvAll]
theorem shaped_tup_nil : SeqAt.shaped (.tuple []) = true := by decide +kernel
theorem ints_of : ∀ {acc : List V}, (∀ (i : Nat) (v : V), acc[i]? = some v → ∃ d : Int, v = V.int d) → ∃ xs : List Int, acc = xs.map V.int
  | [], _ => ⟨[], rfl⟩
  | v :: acc, h => by
    obtain ⟨d, rfl⟩ := h 0 v rfl
    obtain ⟨xs, rfl⟩ := ints_of (acc := acc) fun i v e => h (i + 1) v e
    exact ⟨d :: xs, rfl⟩
section
variable {P : Program} {w : World} {K : PySem.W.Frag} {mg : Str → Option Value} {base : Heap}
/-! ### _law_lets: 0:_law_rules 1:_law_paper 2:_law_found -/
theorem sc_law_lets : FnScope ["_law_rules", "_law_paper", "_law_found"] ["_law_rules", "_law_paper"] (defScope KH.s_law_lets) := ⟨rfl, rfl, rfl, by decide +kernel, rfl, by decide +kernel, by decide +kernel⟩
def sp_law_lets : Sp := fun vs H Q _ => ∃ (ks : List Kd) (rv pv : V) (ls rs : List Int), vs = [rv, pv] ∧ RAt H ks rv ∧ PapAt H ls rs pv ∧ RulesOk ks ∧ ∀ H', Same H H' → Q (.str (if lets ks ls rs = true then "yes" else "no")) H'
theorem ok_law_lets (T : Txt w K mg) (F_lets_found : Prm P w K mg base (L2.CX P w) 14 "lets_found" ["rules", "thing"] (sp_lets_found K)) : Prm P w K mg base CX0 15 "_law_lets" ["_law_rules", "_law_paper"] sp_law_lets := by
  refine T.d_law_lets.ok sc_law_lets (fun vs H Q E h => ?_) (fun f cdv A outer s H vs Q E hr h => ⟨_, (pss_cons (ps_set (i := 2) sc_law_lets.nd rfl (.inl rfl) pe_str)
      (pss_cons (ps_try_only rfl rfl ⟨rfl, by decide, .inl T.g_NoPaper⟩ takesF (fun W pn xe tk _ => (pss_one (ps_set (i := 2) sc_law_lets.nd rfl (.inl rfl) (pe_ifExp (pt_cmpR op_isBl (pclX F_lets_found (hr.mono (by omega)) tk (pa_cons (pv 0) (pa_cons (pv 1) pa_nil))) pe_bl (by rfl)) pe_str pe_str)))) (fun a oe cls d pn _ _ => (pss_one (ps_set (i := 2) sc_law_lets.nd rfl (.inl rfl) pe_str))))
      (pss_one (ps_ret (pv 2))))), ?_⟩)
  · obtain ⟨ks, rv, pv, ls, rs, rfl, _⟩ := h
    rfl
  obtain ⟨ks, rv, pv, ls, rs, rfl, hR, hP, ⟨k1, k4, hw⟩, q⟩ := h
  refine ⟨_, rfl, _, rfl, ks, rv, pv, ls, rs, rfl, hR, hP, k4, hw, fun yes H1 s1 => ?_, fun no d H1 s1 => ?_⟩
  · refine ⟨_, _, rfl, rfl, _, rfl, iteT ⟨_, rfl, ?_⟩⟩
    have z := q H1 s1
    rw [if_pos yes] at z
    exact z
  · refine ⟨true, T.te, fun _ a na => ⟨_, rfl, ?_⟩, fun z => by cases z⟩
    have z := q H1 s1
    rw [if_neg (by rw [no]; exact Bool.false_ne_true)] at z
    exact z
/-! ### _law_bent: 0:_law_tape_here 1:_law_paper 2:_law_part 3:_law_row 4:_law_at 5:_law_way 6:_law_more -/
theorem sc_law_bent : FnScope ["_law_tape_here", "_law_paper", "_law_part", "_law_row", "_law_at", "_law_way", "_law_more"] ["_law_tape_here", "_law_paper"] (defScope KH.s_law_bent) := ⟨rfl, rfl, rfl, by decide +kernel, rfl, by decide +kernel, by decide +kernel⟩
def sp_law_bent : Sp := fun vs H Q _ => ∃ (t l : Addr) (pv : V) (ls rs : List Int) (c : Nat), vs = [.ref t, pv] ∧ TapeAt H t l c ∧ PapAt H ls rs pv ∧ ls.length ≤ 8 ∧ rs.length ≤ 8 ∧ c + 4 ≤ 1000000 ∧
  ∀ (H' : Hp) (v : V) (ls' rs' : List Int), SB t H H' → TapeAt H' t l (c + 4) → PapAt H' ls' rs' v → Q v H'
theorem ok_law_bent (T : Txt w K mg) (F_law_next : Prm P w K mg base CX0 1 "_law_next" ["_law_tape_here", "_law_many"] sp_next) : Prm P w K mg base CX0 2 "_law_bent" ["_law_tape_here", "_law_paper"] sp_law_bent := by
  refine T.d_law_bent.ok sc_law_bent (fun vs H Q E h => ?_) (fun f cdv A outer s H vs Q E hr h => ⟨_, (pss_cons (ps_set (i := 2) sc_law_bent.nd rfl (.inl rfl) (pcl F_law_next (hr.mono (by omega)) (pa_cons (pv 0) (pa_cons pe_int pa_nil))))
      (pss_cons (ps_set (i := 3) sc_law_bent.nd rfl (.inl rfl) (pe_ix (ixT K) (pv 1) (pv 2) (fun _ _ => rfl)))
      (pss_cons (ps_set (i := 4) sc_law_bent.nd rfl (.inl rfl) (pcl F_law_next (hr.mono (by omega)) (pa_cons (pv 0) (pa_cons (pe_callB (call_max2 rfl) (by rfl) T.z_max (by decide +kernel) (pa_cons pe_int (pa_cons (pe_callB (lenC K) (by rfl) T.z_len (by decide +kernel) (pa_cons (pv 3) pa_nil)) pa_nil))) pa_nil))))
      (pss_cons (ps_set (i := 5) sc_law_bent.nd rfl (.inl rfl) (pcl F_law_next (hr.mono (by omega)) (pa_cons (pv 0) (pa_cons pe_int pa_nil))))
      (pss_mid (ps_if (pt_mid (PW.pt (pw_or (pt_cmpR (eqD K (hu := hr.units)) (pv 3) (pe_tup pa_nil) (by rfl)) (pw_or1 (pt_cmpR op_eq (pv 5) pe_int (by rfl)))))) (pss_one (ps_set (i := 3) sc_law_bent.nd rfl (.inl rfl) (pe_op (catT K) (pv 3) (pe_tup (pa_cons pe_int pa_nil))))) (pss_one (ps_if (pt_cmpR op_eq (pv 5) pe_int (by rfl)) (pss_one (ps_set (i := 3) sc_law_bent.nd rfl (.inl rfl) (pe_op (catT K) (pe_slice (slT K) (pv 3) po_none (po_some (pv 4))) (pe_slice (slT K) (pv 3) (po_some (pe_op op_add (pv 4) pe_int)) po_none)))) (pss_cons (ps_set (i := 6) sc_law_bent.nd rfl (.inl rfl) (pe_ix (ixL K) (pe_lst (pa_cons pe_int (pa_cons (pe_un un_neg pe_int) (pa_cons (pe_op op_add pe_int (pcl F_law_next (hr.mono (by omega)) (pa_cons (pv 0) (pa_cons pe_int pa_nil)))) pa_nil)))) (pe_op op_sub (pv 5) pe_int) (fun _ _ => rfl)))
      (pss_one (ps_set (i := 3) sc_law_bent.nd rfl (.inl rfl) (pe_op (catT K) (pe_op (catT K) (pe_slice (slT K) (pv 3) po_none (po_some (pv 4))) (pe_tup (pa_cons (pe_op op_add (pe_ix (ixT K) (pv 3) (pv 4) (fun _ _ => rfl)) (pv 6)) pa_nil))) (pe_slice (slT K) (pv 3) (po_some (pe_op op_add (pv 4) pe_int)) po_none))))))))
      (pss_one (ps_ret (pe_ifExp (pt_cmpR op_eq (pv 2) pe_int (by rfl)) (pe_tup (pa_cons (pv 3) (pa_cons (pe_ix (ixT K) (pv 1) pe_int (fun _ _ => rfl)) pa_nil))) (pe_tup (pa_cons (pe_ix (ixT K) (pv 1) pe_int (fun _ _ => rfl)) (pa_cons (pv 3) pa_nil))))))))))), ?_⟩)
  · obtain ⟨t, l, pv, ls, rs, c, rfl, _⟩ := h
    rfl
  obtain ⟨t, l, pv, ls, rs, c, rfl, hT, ⟨pt, a, b, rfl, hpt, ha, hb, la, lb⟩, ll, lr, hc, q⟩ := h
  refine ⟨_, rfl, t, l, 2, c, rfl, by omega, by omega, hT, by omega, fun x H1 hx s1 T1 => ?_⟩
  have k1 := hT.tk s1
  obtain ⟨rw', xs, hrow, hrw, hlen⟩ : ∃ (rw' : Addr) (xs : List Int), ([V.ref a, V.ref b])[x]? = some (.ref rw') ∧ H rw' = some (.tup (xs.map V.int)) ∧ xs.length ≤ 8 := by
    rcases (show x = 0 ∨ x = 1 by omega) with rfl | rfl
    · exact ⟨a, ls, rfl, ha, ll⟩
    · exact ⟨b, rs, rfl, hb, lr⟩
  refine ⟨_, rfl, _, rfl, pt, _, _, _, rfl, rfl, SqT.of (k1 _ _ hpt), atI_nat hrow, ?_⟩
  have hrw1 := k1 _ _ hrw
  refine ⟨_, rfl, _, rfl, rw', _, rfl, .inr (SqT.of hrw1), _, _, rfl, t, l, _, c + 1, rfl, ?_, ?_, T1, by omega, fun at' H2 hat s2 T2 => ?_⟩
  · rw [List.length_map]; split <;> omega
  · rw [List.length_map]; split <;> omega
  have k2 := T1.tk s2
  have hrw2 := k2 _ _ hrw1
  refine ⟨_, rfl, t, l, 5, c + 1 + 1, rfl, by omega, by omega, T2, by omega, fun wy H3 hwy s3 T3 => ?_⟩
  have k3 := T2.tk s3
  have hrw3 := k3 _ _ hrw2
  have s13 := s1.trans (s2.trans s3)
  have k13 := k1.trans (k2.trans k3)
  refine ⟨fun σ' H' => ∃ (r2 : Addr) (ys : List Int) (o : Option V), σ' = [some (.ref t), some (.ref pt), some (.int (x : Nat)), some (.ref r2), some (.int (at' : Nat)), some (.int (wy : Nat)), o] ∧ SB t H3 H' ∧ TapeAt H' t l (c + 4) ∧ H' r2 = some (.tup (ys.map V.int)) ∧ ys.length ≤ 20, ?_, ?_⟩
  · refine ⟨fun d H' => Same H3 H' ∧ (d = false → xs ≠ [] ∧ wy ≠ 0), ?_, ?_⟩
    · refine ⟨_, rfl, (by show 0 ≤ sizeLine; decide), fun e ne => ⟨_, _, .tup (SqT.of ((same_new ne _) _ _ hrw3)) (dp_int xs), .tup (SqT.of upd_same) .nil, shaped_tup_ints xs, shaped_tup_nil, _, rfl, ?_⟩⟩
      rw [eqv_tup_nil]
      have se := same_new ne (.tup [])
      refine ite2 (fun g => ⟨se, fun z => by cases z⟩) (fun g => ⟨_, rfl, rfl, _, rfl, se, fun g3 => ⟨fun z => ?_, fun z => ?_⟩⟩)
      · rw [z] at g
        exact g rfl
      · rw [z] at g3
        exact absurd g3 (by decide)
    rintro d H4 ⟨s4, hne⟩
    have T4 := T3.sm s4
    have hrw4 := s4 _ _ hrw3
    refine ite2 (fun g => ?_) (fun g => ?_)
    · refine ⟨_, rfl, (by show 1 ≤ sizeLine; decide), fun p np => ?_⟩
      have sp := same_new np (.tup [.int 0])
      exact cat_ints (ys := [0]) (sp _ _ hrw4) upd_same (by simp; omega) fun H5 c' zs s5 e5 l5 => ⟨c', zs, none, rfl, SB.of (s4.trans (sp.trans s5)), (T4.sm (sp.trans s5)).le (by omega), e5, by simp at l5; omega⟩
    obtain ⟨xne, hw0⟩ := hne (Bool.eq_false_iff.mpr g)
    have pos : 0 < xs.length := List.length_pos_iff.mpr xne
    rw [List.length_map] at hat
    have hat' : at' < xs.length := by split at hat <;> omega
    refine ⟨_, rfl, rfl, _, rfl, ite2 (fun g2 => ?_) (fun g2 => ?_)⟩
    · refine ⟨_, rfl, _, rfl, _, rfl, sl_ints hrw4 fun H5 b1 zs s5 e5 l5 => ?_⟩
      refine ⟨_, rfl, _, rfl, _, _, rfl, rfl, _, rfl, ?_⟩
      simp only [tNoPart]
      refine sl_ints (s5 _ _ hrw4) fun H6 b2 zs2 s6 e6 l6 => ?_
      exact cat_ints (s6 _ _ e5) e6 (by omega) fun H7 c' zs3 s7 e7 l7 => ⟨c', zs3, none, rfl, SB.of (s4.trans (s5.trans (s6.trans s7))), (T4.sm (s5.trans (s6.trans s7))).le (by omega), e7, by omega⟩
    · rw [intEq, decide_eq_true_eq] at g2
      have ei : ((wy : Nat) : Int) - 2 = ((wy - 2 : Nat) : Int) := by omega
      refine ⟨_, rfl, _, rfl, t, l, 5, c + 1 + 1 + 1, rfl, by omega, by omega, T4, by omega, fun y H5 hy s5 T5 => ⟨_, _, rfl, rfl, (by show 3 ≤ sizeLine; decide), fun p np => ?_⟩⟩
      have hrw5 := (T4.tk s5) _ _ hrw4
      obtain ⟨z, hz⟩ : ∃ z : Int, ([V.int 1, V.int (-1), V.int (1 + ((y : Nat) : Int))])[wy - 2]? = some (.int z) := by
        rcases (show wy - 2 = 0 ∨ wy - 2 = 1 ∨ wy - 2 = 2 by omega) with e | e | e <;> rw [e] <;> exact ⟨_, rfl⟩
      refine ⟨_, rfl, _, _, rfl, rfl, p, _, _, .int z, rfl, rfl, SqL.of upd_same, ?_, ?_⟩
      · show atI _ (((wy : Nat) : Int) - 2) = _
        rw [ei]
        exact atI_nat hz
      have s6 := same_new np (.lst [.int 1, .int (-1), .int (1 + ((y : Nat) : Int))])
      have hrw6 := s6 _ _ hrw5
      have T6 := T5.sm s6
      have s36 := (SB.of s4 : SB t H3 H4).trans (s5.trans (SB.of s6))
      refine ⟨_, rfl, _, rfl, _, rfl, sl_ints hrw6 fun H7 b1 zs s7 e7 l7 => ?_⟩
      have hrw7 := s7 _ _ hrw6
      refine ⟨_, rfl, _, rfl, rw', _, _, _, rfl, rfl, SqT.of hrw7, int_at hat', _, rfl, _, _, rfl, rfl, (by show 1 ≤ sizeLine; decide), fun p2 np2 => ?_⟩
      have s8 := same_new np2 (.tup [.int (xs.getD at' 0 + z)])
      refine cat_ints (ys := [xs.getD at' 0 + z]) (s8 _ _ e7) upd_same (by simp; omega) fun H9 c1 zs1 s9 e9 l9 => ?_
      have l9' : zs1.length ≤ xs.length + 1 := by simp at l9; omega
      refine ⟨_, rfl, _, rfl, _, _, rfl, rfl, _, rfl, ?_⟩
      simp only [tNoPart]
      refine sl_ints ((s8.trans s9) _ _ hrw7) fun H10 b2 zs2 s10 e10 l10 => ?_
      refine cat_ints (s10 _ _ e9) e10 (by omega) fun H11 c2 zs3 s11 e11 l11 => ?_
      have s7e := s7.trans (s8.trans (s9.trans (s10.trans s11)))
      exact ⟨c2, zs3, some (.int z), rfl, s36.trans (SB.of s7e), T6.sm s7e, e11, by omega⟩
  · rintro σ' H5 ⟨r2, ys, o, rfl, s5, T5, e5, l5⟩
    have k5 := T3.tk s5
    have kk := k13.trans k5
    have ss := s13.trans s5
    have e0 := kk _ _ hpt
    refine ⟨_, rfl, rfl, _, rfl, ite2 (fun g => ?_) (fun g => ?_)⟩
    · refine ⟨_, rfl, _, rfl, pt, _, _, _, rfl, rfl, SqT.of e0, atI_nat (j := 1) rfl, (by show 2 ≤ sizeLine; decide), fun p np => ?_⟩
      have sp := same_new np (.tup [.ref r2, .ref b])
      exact q _ _ ys rs (ss.trans (SB.of sp)) (T5.sm sp) ⟨p, r2, b, rfl, upd_same, sp _ _ e5, sp _ _ (kk _ _ hb), by omega, by omega⟩
    · refine ⟨_, rfl, pt, _, _, _, rfl, rfl, SqT.of e0, atI_nat (j := 0) rfl, _, rfl, (by show 2 ≤ sizeLine; decide), fun p np => ?_⟩
      have sp := same_new np (.tup [.ref a, .ref r2])
      exact q _ _ ls ys (ss.trans (SB.of sp)) (T5.sm sp) ⟨p, a, r2, rfl, upd_same, sp _ _ (kk _ _ ha), sp _ _ e5, by omega, by omega⟩
end
end KB
/-! # Walks 15: the papers tried -/
namespace KB
open PySem PySem.Spec PyProof.Rows L2 KM
theorem SB.wr {t a : Addr} {H H' : Hp} {o : HO} (s : SB t H H') (h : H a = none) : SB t H (L2.upd H' a o) := fun b u n q => by
  rw [upd_ne (ne_of_none q h)]
  exact s b u n q
/-- papers, all of them -/
def Paps (H : Hp) (fs : List V) : Prop := ∀ (i : Nat) (v : V), fs[i]? = some v → ∃ ls rs, PapAt H ls rs v ∧ ls.length ≤ 8 ∧ rs.length ≤ 8
theorem Paps.tk {H H' : Hp} {fs : List V} (s : TK H H') (h : Paps H fs) : Paps H' fs := fun i v e => by
  obtain ⟨ls, rs, p, a⟩ := h i v e
  exact ⟨ls, rs, p.tk s, a⟩
theorem Paps.snoc {H : Hp} {fs : List V} {v : V} {ls rs : List Int} (h : Paps H fs) (p : PapAt H ls rs v) (a : ls.length ≤ 8) (b : rs.length ≤ 8) : Paps H (fs ++ [v]) := fun i u e => by
  by_cases c : i < fs.length
  · rw [List.getElem?_append_left c] at e
    exact h i u e
  · rw [List.getElem?_append_right (by omega)] at e
    have c2 : i - fs.length = 0 := by
      have := (List.getElem?_eq_some_iff.mp e).1
      rw [List.length_singleton] at this
      omega
    rw [c2] at e
    obtain rfl : v = u := Option.some.inj e
    exact ⟨ls, rs, p, a, b⟩
section
variable {P : Program} {w : World} {K : PySem.W.Frag} {mg : Str → Option Value} {base : Heap}
/-! ### _law_papers: 0:_law_tape_here 1:_law_rules 2:_law_told 3:_law_many 4:_law_found 5:_law_k 6:_law_lows_here 7:_law_j 8:_law_paper -/
theorem sc_law_papers : FnScope ["_law_tape_here", "_law_rules", "_law_told", "_law_many", "_law_found", "_law_k", "_law_lows_here", "_law_j", "_law_paper"] ["_law_tape_here", "_law_rules", "_law_told"] (defScope KH.s_law_papers) := ⟨rfl, rfl, rfl, by decide +kernel, rfl, by decide +kernel, by decide +kernel⟩
def sp_law_papers : Sp := fun vs H Q _ => ∃ (t l : Addr) (ks : List Kd) (rv tv : V) (c : Nat), vs = [.ref t, rv, tv] ∧ TapeAt H t l c ∧ RAt H ks rv ∧ RulesOk ks ∧ c + 60 ≤ 1000000 ∧ (tv = .non ∨ ∃ ls rs, PapAt H ls rs tv ∧ ls.length ≤ 8 ∧ rs.length ≤ 8) ∧
  ∀ (H' : Hp) (p : Addr) (fs : List V), SB t H H' → TapeAt H' t l (c + 60) → p ≠ t → H' p = some (.lst fs) → fs.length ≤ 8 → (∀ (i : Nat) (v : V), fs[i]? = some v → ∃ ls rs, PapAt H' ls rs v) → Q (.ref p) H'
theorem ok_law_papers (T : Txt w K mg) (F_law_next : Prm P w K mg base CX0 1 "_law_next" ["_law_tape_here", "_law_many"] sp_next) (F_law_lows : Prm P w K mg base CX0 8 "_law_lows" ["_law_rules"] sp_greatest_lows)
    (F_law_bent : Prm P w K mg base CX0 2 "_law_bent" ["_law_tape_here", "_law_paper"] sp_law_bent) : Prm P w K mg base CX0 9 "_law_papers" ["_law_tape_here", "_law_rules", "_law_told"] sp_law_papers := by
  refine T.d_law_papers.ok sc_law_papers (fun vs H Q E h => ?_) (fun f cdv A outer s H vs Q E hr h => ⟨_, (pss_cons (ps_set (i := 3) sc_law_papers.nd rfl (.inl rfl) (pe_callB (lenC K) (by rfl) T.z_len (by decide +kernel) (pa_cons (pv 1) pa_nil)))
      (pss_cons (ps_set (i := 4) sc_law_papers.nd rfl (.inl rfl) (pe_op op_rep (pe_lst (pa_cons (pv 2) pa_nil)) (pe_callTy call_int1 (by rfl) T.z_int (by decide +kernel) (pa_cons (pe_cmpR op_notN (pv 2) pe_non (by rfl)) pa_nil))))
      (pss_cons (ps_for PassesOwn.never rfl (pi_range1 (by rfl) T.z_range (pa_cons pe_int pa_nil)) (pg_name (i := 5) sc_law_papers.nd rfl (Or.inl rfl)) (pss_cons (ps_set (i := 6) sc_law_papers.nd rfl (.inl rfl) (pe_mid (pe_ifExp (pt_cmpR op_lt (pv 5) pe_int (by rfl)) (pcl F_law_lows (hr.mono (by omega)) (pa_cons (pv 1) pa_nil)) (pe_callTy (tupC K) (by rfl) T.z_tuple (by decide +kernel) (pa_cons (pe_lc (own := [("_law_j", 7)]) (g := gName 7) (by rfl) sc_law_papers.nd (pi_range1 (by rfl) T.z_range (pa_cons (pv 3) pa_nil)) (blkOk_by (by kernel_rfl)) (fun _ _ _ _ _ => pg_name (i := 7) sc_law_papers.nd rfl (Or.inl rfl)) (fun _ _ _ _ _ => pts_nil) (fun _ _ _ _ _ => (pcl F_law_next (hr.mono (by omega)) (pa_cons (pv 0) (pa_cons pe_int pa_nil))))) pa_nil)))))
      (pss_one (ps_expr (pe_bm PySem.F.plainAttrs_list PySem.F.slot_list_append PySem.F.type_list_append mt_append (pv 4) (pa_cons (pe_tup (pa_cons (pv 6) (pa_cons (pe_callTy (tupC K) (by rfl) T.z_tuple (by decide +kernel) (pa_cons (pe_lc (own := [("_law_j", 7)]) (g := gName 7) (by rfl) sc_law_papers.nd (pi_range1 (by rfl) T.z_range (pa_cons (pv 3) pa_nil)) (blkOk_by (by kernel_rfl)) (fun _ _ _ _ _ => pg_name (i := 7) sc_law_papers.nd rfl (Or.inl rfl)) (fun _ _ _ _ _ => pts_nil) (fun _ _ _ _ _ => (pcl F_law_next (hr.mono (by omega)) (pa_cons (pv 0) (pa_cons pe_int pa_nil))))) pa_nil)) pa_nil))) pa_nil))))))
      (pss_one (ps_ret (pe_op op_cat (pv 4) (pe_lc (own := [("_law_paper", 8)]) (g := gName 8) (by rfl) sc_law_papers.nd (piL K (hl := (pv 4))) (blkOk_by (by kernel_rfl)) (fun _ _ _ _ _ => pg_name (i := 8) sc_law_papers.nd rfl (Or.inl rfl)) (fun _ _ _ _ _ => pts_nil) (fun _ _ _ _ _ => (pcl F_law_bent (hr.mono (by omega)) (pa_cons (pv 0) (pa_cons (pv 8) pa_nil))))))))))), ?_⟩)
  · obtain ⟨t, l, ks, rv, tv, c, rfl, _⟩ := h
    rfl
  obtain ⟨t, l, ks, rv, tv, c, rfl, hT, hR, hOk, hc, htv, q⟩ := h
  obtain ⟨r, us, rfl, hr', hks⟩ := id hR
  obtain ⟨k1, k4, hw⟩ := id hOk
  have hlen := hks.len
  refine ⟨_, rfl, r, us, rfl, .inr (SqT.of hr'), ?_⟩
  refine ⟨_, rfl, (by show 1 ≤ sizeLine; decide), fun p0 np0 => ?_⟩
  refine ⟨_, rfl, rfl, .inr ⟨_, rfl, p0, _, _, rfl, rfl, upd_same, (ifB _).1, (ifB _).2.1, small (by have := (ifB (!decide (tv = .non))).2.2; simp only [List.length_singleton, Nat.one_mul]; omega), fun pf npf => ?_⟩⟩
  rw [rep_if]
  have g0 := same_new np0 (.lst [tv])
  have n0 : H pf = none := g0.free npf
  have ne := hT.ne n0
  have s1 : SB t H (upd (upd H p0 (.lst [tv])) pf (.lst (if (!decide (tv = .non)) = true then [tv] else []))) := (SB.of g0).wr n0
  have T1 : TapeAt (upd (upd H p0 (.lst [tv])) pf (.lst (if (!decide (tv = .non)) = true then [tv] else []))) t l c := (hT.sm g0).upd ne.1 ne.2
  have e1 : (upd (upd H p0 (.lst [tv])) pf (.lst (if (!decide (tv = .non)) = true then [tv] else []))) pf = some (.lst (if (!decide (tv = .non)) = true then [tv] else [])) := upd_same
  have t1 := hT.tk s1
  generalize upd (upd H p0 (.lst [tv])) pf (.lst (if (!decide (tv = .non)) = true then [tv] else [])) = H1 at *
  obtain ⟨fs0, efs, lfs, pfs⟩ : ∃ fs0, (if (!decide (tv = .non)) = true then [tv] else []) = fs0 ∧ fs0.length ≤ 1 ∧ Paps H1 fs0 := by
    refine ⟨_, rfl, by split <;> simp, ?_⟩
    rcases htv with rfl | ⟨ls, rs, hp, a1, a2⟩
    · exact fun i v e => by simp at e
    · intro i v e
      have hv : v = tv := by
        split at e
        · cases i with
          | zero => exact (Option.some.inj e).symm
          | succ i => simp at e
        · simp at e
      rw [hv]
      exact ⟨ls, rs, hp.tk t1, a1, a2⟩
  rw [efs] at e1
  refine ⟨3, rfl, by decide, by decide, ?_⟩
  refine for_range (n := 3) (fun i σ' H' => ∃ (fs : List V) (o1 o2 : Option V), σ' = [some (.ref t), some (.ref r), some tv, some (.int (us.length : Nat)), some (.ref pf), o1, o2, none, none] ∧ SB t H H' ∧ TapeAt H' t l (c + 8 * i) ∧ H' pf = some (.lst fs) ∧ fs.length ≤ 1 + i ∧ Paps H' fs)
    ⟨fs0, none, none, rfl, s1, T1, e1, lfs, pfs⟩ ?_ ?_
  · rintro i σ' H2 hi ⟨fs, o1, o2, rfl, s2, T2, e2, l2, p2⟩
    rw [Int.zero_add]
    have t2 := hT.tk s2
    refine ⟨fun v H' => ∃ (b : Addr) (xs : List Int), v = .ref b ∧ SB t H2 H' ∧ TapeAt H' t l (c + 8 * i + 4) ∧ H' b = some (.tup (xs.map V.int)) ∧ xs.length ≤ 4, ?_, ?_⟩
    · refine ⟨_, rfl, _, _, rfl, rfl, _, rfl, ite2 (fun g => ?_) (fun g => ?_)⟩
      · refine ⟨_, rfl, ks, _, rfl, hR.tk t2, hOk, fun H3 v s3 hL => ?_⟩
        obtain ⟨⟨pl, rfl, hpl⟩, h20⟩ := hL
        exact ⟨pl, (glow ks).map Int.ofNat, rfl, SB.of s3, (T2.sm s3).le (by omega), by rw [← nV_ints]; exact hpl, by rw [List.length_map, glow_len]; exact k4⟩
      · refine ⟨_, rfl, (us.length : Nat), rfl, by omega, by omega, fun D hD => ?_⟩
        refine rt_range (k := us.length) (b := 1) (fun _ v _ => ∃ d : Int, v = .int d) (by rw [Int.toNat_natCast]) (fun i v H H' _ h => h) hD T2 (by omega) (fun _ => rfl) (fun j H3 hj s3 T3 Y hY => ?_) (fun H3 acc s3 T3 e3 el hr3 => ?_)
        · exact ⟨_, rfl, t, l, 3, _, rfl, by omega, by omega, T3, by omega, fun x H4 hx s4 T4 => hY _ _ s4 (T4.le (by omega)) ⟨_, rfl⟩⟩
        · obtain ⟨xs, rfl⟩ := ints_of hr3
          rw [List.length_map] at el
          refine ⟨D, _, rfl, .inl ⟨SqL.of e3, fun pn nn => ⟨pn, xs, rfl, s3.trans (SB.new nn), (T3.le (by omega)).sm (same_new nn _), upd_same, by omega⟩⟩⟩
    rintro v H3 ⟨b, xs, rfl, s3, T3, eb, lb⟩
    have t3 := T2.tk s3
    have e3 := s3 _ _ ne.1 e2
    refine ⟨_, rfl, .inl ⟨rfl, _, SqL.of e3⟩, _, rfl, _, rfl, (us.length : Nat), rfl, by omega, by omega, fun D hD => ?_⟩
    refine rt_range (k := us.length) (b := 1) (fun _ v _ => ∃ d : Int, v = .int d) (by rw [Int.toNat_natCast]) (fun i v H H' _ h => h) hD T3 (by omega) (fun _ => rfl) (fun j H4 hj s4 T4 Y hY => ?_) (fun H4 acc s4 T4 e4 el hr4 => ?_)
    · exact ⟨_, rfl, t, l, 4, _, rfl, by omega, by omega, T4, by omega, fun x H5 hx s5 T5 => hY _ _ s5 (T5.le (by omega)) ⟨_, rfl⟩⟩
    · obtain ⟨ys, rfl⟩ := ints_of hr4
      rw [List.length_map] at el
      refine ⟨D, _, rfl, .inl ⟨SqL.of e4, fun pn nn => ⟨(by show 2 ≤ sizeLine; decide), fun pp npp => ?_⟩⟩⟩
      have g5 := same_new nn (.tup (ys.map V.int))
      have g6 := same_new npp (.tup [.ref b, .ref pn])
      have eb4 := (T3.tk s4) _ _ eb
      have hf := (g5.trans g6) _ _ (s4 _ _ ne.1 e3)
      have s6 : SB t H3 _ := s4.trans (SB.of (g5.trans g6))
      have t6 := T3.tk s6
      have T6 := (T4.sm g5).sm g6
      have pap : PapAt (upd (upd H4 pn (.tup (ys.map V.int))) pp (.tup [.ref b, .ref pn])) xs ys (.ref pp) := ⟨pp, b, pn, rfl, upd_same, (g5.trans g6) _ _ eb4, g6 _ _ upd_same, by omega, by omega⟩
      have t7 : TK _ _ := TK.lst (ys := fs ++ [.ref pp]) hf
      refine ⟨pf, _, _, rfl, rfl, hf, small1000 (by omega), fs ++ [.ref pp], _, some (.ref b), rfl, ((s2.trans s3).trans s6).wr n0, (T6.upd ne.1 ne.2).le (by omega), upd_same, by rw [List.length_append, List.length_singleton]; omega, ?_⟩
      exact ((p2.tk (t3.trans t6)).snoc pap (by omega) (by omega)).tk t7
  · rintro σ' H2 ⟨fs, o1, o2, rfl, s2, T2, e2, l2, p2⟩
    refine ⟨_, rfl, _, rfl, pf, rfl, ⟨_, SqL.of e2⟩, fun D hD => ?_⟩
    refine rt_list (b := 4) (fun _ v H' => ∃ ls rs, PapAt H' ls rs v) (fun i v H H' tk ⟨ls, rs, h⟩ => ⟨ls, rs, h.tk tk⟩) hD e2 ne.1 T2 (by omega) (fun _ => rfl) (fun j x H3 hx s3 T3 Y hY => ?_) (fun H3 acc s3 T3 e3 el hr3 => ?_)
    · obtain ⟨ls, rs, hp, a1, a2⟩ := p2 j x hx
      have hj := (List.getElem?_eq_some_iff.mp hx).1
      exact ⟨_, rfl, _, rfl, t, l, x, ls, rs, _, rfl, T3, hp.tk (T2.tk s3), a1, a2, by omega, fun H4 v ls' rs' s4 T4 h4 => hY _ _ s4 (T4.le (by omega)) ⟨ls', rs', h4⟩⟩
    · refine ⟨pf, D, _, _, rfl, rfl, s3 _ _ ne.1 e2, e3, small (by omega), fun p np => ?_⟩
      have nep := (T3.ne np).1
      have tk := (T2.tk s3).trans (TK.new (o := .lst (fs ++ acc)) np)
      refine q _ p (fs ++ acc) ((s2.trans s3).trans (SB.new np)) ((T3.sm (same_new np _)).le (by omega)) nep upd_same (by rw [List.length_append]; omega) fun i v e => ?_
      by_cases c : i < fs.length
      · rw [List.getElem?_append_left c] at e
        obtain ⟨ls, rs, hp, _⟩ := p2 i v e
        exact ⟨ls, rs, hp.tk tk⟩
      · rw [List.getElem?_append_right (by omega)] at e
        obtain ⟨ls, rs, hp⟩ := hr3 _ v e
        exact ⟨ls, rs, hp.tk (TK.new np)⟩
end
end KB
/-! # Walks 16: the law -/
namespace KB
open PySem PySem.Spec PyProof.Rows L2 KM
theorem stands_isEmpty {L : List Nat} {k : Kd} : (((insides k).filter fun y => decide (low L y = 0)).map dat).isEmpty = stands L k := by
  have a := isEmpty_filter (fun y => decide (low L y = 0)) dat (insides k)
  rw [stands_none] at a
  cases h : (((insides k).filter fun y => decide (low L y = 0)).map dat).isEmpty <;> rw [h] at a <;> cases g : stands L k <;> rw [g] at a <;> first | rfl | cases a
theorem KsAt.of {H : Hp} {p : Kd → Prop} : ∀ {acc : List V}, (∀ (i : Nat) (v : V), acc[i]? = some v → ∃ k, KAt H k v ∧ p k) → ∃ ks, KsAt H ks acc ∧ ks.length = acc.length ∧ ∀ k ∈ ks, p k
  | [], _ => ⟨[], trivial, rfl, fun k h => by cases h⟩
  | v :: acc, h => by
    obtain ⟨k, hk, pk⟩ := h 0 v rfl
    obtain ⟨ks, h1, h2, h3⟩ := KsAt.of (acc := acc) fun i v e => h (i + 1) v e
    refine ⟨k :: ks, ⟨hk, h1⟩, by rw [List.length_cons, List.length_cons, h2], fun x hx => ?_⟩
    rcases List.mem_cons.mp hx with rfl | hx
    · exact pk
    · exact h3 x hx
section
variable {P : Program} {w : World} {K : PySem.W.Frag} {mg : Str → Option Value} {base : Heap}
/-! ### _law_right: 0:_law_tape_here 1:_law_rules 2:_law_told 3:_law_founded 4:_law_numbers 5:_law_paper 6:_law_found 7:_law_kind 8:_law_lows_here 9:_law_due 10:_law_part -/
theorem sc_law_right : FnScope ["_law_tape_here", "_law_rules", "_law_told", "_law_founded", "_law_numbers", "_law_paper", "_law_found", "_law_kind", "_law_lows_here", "_law_due", "_law_part"] ["_law_tape_here", "_law_rules"] (defScope KH.s_law_right) := ⟨rfl, rfl, rfl, by decide +kernel, rfl, by decide +kernel, by decide +kernel⟩
def sp_law_right : Sp := fun vs H Q _ => ∃ (t l : Addr) (ks : List Kd) (rv : V) (c : Nat), vs = [.ref t, rv] ∧ TapeAt H t l c ∧ RAt H ks rv ∧ RulesOk ks ∧ (∀ k ∈ ks, dep k ≤ 4) ∧ c + 200 ≤ 1000000 ∧
  ∀ (H' : Hp), SB t H H' → TapeAt H' t l (c + 200) → Q (.bl true) H'
theorem ok_law_right (T : Txt w K mg) (F_found_told : Prm P w K mg base CX0 13 "found_told" ["rules"] sp_found_told) (F_is_right : Prm P w K mg base CX0 14 "is_right" ["rules", "kind"] sp_is_right)
    (F_law_is_founded : Prm P w K mg base CX0 15 "_law_is_founded" ["_law_rules"] sp_law_is_founded) (F_law_lets : Prm P w K mg base CX0 15 "_law_lets" ["_law_rules", "_law_paper"] sp_law_lets)
    (F_law_steps : Prm P w K mg base CX0 8 "_law_steps" ["_law_rules", "_law_turns"] sp_law_steps) (F_law_papers : Prm P w K mg base CX0 9 "_law_papers" ["_law_tape_here", "_law_rules", "_law_told"] sp_law_papers)
    (F_law_is_so : Prm P w K mg base CX0 8 "_law_is_so" ["_law_rules", "_law_lows_here", "_law_numbers"] sp_law_is_so) (F_law_wild : Prm P w K mg base CX0 5 "_law_wild" ["_law_tape_here", "_law_many", "_law_deep"] (sp_law_wild' 4))
    (F_law_lows : Prm P w K mg base CX0 8 "_law_lows" ["_law_rules"] sp_greatest_lows) (F_law_insides : Prm P w K mg base CX0 7 "_law_insides" ["_law_kind"] (sp_law_insides 6)) (F_law_low : Prm P w K mg base CX0 7 "_law_low" ["_law_lows_here", "_law_kind"] (sp_low_of 6)) :
    Prm P w K mg base CX0 16 "_law_right" ["_law_tape_here", "_law_rules"] sp_law_right := by
  refine T.d_law_right.ok sc_law_right (fun vs H Q E h => ?_) (fun f cdv A outer s H vs Q E hr h => ⟨_, (pss_cons (ps_set (i := 2) sc_law_right.nd rfl (.inl rfl) (pe_mid (pcl F_found_told (hr.mono (by omega)) (pa_cons (pv 1) pa_nil))))
      (pss_cons (ps_set (i := 3) sc_law_right.nd rfl (.inl rfl) (pcl F_law_is_founded (hr.mono (by omega)) (pa_cons (pv 1) pa_nil)))
      (pss_cons (ps_if (pt_mid (PW.pt (pw_or (pt_cmpR op_ne (pe_cmpR op_notN (pv 2) pe_non (by rfl)) (pv 3) (by rfl)) (pw_or1 (PW.pt (pw_and (pt_val (pv 3)) (pw_and1 (pt_cmpR op_ne (pcl F_law_lets (hr.mono (by omega)) (pa_cons (pv 1) (pa_cons (pv 2) pa_nil))) pe_str (by rfl))))))))) (pss_one (ps_ret pe_bl)) pss_nil)
      (pss_cons (ps_set (i := 4) sc_law_right.nd rfl (.inl rfl) (pcl F_law_steps (hr.mono (by omega)) (pa_cons (pv 1) (pa_cons (pe_op op_add (pe_op op_mul pe_int (pe_callB (lenC K) (by rfl) T.z_len (by decide +kernel) (pa_cons (pv 1) pa_nil))) pe_int) pa_nil))))
      (pss_cons (ps_for PassesOwn.never rfl (piL K (hl := (pcl F_law_papers (hr.mono (by omega)) (pa_cons (pv 0) (pa_cons (pv 1) (pa_cons (pv 2) pa_nil)))))) (pg_name (i := 5) sc_law_right.nd rfl (Or.inl rfl)) (pss_cons (ps_set (i := 6) sc_law_right.nd rfl (.inl rfl) (pcl F_law_lets (hr.mono (by omega)) (pa_cons (pv 1) (pa_cons (pv 5) pa_nil))))
      (pss_cons (ps_if (pt_mid (PW.pt (pw_or (pt_cmpR op_eq (pv 6) pe_str (by rfl)) (pw_or1 (PW.pt (pw_and (pt_cmpR op_eq (pv 6) pe_str (by rfl)) (pw_and1 (pt_not (pt_val (pv 3)))))))))) (pss_one (ps_ret pe_bl)) pss_nil)
      (pss_one (ps_if (pt_mid (PW.pt (pw_and (pt_cmpR op_eq (pv 6) pe_str (by rfl)) (pw_and1 (pt_not (pt_val (pcl F_law_is_so (hr.mono (by omega)) (pa_cons (pv 1) (pa_cons (pe_ix (ixT K) (pv 5) pe_int (fun _ _ => rfl)) (pa_cons (pv 4) pa_nil)))))))))) (pss_one (ps_ret pe_bl)) pss_nil)))))
      (pss_cons (ps_set (i := 7) sc_law_right.nd rfl (.inl rfl) (pcl F_law_wild (hr.mono (by omega)) (pa_cons (pv 0) (pa_cons (pe_callB (lenC K) (by rfl) T.z_len (by decide +kernel) (pa_cons (pv 1) pa_nil)) (pa_cons pe_int pa_nil)))))
      (pss_cons (ps_set (i := 8) sc_law_right.nd rfl (.inr rfl) (pcl F_law_lows (hr.mono (by omega)) (pa_cons (pv 1) pa_nil)))
      (pss_cons (ps_set (i := 9) sc_law_right.nd rfl (.inl rfl) (pe_mid (pe_and (pv 3) (pe_one (pe_cmpR (eqD K (hu := hr.units)) (pe_lc (own := [("_law_part", 10)]) (g := gName 10) (by rfl) sc_law_right.nd (piL K (hl := (pcl F_law_insides (hr.mono (by omega)) (pa_cons (pv 7) pa_nil)))) (blkOk_by (by kernel_rfl)) (fun _ _ _ _ _ => pg_name (i := 10) sc_law_right.nd rfl (Or.inl rfl)) (fun _ _ _ _ _ => (pts_one (pt_cmpR op_eq (pcl F_law_low (hr.mono (by omega)) (pa_cons (pv 8) (pa_cons (pv 10) pa_nil))) pe_int (by rfl)))) (fun _ _ _ _ _ => (pv 10))) (pe_lst pa_nil) (by rfl))))))
      (pss_one (ps_ret (pe_cmpR op_eq (pe_callB KR.cr_reprB (by rfl) T.z_repr (by decide +kernel) (pa_cons (pcl F_is_right (hr.mono (by omega)) (pa_cons (pv 1) (pa_cons (pv 7) pa_nil))) pa_nil)) (pe_callB KR.cr_reprB (by rfl) T.z_repr (by decide +kernel) (pa_cons (pv 9) pa_nil)) (by rfl)))))))))))), ?_⟩)
  · obtain ⟨t, l, ks, rv, c, rfl, _⟩ := h
    rfl
  obtain ⟨t, l, ks, rv, c, rfl, hT, hR, hOk, hd4, hc, q⟩ := h
  obtain ⟨r, us, rfl, hr', hks⟩ := id hR
  obtain ⟨k1, k4, hw⟩ := id hOk
  have hW := wfs_of hOk
  have hlen := hks.len
  refine ⟨fun v H1 => Same H H1 ∧ ((v = .non ∧ founded ks = false) ∨ ∃ (a : Addr) (ls rs : List Int), v = .ref a ∧ PapAt H1 ls rs v ∧ lets ks ls rs = true ∧ founded ks = true), ?_, ?_⟩
  · exact ⟨_, rfl, ks, _, rfl, hR, hOk, fun hf H1 s1 => ⟨s1, .inl ⟨rfl, hf⟩⟩, fun hf H1 a ls rs s1 hp hl => ⟨s1, .inr ⟨a, ls, rs, rfl, hp, hl, hf⟩⟩⟩
  rintro tv H1 ⟨s1, htv⟩
  refine ⟨_, rfl, ks, _, rfl, hR.tk (TK.of s1), hOk, fun H2 s2 => ?_⟩
  have s12 := s1.trans s2
  refine ⟨fun b H' => b = false ∧ Same H2 H', ?_, ?_⟩
  · rcases htv with ⟨rfl, hf⟩ | ⟨a, ls, rs, rfl, hp, hl, hf⟩
    · rw [hf]
      refine ⟨_, rfl, rfl, _, rfl, rfl, _, rfl, ite2 (fun g => by simp at g) (fun _ => ?_)⟩
      exact ⟨_, rfl, false, rfl, iteF ⟨rfl, Same.refl _⟩⟩
    · rw [hf]
      refine ⟨_, rfl, rfl, _, rfl, rfl, _, rfl, ite2 (fun g => by simp at g) (fun _ => ?_)⟩
      refine ⟨_, rfl, true, rfl, iteT ⟨_, rfl, _, rfl, ks, _, _, ls, rs, rfl, hR.tk (TK.of s12), hp.tk (TK.of s2), hOk, fun H3 s3 => ⟨rfl, _, rfl, ?_⟩⟩⟩
      rw [if_pos hl]
      exact ⟨by simp, s3⟩
  rintro b H3 ⟨rfl, s3⟩
  refine iteF ?_
  have s13 := s12.trans s3
  -- the numbers
  refine ⟨_, rfl, _, rfl, r, us, rfl, .inr (SqT.of (s13 _ _ hr')), _, _, rfl, rfl, .inl ⟨by decide, by decide⟩, _, _, rfl, rfl, ks, _, 4 * ks.length + 1, ?_, hR.tk (TK.of s13), hOk, hd4, by omega, fun H4 nv s4 hN => ?_⟩
  · rw [hlen]
    show [V.ref r, V.int ((4 : Int) * ((ks.length : Nat) : Int) + 1)] = _
    rw [show (4 : Int) * ((ks.length : Nat) : Int) + 1 = ((4 * ks.length + 1 : Nat) : Int) by omega]
  have s14 := s13.trans s4
  have T4 := hT.sm s14
  have hR4 := hR.tk (TK.of s14)
  -- the papers
  refine ⟨_, rfl, _, rfl, _, rfl, t, l, ks, _, tv, c, rfl, T4, hR4, hOk, by omega, ?_, fun H5 p fs s5 T5 np e5 few hfs => ⟨p, rfl, ⟨_, SqL.of e5⟩, ?_⟩⟩
  · rcases htv with ⟨h, _⟩ | ⟨a, ls, rs, _, hp, hl, _⟩
    · exact .inl h
    · refine .inr ⟨ls, rs, hp.tk (TK.of (s2.trans (s3.trans s4))), ?_⟩
      unfold lets shapeOk at hl
      rw [Bool.and_eq_true, Bool.and_eq_true] at hl
      have z1 := rowOk_len hl.1.1
      have z2 := rowOk_len hl.1.2
      exact ⟨by omega, by omega⟩
  have hN5 := hN.sb s5 T4
  have hR5 := hR4.tk (T4.tk s5)
  have hr5 := (T4.tk s5) _ _ (s14 _ _ hr')
  have s05 : SB t H H5 := (SB.of s14).trans s5
  refine for_list (xs := fs) (fun i σ' H' => ∃ o1 o2 : Option V, σ' = [some (.ref t), some (.ref r), some tv, some (.bl (founded ks)), some nv, o1, o2, none, none, none, none] ∧ Same H5 H') ⟨none, none, rfl, Same.refl _⟩ (fun i σ' H' _ ⟨_, _, _, s⟩ => SqL.of (s _ _ e5)) ?_ ?_
  · rintro i x σ' H6 hx ⟨o1, o2, rfl, s6⟩
    obtain ⟨ls, rs, hp⟩ := hfs i x hx
    have hR6 := hR5.tk (TK.of s6)
    have hp6 := hp.tk (TK.of s6)
    refine ⟨_, rfl, _, rfl, ks, _, _, ls, rs, rfl, hR6, hp6, hOk, fun H7 s7 => ?_⟩
    have hp7 := hp6.tk (TK.of s7)
    have s57 := s6.trans s7
    by_cases hl : lets ks ls rs = true
    · rw [if_pos hl]
      have hf := (lets_out hl).founded hW
      rw [hf]
      refine ⟨fun b H' => b = false ∧ H' = H7, ?_, ?_⟩
      · refine ⟨_, rfl, rfl, _, rfl, ite2 (fun g => absurd g (by decide +kernel)) (fun _ => ?_)⟩
        refine ⟨_, rfl, rfl, _, rfl, ite2 (fun _ => ?_) (fun _ => ⟨rfl, rfl⟩)⟩
        exact ⟨_, rfl, true, rfl, rfl, rfl⟩
      rintro b H7 ⟨rfl, rfl⟩
      refine iteF ?_
      refine ⟨fun b H' => b = false ∧ Same H7 H', ?_, ?_⟩
      · refine ⟨_, rfl, rfl, _, rfl, ite2 (fun _ => ?_) (fun g => absurd (by decide +kernel) g)⟩
        obtain ⟨pt, a, b, rfl, hpt, ha, hb, _⟩ := hp7
        refine ⟨_, rfl, _, rfl, pt, _, _, _, rfl, rfl, SqT.of hpt, atI_nat (j := 0) rfl, _, rfl, ks, _, nv, a, ls, rs, rfl, hR5.tk (TK.of s57), hOk, hd4, hl, ha, hN5.sm s57, fun H8 s8 => ?_⟩
        exact ⟨true, rfl, rfl, s8⟩
      rintro b H' ⟨rfl, s8⟩
      exact iteF ⟨_, _, rfl, s57.trans s8⟩
    · rw [if_neg hl]
      refine ⟨fun b H' => b = false ∧ H' = H7, ?_, ?_⟩
      · refine ⟨_, rfl, rfl, _, rfl, ite2 (fun g => absurd g (by decide +kernel)) (fun _ => ?_)⟩
        exact ⟨_, rfl, rfl, _, rfl, ite2 (fun g => absurd g (by decide +kernel)) (fun _ => ⟨rfl, rfl⟩)⟩
      rintro b H7 ⟨rfl, rfl⟩
      refine iteF ?_
      refine ⟨fun b H' => b = false ∧ H' = H7, ?_, ?_⟩
      · exact ⟨_, rfl, rfl, _, rfl, ite2 (fun g => absurd g (by decide +kernel)) (fun _ => ⟨rfl, rfl⟩)⟩
      rintro b H7 ⟨rfl, rfl⟩
      exact iteF ⟨_, _, rfl, s57⟩
  · rintro σ' H6 ⟨o1, o2, rfl, s6⟩
    have T6 := T5.sm s6
    have hr6 := s6 _ _ hr5
    refine ⟨_, rfl, _, rfl, r, us, rfl, .inr (SqT.of hr6), 3, by decide, t, l, us.length, c + 60, rfl, by omega, by omega, T6, (by show c + 60 + 108 ≤ 1000000; omega), by decide, fun H7 v k s7 T7 hk wk dk => ?_⟩
    rw [hlen] at wk
    have T7' : TapeAt H7 t l (c + 60 + 108) := T7
    have t7 := T6.tk s7
    have hR7 := (hR5.tk (TK.of s6)).tk t7
    refine ⟨_, rfl, ks, _, rfl, hR7, hOk, fun H8 lv s8 hL => ?_⟩
    have hk8 := hk.tk (TK.of s8)
    have hR8 := hR7.tk (TK.of s8)
    refine ⟨fun v H' => v = .bl (founded ks && stands (glow ks) k) ∧ Same H8 H', ?_, ?_⟩
    · refine ⟨_, rfl, _, rfl, ite2 (fun hf => ?_) (fun hf => ?_)⟩
      · rw [hf, Bool.true_and]
        refine ⟨_, rfl, k, v, rfl, hk8, by omega, by omega, fun H9 p gs s9 e9 k9 => ⟨p, rfl, ⟨_, SqL.of e9⟩, fun D hD => ?_⟩⟩
        have f1 := insides_few (k := k) (by omega)
        have glen := k9.len
        refine pc_list (fun j => if decide (low (glow ks) ((insides k).getD j .void) = 0) = true then gs[j]? else none) hD (SqL.of e9) (by omega) (fun _ => rfl) (fun j y H10 hy s10 Y N hY hN => ?_) (fun H10 s10 e => ?_)
        · obtain ⟨hj, ky⟩ := (k9.tk (TK.of s10)).get hy
          have memj := getD_mem (d := Kd.void) hj
          refine ⟨_, rfl, _, rfl, glow ks, _, _, y, rfl, hL.sm (s9.trans s10), ky, by rw [glow_len]; exact insides_wf wk _ memj, by have := insides_dep _ memj; omega, fun H11 s11 => ⟨rfl, _, rfl, ite2 (fun c => ?_) (fun c => ?_)⟩⟩
          · rw [intEq, decide_eq_true_eq] at c
            exact ⟨_, rfl, hY _ _ (by rw [decide_eq_true (by omega), if_pos rfl]; exact hy) s11⟩
          · rw [intEq, decide_eq_true_eq] at c
            exact hN _ (by rw [decide_eq_false (by omega), if_neg Bool.false_ne_true]) s11
        · have kf := fm_ks (p := fun y => decide (low (glow ks) y = 0)) (k9.tk (TK.of s10)) (fun j => if decide (low (glow ks) ((insides k).getD j .void) = 0) = true then gs[j]? else none) (fun j v hv => by simp only [hv])
          rw [glen] at e
          refine ⟨Nat.zero_le _, fun e0 ne => ⟨_, .list [], .lst (SqL.of ((same_new ne _) _ _ e)) (kf.tk (TK.new ne)).dp, .lst (SqL.of upd_same) .nil, shapedKs (fun z hz => by
            have := insides_dep _ (List.mem_filter.mp hz).1
            omega), shapedNil, ?_⟩⟩
          rw [eqvNil, stands_isEmpty]
          exact ⟨rfl, s9.trans (s10.trans (same_new ne _))⟩
      · rw [Bool.eq_false_iff.mpr hf, Bool.false_and]
        exact ⟨rfl, Same.refl _⟩
    rintro v' H9 ⟨rfl, s9⟩
    refine ⟨_, rfl, _, rfl, ks, k, _, v, rfl, hR8.tk (TK.of s9), hOk, hk8.tk (TK.of s9), wk, by omega, fun H10 s10 => ⟨_, rfl, ?_⟩⟩
    refine ⟨_, rfl, _, rfl, rfl, ?_⟩
    rw [decide_eq_true rfl]
    exact q _ (s05.trans ((SB.of s6).trans (s7.trans (SB.of (s8.trans (s9.trans s10)))))) ((T7'.sm (s8.trans (s9.trans s10))).le (by omega))
end
end KB
/-! # Walks 17: the law itself -/
namespace KB
open PySem PySem.Spec PyProof.Rows L2 KM
section
variable {P : Program} {w : World} {K : PySem.W.Frag} {mg : Str → Option Value} {base : Heap}
/-! ### law: 0:_law_script 1:_law_tape_here 2:_law_k 3:_law_many 4:_law_rules 5:_law_j -/
theorem sc_law : FnScope ["_law_script", "_law_tape_here", "_law_k", "_law_many", "_law_rules", "_law_j"] ["_law_script"] (defScope KH.s_law) := ⟨rfl, rfl, rfl, by decide +kernel, rfl, by decide +kernel, by decide +kernel⟩
def sp_law (K : PySem.W.Frag) : Sp := fun vs H Q _ => ∃ (a : Addr) (ns : List Int), vs = [.ref a] ∧ SqL K H a (ns.map V.int) ∧ ns.length ≤ 63 ∧ ∀ H', Q (.bl true) H'
theorem ok_law (T : Txt w K mg) : ∃ (f : Addr) (fd : FuncData), mg "law" = some (.ref f) ∧ (∀ (s : Shared) (v : Value), BindsTo s fd ⟨[v], []⟩ [("_law_script", v)]) ∧ ∀ (P : Program) (base : Heap), Prm P w K mg base CX0 1 "_law_tape" ["_law_script"] (sp_tape K) → Prm P w K mg base CX0 1 "_law_next" ["_law_tape_here", "_law_many"] sp_next →
    Prm P w K mg base CX0 2 "_law_back" ["_law_tape_here", "_law_many"] sp_law_back → Prm P w K mg base CX0 5 "_law_wild" ["_law_tape_here", "_law_many", "_law_deep"] (sp_law_wild' 4) →
    Prm P w K mg base CX0 16 "_law_right" ["_law_tape_here", "_law_rules"] sp_law_right → FnOk P w K mg base CX0 17 f fd ["_law_script"] (sp_law K) := by
  obtain ⟨f, fd, F, hm, _⟩ := T.d_law
  refine ⟨f, fd, hm, fun s v => FunD.bindsA (ps := ["_law_script"]) F (fun _ _ _ _ _ _ us hl => match us, hl with | [_], _ => rfl) s [v] rfl, fun P base F_law_tape F_law_next F_law_back F_law_wild F_law_right => ?_⟩
  refine F.ok sc_law (fun vs H Q E h => ?_) (fun cdv A outer s H vs Q E hr h => ⟨_, PSs.nox (pss_cons (ps_set (i := 1) sc_law.nd rfl (.inr rfl) (pcl F_law_tape (hr.mono (by omega)) (pa_cons (pv 0) pa_nil)))
      (pss_cons (ps_for PassesOwn.never rfl (pi_range1 (by rfl) T.z_range (pa_cons pe_int pa_nil)) (pg_name (i := 2) sc_law.nd rfl (Or.inl rfl)) (pss_cons (ps_set (i := 3) sc_law.nd rfl (.inr rfl) (pe_mid (pe_op op_add pe_int (pcl F_law_next (hr.mono (by omega)) (pa_cons (pv 1) (pa_cons pe_int pa_nil))))))
      (pss_mid (ps_if (pt_cmpR op_eq (pcl F_law_next (hr.mono (by omega)) (pa_cons (pv 1) (pa_cons pe_int pa_nil))) pe_int (by rfl)) (pss_one (ps_set (i := 4) sc_law.nd rfl (.inl rfl) (pe_callTy (tupC K) (by rfl) T.z_tuple (by decide +kernel) (pa_cons (pe_lc (own := [("_law_j", 5)]) (g := gName 5) (by rfl) sc_law.nd (pi_range1 (by rfl) T.z_range (pa_cons (pv 3) pa_nil)) (blkOk_by (by kernel_rfl)) (fun _ _ _ _ _ => pg_name (i := 5) sc_law.nd rfl (Or.inl rfl)) (fun _ _ _ _ _ => pts_nil) (fun _ _ _ _ _ => (pcl F_law_back (hr.mono (by omega)) (pa_cons (pv 1) (pa_cons (pv 3) pa_nil))))) pa_nil)))) (pss_one (ps_set (i := 4) sc_law.nd rfl (.inl rfl) (pe_callTy (tupC K) (by rfl) T.z_tuple (by decide +kernel) (pa_cons (pe_lc (own := [("_law_j", 5)]) (g := gName 5) (by rfl) sc_law.nd (pi_range1 (by rfl) T.z_range (pa_cons (pv 3) pa_nil)) (blkOk_by (by kernel_rfl)) (fun _ _ _ _ _ => pg_name (i := 5) sc_law.nd rfl (Or.inl rfl)) (fun _ _ _ _ _ => pts_nil) (fun _ _ _ _ _ => (pcl F_law_wild (hr.mono (by omega)) (pa_cons (pv 1) (pa_cons (pv 3) (pa_cons (pe_op op_add pe_int (pcl F_law_next (hr.mono (by omega)) (pa_cons (pv 1) (pa_cons pe_int pa_nil)))) pa_nil)))))) pa_nil)))))
      (pss_one (ps_if (pt_not (pt_val (pcl F_law_right (hr.mono (by omega)) (pa_cons (pv 1) (pa_cons (pv 4) pa_nil))))) (pss_one (ps_ret pe_bl)) pss_nil)))))
      (pss_one (ps_ret pe_bl)))), ?_⟩)
  · obtain ⟨a, ns, rfl, _⟩ := h
    rfl
  obtain ⟨a, ns, rfl, hS, few, q⟩ := h
  refine ⟨_, rfl, a, ns, rfl, hS, few, fun H1 t l s1 T1 => ?_⟩
  refine ⟨4, rfl, by decide, by decide, ?_⟩
  refine for_range (n := 4) (fun i σ' H' => ∃ o1 o2 o3 : Option V, σ' = [some (.ref a), some (.ref t), o1, o2, o3, none] ∧ TapeAt H' t l (0 + 1000 * i)) ⟨none, none, none, rfl, T1⟩ ?_ ?_
  · rintro i σ' H2 hi ⟨o1, o2, o3, rfl, T2⟩
    obtain ⟨c, hc⟩ : ∃ c, c = 0 + 1000 * i := ⟨_, rfl⟩
    rw [← hc] at T2
    refine ⟨fun v H' => ∃ m : Nat, v = .int (m : Nat) ∧ 1 ≤ m ∧ m ≤ 3 ∧ TapeAt H' t l (c + 1), ?_, ?_⟩
    · refine ⟨_, rfl, t, l, 3, c, rfl, by omega, by omega, T2, by omega, fun x H3 hx s3 T3 => ⟨_, _, rfl, rfl, 1 + x, ?_, by omega, by omega, T3⟩⟩
      show V.int ((1 : Int) + ((x : Nat) : Int)) = _
      rw [show (1 : Int) + ((x : Nat) : Int) = ((1 + x : Nat) : Int) by omega]
    rintro v H3 ⟨m, rfl, m1, m3, T3⟩
    have made : ∀ (H' : Hp) (acc : List V), acc.length = m → (∀ (i : Nat) (v : V), acc[i]? = some v → ∃ k, KAt H' k v ∧ (wf m k ∧ dep k ≤ 4)) → ∃ ks, KsAt H' ks acc ∧ RulesOk ks ∧ ∀ k ∈ ks, dep k ≤ 4 := fun H' acc el hr => by
      obtain ⟨ks, h1, h2, h3⟩ := KsAt.of hr
      refine ⟨ks, h1, ⟨by omega, by omega, fun k hk => ⟨?_, by have := (h3 k hk).2; omega⟩⟩, fun k hk => (h3 k hk).2⟩
      rw [h2, el]
      exact (h3 k hk).1
    refine ⟨fun σ' H' => ∃ (ks : List Kd) (rv : V), σ' = [some (.ref a), some (.ref t), some (.int (i : Nat)), some (.int (m : Nat)), some rv, none] ∧ RAt H' ks rv ∧ RulesOk ks ∧ (∀ k ∈ ks, dep k ≤ 4) ∧ TapeAt H' t l (c + 300), ?_, ?_⟩
    · refine ⟨_, rfl, t, l, 2, c + 1, rfl, by omega, by omega, T3, by omega, fun y H4 hy s4 T4 => ⟨rfl, _, rfl, ite2 (fun _ => ?_) (fun _ => ?_)⟩⟩
      · refine ⟨_, rfl, (m : Nat), rfl, by omega, by omega, fun D hD => ?_⟩
        refine rt_range (k := m) (b := 3) (fun _ v H' => ∃ k, KAt H' k v ∧ (wf m k ∧ dep k ≤ 4)) (by rw [Int.toNat_natCast]) (fun i v H H' tk ⟨k, h, r⟩ => ⟨k, h.tk tk, r⟩) hD T4 (by omega) (fun _ => rfl) (fun j H5 hj s5 T5 Y hY => ?_) (fun H5 acc s5 T5 e5 el hr5 => ?_)
        · exact ⟨_, rfl, _, rfl, t, l, m, _, rfl, m1, by omega, T5, by omega, fun H6 v k s6 T6 hk wk dk => hY _ _ s6 (T6.le (by omega)) ⟨k, hk, wk, by omega⟩⟩
        · obtain ⟨ks, h1, h2, h3⟩ := made _ acc el hr5
          refine ⟨D, _, rfl, .inl ⟨SqL.of e5, fun pn nn => ⟨ks, .ref pn, ?_, ⟨pn, acc, rfl, upd_same, h1.tk (TK.new nn)⟩, h2, h3, (T5.sm (same_new nn _)).le (by omega)⟩⟩⟩
          rw [Int.zero_add]
          rfl
      · refine ⟨_, rfl, (m : Nat), rfl, by omega, by omega, fun D hD => ?_⟩
        refine rt_range (k := m) (b := 37) (fun _ v H' => ∃ k, KAt H' k v ∧ (wf m k ∧ dep k ≤ 4)) (by rw [Int.toNat_natCast]) (fun i v H H' tk ⟨k, h, r⟩ => ⟨k, h.tk tk, r⟩) hD T4 (by omega) (fun _ => rfl) (fun j H5 hj s5 T5 Y hY => ?_) (fun H5 acc s5 T5 e5 el hr5 => ?_)
        · have j3 : 37 * j ≤ 37 * 2 := Nat.mul_le_mul_left _ (by omega)
          refine ⟨_, rfl, _, rfl, _, rfl, t, l, 2, _, rfl, by omega, by omega, T5, by omega, fun z H6 hz s6 T6 => ⟨_, _, rfl, rfl, 1 + z, by omega, t, l, m, _, ?_, m1, by omega, T6, ?_, by omega, fun H7 v k s7 T7 hk wk dk => ?_⟩⟩
          · show [V.ref t, V.int (m : Nat), V.int ((1 : Int) + ((z : Nat) : Int))] = _
            rw [show (1 : Int) + ((z : Nat) : Int) = ((1 + z : Nat) : Int) by omega]
          · rcases (show z = 0 ∨ z = 1 by omega) with rfl | rfl
            · show _ + 12 ≤ 1000000
              omega
            · show _ + 36 ≤ 1000000
              omega
          · refine hY _ _ (s6.trans s7) (T7.le ?_) ⟨k, hk, wk, by omega⟩
            rcases (show z = 0 ∨ z = 1 by omega) with rfl | rfl
            · show _ + 12 ≤ _
              omega
            · show _ + 36 ≤ _
              omega
        · obtain ⟨ks, h1, h2, h3⟩ := made _ acc el hr5
          refine ⟨D, _, rfl, .inl ⟨SqL.of e5, fun pn nn => ⟨ks, .ref pn, ?_, ⟨pn, acc, rfl, upd_same, h1.tk (TK.new nn)⟩, h2, h3, (T5.sm (same_new nn _)).le (by omega)⟩⟩⟩
          rw [Int.zero_add]
          rfl
    · rintro σ' H4 ⟨ks, rv, rfl, hR, hOk, hd, T4⟩
      refine ⟨_, rfl, _, rfl, t, l, ks, rv, c + 300, rfl, T4, hR, hOk, hd, by omega, fun H5 s5 T5 => ⟨true, rfl, iteF ⟨_, _, _, rfl, T5.le (by omega)⟩⟩⟩
  · rintro σ' H2 ⟨o1, o2, o3, rfl, T2⟩
    exact q _
end
end KB
/-! # The end: all walks joined, the head, the statement -/
namespace KB
open PySem PySem.Spec PyProof.Rows L2 KM
section
variable {w : World} {K : PySem.W.Frag} {mg : Str → Option Value}
theorem joined (T : Txt w K mg) : ∃ (f : Addr) (fd : FuncData), mg "law" = some (.ref f) ∧ (∀ (s : Shared) (v : Value), BindsTo s fd ⟨[v], []⟩ [("_law_script", v)]) ∧ ∀ (P : Program) (base : Heap), FnOk P w K mg base CX0 17 f fd ["_law_script"] (sp_law K) := by
  obtain ⟨f, fd, hm, hb, hF⟩ := ok_law T
  refine ⟨f, fd, hm, hb, fun P base => ?_⟩
  -- the program's own defs
  have c1 : Prm P w K mg base CX0 1 _ _ _ := ok_is_whole T
  have c2 : Prm P w K mg base CX0 1 _ _ _ := ok_inner_kinds T
  have c3 := ok_kinds_in T c2
  have c4 : Prm P w K mg base CX0 1 _ _ _ := ok_by_parts T
  have c5 := fun n => ok_low_of T c2 c4 n
  have c6 := ok_needed T c2 c5 6
  have c7 := ok_needs_of T c6
  have c8 := ok_stands_by T c3 (c5 6)
  have c9 := ok_is_row T c1
  have c10 := ok_is_paper T c9
  have c11 := ok_amiss_at T (c5 6) c8 c7
  have c12 := ok_lets_found T (ok_init T) c10 c11
  have c13 := ok_greatest_lows T (c5 6)
  have c14 := ok_found_told T c13 c8 c7
  have c15 := ok_is_right T c14 c13 c8
  -- the law's
  have l1 : Prm P w K mg base CX0 1 _ _ _ := ok_tape T
  have l2 : Prm P w K mg base CX0 1 _ _ _ := ok_next T
  have l3 : Prm P w K mg base CX0 7 _ _ _ := ok_law_low T 6
  have l4 := ok_law_lows T l3
  have l5 := ok_law_needs T l3 6
  have l6 : Prm P w K mg base CX0 7 _ _ _ := ok_law_insides T 6
  have l7 := ok_law_is_founded T l3 l4 l5 l6
  have l8 : Prm P w K mg base CX0 1 _ _ _ := ok_law_ways T
  have l9 : Prm P w K mg base CX0 1 _ _ _ := ok_law_plain_many T
  have l10 := ok_law_reckon T l8 l9 5
  have l11 := ok_law_steps T l10
  have l12 := ok_law_is_so T l10 l6
  have l13 := ok_law_wild T l2 4
  have l14 := ok_law_back T l2
  have l15 := ok_law_lets T c12
  have l16 := ok_law_bent T l2
  have l17 := ok_law_papers T l2 l4 l16
  have l18 := ok_law_right T c14 c15 l7 l15 l11 l17 l12 l13 l4 l6 l3
  exact hF P base l1 l2 l14 l13 l18
end
end KB
open PySem PySem.W PySem.Calls PyProof.Rows
theorem PySem.Challenge.cw_kindmakes_k90_whole_founded_rules_holds : PySem.Challenge.rw_kindmakes_k90_whole_founded_rules.Holds := by
  w_on; o_law
  refine HandSHeadRun.head_any (r := KH.R) (q := view KH.R.prog [46]) (H := KH.hk) (ob := KH.ob) (M := 4000) (loose := KH.loose) (d := HandSHeadRun.topDef KH.R.prog 46) (kwd := []) KH.ob_eq
    (by kernel_rfl) (fun s => by kernel_rfl) KH.run (by kernel_rfl) (by kernel_rfl) (by kernel_rfl) (by rfl) (by first | assumption | decide +kernel) (by decide +kernel) ⟨rfl, rfl, rfl, rfl, rfl, by decide +kernel⟩ ?hw ?hc
  case hw => w_witness2
  case hc =>
    refine L2.walk_ofE (l := PySem.Challenge.rw_kindmakes_k90_whole_founded_rules) (n := 63) (k := 17) (x := "_law_script") (CX := L2.CX0) rfl (by decide) (by kernel_rfl) ⟨rfl, by decide, by decide⟩ ?F (fun _ _ _ _ z => z)
    intro w mg fa h Y G hmg0
    obtain ⟨K, KX, c, x⟩ := Y
    have hmg : mg ("law" : PySem.Str) = some (.ref fa) := by
      have e : (HandSHeadRun.topDef KH.R.prog 46).name = ("law" : PySem.Str) := by kernel_rfl
      rw [← e]
      exact hmg0
    have T : KB.Txt w K mg := ⟨⟨h, KX, G⟩, c.d, c.tab 0 rfl, x⟩
    obtain ⟨f, fd, hm, hb, hF⟩ := KB.joined T
    have ef := hmg.symm.trans hm
    cases ef
    exact ⟨K, fd, KB.sp_law K, KX, hb, fun H a ns hl _ hS => ⟨a, ns, rfl, hS, hl, fun _ => rfl⟩, fun base _ _ => hF _ base⟩
