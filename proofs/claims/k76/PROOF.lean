import PyProof.Rows.All
import Wide.All
import OpenK.AllK
import Wide.FinOn
import KE.GoesEnum
import HandS.ForMost
import HandS.Exc
import HandS.ExcOwn
import HandS.ExcInit
import HandS.ExcField
import HandS.TryOnly
import HandS.WordsExc
import HandS.IsInst
import HandS.Style
import HandS.TupAny
import HandS.Flow
import HandS.Property
import HandS.Walk
import HandS.CallSlots
import HandS.Codes
import KE.KStateDown
import HandS.Head0
import HandS.Head1
import HandS.Head2
import HandS.HeadEnd
import HandS.HeadHook1
import PySem.Challenge.RW_pushedback_k76_whole_gates_and_frames
set_option Elab.async false
set_option linter.all false
set_option maxRecDepth 100000
set_option maxHeartbeats 0
/-! The plain laws: rows, marks, frames; no program in sight. -/
namespace K76

theorem snoc_ind {α : Type} {P : List α → Prop} (h0 : P []) (h1 : ∀ l x, P l → P (l ++ [x])) : ∀ l, P l := by
  intro l
  rw [← List.reverse_reverse l]
  induction l.reverse with
  | nil => exact h0
  | cons x r ih => rw [List.reverse_cons]; exact h1 _ _ ih

theorem nil_or_snoc {α : Type} (l : List α) : l = [] ∨ ∃ u d, l = u ++ [d] := by
  rcases List.eq_nil_or_concat l with e | ⟨u, d, e⟩
  · exact .inl e
  · exact .inr ⟨u, d, by rw [e, List.concat_eq_append]⟩

/-! ### the stack of a row -/
def stk (c : Int) (w : List Int) : Int := w.foldl (fun t d => t * c + d + 1) 0
theorem stk_nil (c : Int) : stk c [] = 0 := rfl
theorem stk_snoc (c : Int) (w : List Int) (d : Int) : stk c (w ++ [d]) = stk c w * c + d + 1 := by
  unfold stk
  rw [List.foldl_append]
  rfl
/-- digits of a base -/
def Dg (c : Int) (w : List Int) : Prop := ∀ d ∈ w, 0 ≤ d ∧ d < c
theorem Dg.nil {c : Int} : Dg c [] := fun d h => by cases h
theorem Dg.snoc {c : Int} {w : List Int} {d : Int} (h : Dg c w) (h0 : 0 ≤ d) (h1 : d < c) : Dg c (w ++ [d]) := fun e he => by
  rcases List.mem_append.mp he with q | q
  · exact h e q
  · rw [List.mem_singleton.mp q]
    exact ⟨h0, h1⟩
theorem Dg.left {c : Int} {u v : List Int} (h : Dg c (u ++ v)) : Dg c u := fun d q => h d (List.mem_append_left _ q)
theorem Dg.right {c : Int} {u v : List Int} (h : Dg c (u ++ v)) : Dg c v := fun d q => h d (List.mem_append_right _ q)
theorem Dg.append {c : Int} {u v : List Int} (h : Dg c u) (g : Dg c v) : Dg c (u ++ v) := fun d q => (List.mem_append.mp q).elim (h d) (g d)
theorem Dg.mono {b c : Int} {u : List Int} (h : Dg b u) (g : b ≤ c) : Dg c u := fun d q => ⟨(h d q).1, by have := (h d q).2; omega⟩
theorem Dg.take {c : Int} {u : List Int} (h : Dg c u) (n : Nat) : Dg c (u.take n) := fun d q => h d (List.mem_of_mem_take q)
theorem Dg.drop {c : Int} {u : List Int} (h : Dg c u) (n : Nat) : Dg c (u.drop n) := fun d q => h d (List.mem_of_mem_drop q)
theorem Dg.at {c : Int} {u : List Int} (h : Dg c u) {i : Nat} {d : Int} (e : u[i]? = some d) : 0 ≤ d ∧ d < c := h d (List.mem_of_getElem? e)

theorem stk_nn {c : Int} (hc : 0 ≤ c) : ∀ {w : List Int}, Dg c w → 0 ≤ stk c w := fun {w} => by
  induction w using snoc_ind with
  | h0 => intro _; exact Int.le_refl 0
  | h1 l x ih =>
    intro h
    rw [stk_snoc]
    have h1 := ih h.left
    have h2 := (h x (by simp)).1
    have h3 : 0 ≤ stk c l * c := Int.mul_nonneg h1 hc
    omega
theorem pow_nn {c : Int} (hc : 0 ≤ c) (n : Nat) : 0 ≤ c ^ n := by
  induction n with
  | zero => simp
  | succ n ih => rw [Int.pow_succ]; exact Int.mul_nonneg ih hc
theorem stk_le {c : Int} (hc : 2 ≤ c) : ∀ {w : List Int}, Dg c w → stk c w + 2 ≤ 2 * c ^ w.length := fun {w} => by
  induction w using snoc_ind with
  | h0 => intro _; simp [stk_nil]
  | h1 l x ih =>
    intro h
    have h1 := ih h.left
    have h2 := (h x (by simp)).2
    rw [stk_snoc, List.length_append, List.length_singleton, Int.pow_succ]
    have h3 : (stk c l + 2) * c ≤ 2 * c ^ l.length * c := Int.mul_le_mul_of_nonneg_right h1 (by omega)
    rw [Int.add_mul] at h3
    have e : 2 * (c ^ l.length * c) = 2 * c ^ l.length * c := by rw [Int.mul_assoc]
    rw [e]
    omega
/-- taking the last digit off -/
theorem stk_last {c : Int} (hc : 2 ≤ c) {w : List Int} {d : Int} (h0 : 0 ≤ d) (h1 : d < c) : (stk c (w ++ [d]) - 1) % c = d ∧ (stk c (w ++ [d]) - 1) / c = stk c w := by
  rw [stk_snoc]
  have e : stk c w * c + d + 1 - 1 = d + stk c w * c := by omega
  rw [e]
  constructor
  · rw [Int.add_mul_emod_self_right]
    exact Int.emod_eq_of_lt h0 h1
  · rw [Int.add_mul_ediv_right _ _ (by omega), Int.ediv_eq_zero_of_lt h0 h1]
    omega
theorem stk_lt {c : Int} (hc : 2 ≤ c) {w : List Int} {d : Int} (h : Dg c (w ++ [d])) : stk c w < stk c (w ++ [d]) := by
  rw [stk_snoc]
  have h1 := stk_nn (by omega : 0 ≤ c) h.left
  have h2 := (h d (by simp)).1
  have h3 : stk c w * 1 ≤ stk c w * c := Int.mul_le_mul_of_nonneg_left (by omega) h1
  omega
theorem stk_pos {c : Int} (hc : 2 ≤ c) {w : List Int} (h : Dg c w) (hw : w ≠ []) : 0 < stk c w := by
  obtain ⟨l, d, rfl⟩ : ∃ l d, w = l ++ [d] := ⟨w.dropLast, w.getLast hw, (List.dropLast_concat_getLast hw).symm⟩
  have h1 := stk_lt hc h
  have h2 := stk_nn (by omega : 0 ≤ c) h.left
  omega

/-! ### marks -/
def mks (m : Int) : Nat → List Int → List Nat
  | _, [] => []
  | i, x :: l => if x = m then i :: mks m (i + 1) l else mks m (i + 1) l
theorem mks_append (m : Int) : ∀ (u v : List Int) (i : Nat), mks m i (u ++ v) = mks m i u ++ mks m (i + u.length) v
  | [], v, i => by simp [mks]
  | x :: u, v, i => by
    have ih := mks_append m u v (i + 1)
    have e : i + 1 + u.length = i + (u.length + 1) := by omega
    rw [e] at ih
    simp only [List.cons_append, mks, List.length_cons]
    split
    · rw [ih, List.cons_append]
    · exact ih
theorem mks_snoc (m : Int) (l : List Int) (x : Int) : mks m 0 (l ++ [x]) = mks m 0 l ++ (if x = m then [l.length] else []) := by
  rw [mks_append]
  simp [mks]
theorem mks_lt {m : Int} : ∀ {l : List Int} {i p : Nat}, p ∈ mks m i l → i ≤ p ∧ p < i + l.length
  | [], i, p, h => by cases h
  | x :: l, i, p, h => by
    unfold mks at h
    rw [List.length_cons]
    split at h
    · rcases List.mem_cons.mp h with q | q
      · omega
      · have := mks_lt q
        omega
    · have := mks_lt h
      omega
theorem mks_shift {m : Int} : ∀ (l : List Int) (i j : Nat), mks m (i + j) l = (mks m i l).map (· + j)
  | [], i, j => rfl
  | x :: l, i, j => by
    have ih := mks_shift (m := m) l (i + 1) j
    have e : i + 1 + j = i + j + 1 := by omega
    rw [e] at ih
    unfold mks
    split
    · rw [List.map_cons, ih]
    · exact ih
theorem mks_none {m : Int} : ∀ {l : List Int} {i : Nat}, (∀ d ∈ l, d ≠ m) → mks m i l = []
  | [], i, _ => rfl
  | x :: l, i, h => by
    unfold mks
    rw [if_neg (h x List.mem_cons_self)]
    exact mks_none fun d q => h d (List.mem_cons_of_mem _ q)
theorem mks_at {m : Int} {l : List Int} : ∀ {i p : Nat}, p ∈ mks m i l → l[p - i]? = some m := fun {i p} h => by
  induction l generalizing i with
  | nil => cases h
  | cons x l ih =>
    unfold mks at h
    split at h
    · rcases List.mem_cons.mp h with q | q
      · rw [q, Nat.sub_self]
        simp [*]
      · have h1 := mks_lt q
        have h2 := ih q
        have e : p - i = (p - (i + 1)) + 1 := by omega
        rw [e, List.getElem?_cons_succ]
        exact h2
    · have h1 := mks_lt h
      have h2 := ih h
      have e : p - i = (p - (i + 1)) + 1 := by omega
      rw [e, List.getElem?_cons_succ]
      exact h2

theorem mks_count (m : Int) : ∀ (l : List Int) (i : Nat), (mks m i l).length ≤ l.length
  | [], _ => Nat.le_refl _
  | x :: l, i => by
    have h := mks_count m l (i + 1)
    unfold mks
    rw [List.length_cons]
    split
    · rw [List.length_cons]
      omega
    · omega

/-! ### the frames by the places of the marks -/
def seg (l : List Int) (p q : Nat) : List Int := (l.drop (p + 1)).take (q - (p + 1))
/-- the bodies whose next mark stands from a to below b -/
def lf (l : List Int) (a b : Nat) : List Nat → List (List Int)
  | p :: q :: r => (if a ≤ q ∧ q < b then [seg l p q] else []) ++ lf l a b (q :: r)
  | _ => []
theorem lf_nil (l : List Int) (a b : Nat) : lf l a b [] = [] := rfl
theorem lf_one (l : List Int) (a b p : Nat) : lf l a b [p] = [] := rfl
theorem lf_snoc (l : List Int) (a b : Nat) (p q : Nat) : ∀ ys : List Nat, lf l a b (ys ++ [p] ++ [q]) = lf l a b (ys ++ [p]) ++ (if a ≤ q ∧ q < b then [seg l p q] else [])
  | [] => by simp [lf]
  | [y] => by simp [lf]
  | y :: z :: ys => by
    have ih := lf_snoc l a b p q (z :: ys)
    simp only [List.cons_append] at ih ⊢
    simp only [lf]
    rw [ih, List.append_assoc]
theorem lf_congr {l l' : List Int} {a b b' : Nat} : ∀ {ms : List Nat}, (∀ q ∈ ms, (q < b ↔ q < b') ∧ ∀ p, seg l p q = seg l' p q) → lf l a b ms = lf l' a b' ms
  | [], _ => rfl
  | [p], _ => rfl
  | p :: q :: r, h => by
    have h1 := h q (by simp)
    simp only [lf]
    rw [lf_congr (ms := q :: r) fun x hx => h x (List.mem_cons_of_mem _ hx), h1.2 p]
    by_cases hq : q < b
    · have hq' := h1.1.mp hq
      simp [hq, hq']
    · have hq' : ¬ q < b' := fun z => hq (h1.1.mpr z)
      simp [hq, hq']
theorem lf_empty {l : List Int} {a b : Nat} : ∀ {ms : List Nat}, (∀ q ∈ ms, ¬ (a ≤ q ∧ q < b)) → lf l a b ms = []
  | [], _ => rfl
  | [p], _ => rfl
  | p :: q :: r, h => by
    simp only [lf]
    rw [if_neg (h q (by simp)), lf_empty (ms := q :: r) fun x hx => h x (List.mem_cons_of_mem _ hx)]
    rfl
theorem seg_snoc {l : List Int} {x : Int} {p q : Nat} (h : q ≤ l.length) : seg (l ++ [x]) p q = seg l p q := by
  unfold seg
  by_cases hp : p + 1 ≤ l.length
  · rw [List.drop_append_of_le_length hp, List.take_append_of_le_length (by rw [List.length_drop]; omega)]
  · have e : q - (p + 1) = 0 := by omega
    rw [e, List.take_zero, List.take_zero]

/-! ### a gate's run over a scrap: bodies, what waits, how it began -/
abbrev GS : Type := List (List Int) × Option (List Int) × Option Bool
def gst (m : Int) (g : GS) (x : Int) : GS :=
  (if x = m then (match g.2.1 with
    | some w => g.1 ++ [w]
    | none => g.1) else g.1,
   if x = m then some [] else g.2.1.map (· ++ [x]),
   match g.2.2 with
    | none => some (decide (x = m))
    | some b => some b)
def grun (m : Int) (g : GS) (l : List Int) : GS := l.foldl (gst m) g
theorem grun_nil (m : Int) (g : GS) : grun m g [] = g := rfl
theorem grun_append (m : Int) (g : GS) (u v : List Int) : grun m g (u ++ v) = grun m (grun m g u) v := List.foldl_append
theorem grun_snoc (m : Int) (g : GS) (u : List Int) (x : Int) : grun m g (u ++ [x]) = gst m (grun m g u) x := List.foldl_append
def g0 : GS := ([], none, none)
/-- what was told before plays no part -/
theorem gst_told (m : Int) (t u : List (List Int)) (w : Option (List Int)) (b : Option Bool) (x : Int) : gst m (t ++ u, w, b) x = (t ++ (gst m (u, w, b) x).1, (gst m (u, w, b) x).2) := by
  unfold gst
  cases w <;> by_cases h : x = m <;> simp [h]
theorem grun_told (m : Int) (l : List Int) : ∀ (t u : List (List Int)) (w : Option (List Int)) (b : Option Bool), grun m (t ++ u, w, b) l = (t ++ (grun m (u, w, b) l).1, (grun m (u, w, b) l).2) := by
  induction l using snoc_ind with
  | h0 => intro t u w b; rfl
  | h1 l x ih =>
    intro t u w b
    rw [grun_snoc, grun_snoc, ih, gst_told]
theorem grun_told0 (m : Int) (l : List Int) (t : List (List Int)) (w : Option (List Int)) (b : Option Bool) : grun m (t, w, b) l = (t ++ (grun m ([], w, b) l).1, (grun m ([], w, b) l).2) := by
  have := grun_told m l t [] w b
  rwa [List.append_nil] at this

theorem run_beg (m : Int) (l : List Int) : (grun m g0 l).2.2 = (match l with
    | [] => none
    | x :: _ => some (decide (x = m))) := by
  induction l using snoc_ind with
  | h0 => rfl
  | h1 l x ih =>
    rw [grun_snoc]
    unfold gst
    simp only [ih]
    cases l with
    | nil => rfl
    | cons y r => rfl
theorem run_wait (m : Int) (l : List Int) : (grun m g0 l).2.1 = (match (mks m 0 l).getLast? with
    | none => none
    | some p => some (l.drop (p + 1))) := by
  induction l using snoc_ind with
  | h0 => rfl
  | h1 l x ih =>
    rw [grun_snoc, mks_snoc]
    unfold gst
    simp only [ih]
    by_cases hx : x = m
    · simp [hx]
    · rw [if_neg hx, if_neg hx, List.append_nil]
      cases e : (mks m 0 l).getLast? with
      | none => rfl
      | some p =>
        have hp := mks_lt (List.mem_of_getLast? e)
        simp only [Option.map_some]
        rw [List.drop_append_of_le_length (by omega)]
/-- THE LAW of the frames: the run up to b is the run up to a and the frames whose next mark stands from a to below b -/
theorem run_frames (m : Int) (l : List Int) : ∀ a b : Nat, a ≤ b → b ≤ l.length → (grun m g0 (l.take b)).1 = (grun m g0 (l.take a)).1 ++ lf l a b (mks m 0 l) := by
  induction l using snoc_ind with
  | h0 =>
    intro a b h1 h2
    simp only [List.take_nil]
    rw [show mks m 0 [] = [] from rfl, lf_nil, List.append_nil]
  | h1 l x ih =>
    intro a b h1 h2
    rw [List.length_append, List.length_singleton] at h2
    have hseg : ∀ q ∈ mks m 0 l, ∀ p, seg (l ++ [x]) p q = seg l p q := fun q hq p => by
      have := (mks_lt hq).2
      exact seg_snoc (by omega)
    by_cases hb : b ≤ l.length
    · rw [List.take_append_of_le_length hb, List.take_append_of_le_length (by omega : a ≤ l.length), ih a b h1 hb]
      congr 1
      rw [mks_snoc]
      by_cases hx : x = m
      · rw [if_pos hx]
        rcases List.eq_nil_or_concat (mks m 0 l) with e | ⟨ys, p, e⟩
        · rw [e]
          rfl
        · have e' : mks m 0 l = ys ++ [p] := by rw [e, List.concat_eq_append]
          rw [e', lf_snoc, if_neg (by omega), List.append_nil]
          rw [e'] at hseg
          exact lf_congr fun q hq => ⟨Iff.rfl, fun p => (hseg q hq p).symm⟩
      · rw [if_neg hx, List.append_nil]
        exact lf_congr fun q hq => ⟨Iff.rfl, fun p => (hseg q hq p).symm⟩
    · have eb : b = (l ++ [x]).length := by
        rw [List.length_append, List.length_singleton]
        omega
      by_cases ha : a = b
      · subst ha
        rw [lf_empty (by intro q _; omega), List.append_nil]
      · have ha' : a ≤ l.length := by omega
        have hlt : ∀ q ∈ mks m 0 l, q < l.length := fun q hq => by
          have := (mks_lt hq).2
          omega
        rw [eb, List.take_length, List.take_append_of_le_length ha', grun_snoc, mks_snoc]
        have h3 := ih a l.length ha' (Nat.le_refl _)
        rw [List.take_length] at h3
        have h4 : ∀ ms : List Nat, (∀ q ∈ ms, q ∈ mks m 0 l) → lf (l ++ [x]) a (l ++ [x]).length ms = lf l a l.length ms := fun ms hm => lf_congr fun q hq => ⟨by
          have := hlt q (hm q hq)
          rw [List.length_append, List.length_singleton]
          omega, fun p => hseg q (hm q hq) p⟩
        by_cases hx : x = m
        · rw [if_pos hx]
          have hw := run_wait m l
          rcases List.eq_nil_or_concat (mks m 0 l) with e | ⟨ys, p, e⟩
          · rw [e] at hw h3
            unfold gst
            simp only [hx, if_true]
            rw [show (grun m g0 l).2.1 = none from hw, e, h3]
            rfl
          · have e' : mks m 0 l = ys ++ [p] := by rw [e, List.concat_eq_append]
            rw [e'] at hw h3
            have hw' : (grun m g0 l).2.1 = some (l.drop (p + 1)) := by simpa using hw
            rw [e', lf_snoc, ← e', h4 _ (fun q hq => hq), if_pos (by rw [List.length_append, List.length_singleton]; omega), e', ← List.append_assoc, ← h3]
            unfold gst
            simp only [hx, if_true]
            rw [hw']
            have e5 : seg (l ++ [m]) p l.length = l.drop (p + 1) := by
              have hp := hlt p (by rw [e']; simp)
              unfold seg
              rw [List.drop_append_of_le_length (by omega), List.take_append_of_le_length (by rw [List.length_drop]; omega), List.take_of_length_le (by rw [List.length_drop]; omega)]
            rw [e5]
        · rw [if_neg hx, List.append_nil, h4 _ (fun q hq => hq), ← h3]
          unfold gst
          simp only [hx, if_false]
/-! ### whole -/
theorem mks_head {m : Int} {l : List Int} : (mks m 0 l).head? = some 0 ↔ ∃ r, l = m :: r := by
  cases l with
  | nil => simp [mks]
  | cons x r =>
    unfold mks
    by_cases hx : x = m
    · simp [hx]
    · rw [if_neg hx]
      constructor
      · intro h
        have := mks_lt (List.mem_of_head? h)
        omega
      · rintro ⟨r', e⟩
        exact absurd (List.cons.inj e).1 hx
theorem run_whole (m : Int) (l : List Int) : ((grun m g0 l).2.2 = some true ∧ (grun m g0 l).2.1 = some []) ↔ ((mks m 0 l).head? = some 0 ∧ (mks m 0 l).getLast? = some (l.length - 1)) := by
  rw [run_beg, run_wait, mks_head]
  constructor
  · rintro ⟨h1, h2⟩
    cases l with
    | nil => cases h1
    | cons x r =>
      refine ⟨⟨r, by have := of_decide_eq_true (Option.some.inj h1); rw [this]⟩, ?_⟩
      cases e : (mks m 0 (x :: r)).getLast? with
      | none =>
        rw [e] at h2
        cases h2
      | some p =>
        rw [e] at h2
        have hp := (mks_lt (List.mem_of_getLast? e)).2
        have h3 : (x :: r).length ≤ p + 1 := List.drop_eq_nil_iff.mp (Option.some.inj h2)
        congr 1
        omega
  · rintro ⟨⟨r, e⟩, h2⟩
    rw [h2]
    subst e
    exact ⟨by simp, by simp⟩

/-! ### what a run keeps within bounds -/
structure RunOk (m : Int) (n : Nat) (g : GS) : Prop where
  dg : ∀ w ∈ g.1, Dg m w ∧ w.length ≤ n
  len : g.1.length ≤ n
  wt : ∀ w, g.2.1 = some w → Dg m w ∧ w.length ≤ n
theorem runOk {m : Int} {l : List Int} (h : Dg (m + 1) l) : RunOk m l.length (grun m g0 l) := by
  induction l using snoc_ind with
  | h0 => exact ⟨(fun w hw => by cases hw), Nat.le_refl _, (fun w hw => by cases hw)⟩
  | h1 l x ih =>
    have I := ih h.left
    rw [grun_snoc]
    have hx0 := h x (by simp)
    have e : (l ++ [x]).length = l.length + 1 := by simp
    rw [e]
    unfold gst
    by_cases hx : x = m
    · simp only [hx, if_true]
      refine ⟨?_, ?_, ?_⟩
      · intro w hw
        cases q : (grun m g0 l).2.1 with
        | none =>
          rw [q] at hw
          exact ⟨(I.dg w hw).1, by have := (I.dg w hw).2; omega⟩
        | some u =>
          rw [q] at hw
          rcases List.mem_append.mp hw with z | z
          · exact ⟨(I.dg w z).1, by have := (I.dg w z).2; omega⟩
          · rw [List.mem_singleton.mp z]
            exact ⟨(I.wt u q).1, by have := (I.wt u q).2; omega⟩
      · cases q : (grun m g0 l).2.1 with
        | none =>
          have := I.len
          simp only
          omega
        | some u =>
          have := I.len
          simp only [List.length_append, List.length_singleton]
          omega
      · intro w hw
        cases hw
        exact ⟨Dg.nil, Nat.zero_le _⟩
    · simp only [hx, if_false]
      refine ⟨fun w hw => ⟨(I.dg w hw).1, by have := (I.dg w hw).2; omega⟩, by have := I.len; simp only; omega, fun w hw => ?_⟩
      cases q : (grun m g0 l).2.1 with
      | none =>
        rw [q] at hw
        cases hw
      | some u =>
        rw [q] at hw
        have e2 : u ++ [x] = w := Option.some.inj hw
        subst e2
        have := (I.wt u q).2
        refine ⟨(I.wt u q).1.snoc hx0.1 (by omega), ?_⟩
        rw [List.length_append, List.length_singleton]
        omega

/-! ### a scrap is: digits ahead of the first mark, the stream of its frames, digits behind the last mark -/
def mid (m : Int) (ws : List (List Int)) : List Int := ws.flatMap (fun w => m :: w)
theorem mid_snoc (m : Int) (ws : List (List Int)) (w : List Int) : mid m (ws ++ [w]) = mid m ws ++ m :: w := by
  unfold mid
  rw [List.flatMap_append]
  simp
theorem mid_cons (m : Int) (ws : List (List Int)) (w : List Int) : mid m (w :: ws) = m :: (w ++ mid m ws) := by
  unfold mid
  rw [List.flatMap_cons]
  rfl
/-- the parts of a scrap with a mark -/
structure Parts (m : Int) (l a z : List Int) (ws : List (List Int)) : Prop where
  eq : l = a ++ (mid m ws ++ [m]) ++ z
  na : ∀ d ∈ a, d ≠ m
  nz : ∀ d ∈ z, d ≠ m
theorem parts_of (m : Int) (l : List Int) : ((grun m g0 l).2.1 = none ∧ (grun m g0 l).1 = [] ∧ ∀ d ∈ l, d ≠ m) ∨ ∃ a z, (grun m g0 l).2.1 = some z ∧ Parts m l a z (grun m g0 l).1 := by
  induction l using snoc_ind with
  | h0 => exact .inl ⟨rfl, rfl, fun d h => by cases h⟩
  | h1 l x ih =>
    rw [grun_snoc]
    unfold gst
    rcases ih with ⟨h1, h2, h3⟩ | ⟨a, z, h1, P⟩
    · by_cases hx : x = m
      · refine .inr ⟨l, [], by simp [hx], ⟨?_, h3, fun d h => by cases h⟩⟩
        simp [hx, h1, h2, mid]
      · refine .inl ⟨by simp [hx, h1], by simp [hx, h2], fun d hd => ?_⟩
        rcases List.mem_append.mp hd with q | q
        · exact h3 d q
        · rw [List.mem_singleton.mp q]
          exact hx
    · by_cases hx : x = m
      · refine .inr ⟨a, [], by simp [hx], ⟨?_, P.na, fun d h => by cases h⟩⟩
        simp only [hx, if_true, h1]
        rw [mid_snoc]
        exact (congrArg (· ++ [m]) P.eq).trans (by simp)
      · refine .inr ⟨a, z ++ [x], by simp [hx, h1], ⟨?_, P.na, fun d hd => ?_⟩⟩
        · simp only [hx, if_false]
          rw [← List.append_assoc, ← P.eq]
        · rcases List.mem_append.mp hd with q | q
          · exact P.nz d q
          · rw [List.mem_singleton.mp q]
            exact hx
theorem Parts.marks {m : Int} {l a z : List Int} {ws : List (List Int)} (P : Parts m l a z ws) : mks m 0 l = (mks m 0 (mid m ws ++ [m])).map (· + a.length) := by
  rw [P.eq, mks_append, mks_append, mks_none P.na, mks_none P.nz, List.nil_append, List.append_nil, Nat.zero_add]
  have := mks_shift (m := m) (mid m ws ++ [m]) 0 a.length
  rwa [Nat.zero_add] at this
theorem mid_head (m : Int) (ws : List (List Int)) : ∃ r, mid m ws ++ [m] = m :: r := by
  cases ws with
  | nil => exact ⟨[], rfl⟩
  | cons w ws =>
    rw [mid_cons]
    exact ⟨w ++ mid m ws ++ [m], rfl⟩
theorem Parts.first {m : Int} {l a z : List Int} {ws : List (List Int)} (P : Parts m l a z ws) : (mks m 0 l).head? = some a.length := by
  rw [P.marks, List.head?_map, mks_head.mpr (mid_head m ws)]
  simp
theorem Parts.last {m : Int} {l a z : List Int} {ws : List (List Int)} (P : Parts m l a z ws) : (mks m 0 l).getLast? = some (a.length + (mid m ws).length) := by
  rw [P.marks, mks_snoc, if_pos rfl, List.map_append, List.map_cons, List.map_nil, List.getLast?_concat, Nat.add_comm]
theorem Parts.inner {m : Int} {l a z : List Int} {ws : List (List Int)} (P : Parts m l a z ws) : (l.drop a.length).take (a.length + (mid m ws).length + 1 - a.length) = mid m ws ++ [m] := by
  rw [P.eq, List.append_assoc, List.drop_left, List.take_left' (by rw [List.length_append, List.length_singleton]; omega)]
theorem mid_len {m : Int} {l a z : List Int} {ws : List (List Int)} (P : Parts m l a z ws) : a.length + (mid m ws).length + 1 + z.length = l.length := by
  have := congrArg List.length P.eq
  simp only [List.length_append, List.length_singleton] at this
  omega
theorem mid_dg {m : Int} {l a z : List Int} {ws : List (List Int)} (P : Parts m l a z ws) {c : Int} (h : Dg c l) : Dg c (mid m ws ++ [m]) := by
  rw [P.eq] at h
  exact h.left.right

end K76
/-! Rules that the layer lacks: what needs an empty row of guards (repr), is True of None, a list extended by a tuple, enumerate(tuple), o.f as one of several targets, a method's raise wished for at the slots. -/
namespace K76
open PySem PySem.Spec PyProof.Rows L2

/-! ### is True, the left one None or a bool -/
def onB : V → Bool
  | .non => true
  | .bl _ => true
  | _ => false
def rIsC : R2 := fun x y H Q => onB x = true ∧ ∃ b : Bool, y = .bl b ∧ Q (.bl (decide (x = .bl b))) H
section
variable {X : Cx}
theorem op_isC : OpR X (compareOp .Is) rIsC := by
  intro pins s σ H x y v u Q I rx ry h
  obtain ⟨hx, b, rfl, q⟩ := h
  cases (show u = Value.bool b from ry)
  cases x with
  | non =>
    cases (show v = Value.none from rx)
    exact wpAny_is_other rfl (fun z => by cases z) ⟨.bl false, H, I, rfl, q⟩
  | bl a =>
    cases (show v = Value.bool a from rx)
    by_cases e : a = b
    · subst e
      exact wpAny_is_self rfl ⟨.bl true, H, I, rfl, by simpa using q⟩
    · exact wpAny_is_other rfl (fun z => e (Value.bool.inj z)) ⟨.bl false, H, I, rfl, by simpa [e] using q⟩
  | _ => cases hx

/-! ### xs.extend(t), t a tuple -/
def rExtT (K : PySem.W.Frag) : V → List V → Hp → VK → Prop := fun x vs H Q => ∃ l b xs zs, x = .ref l ∧ vs = [.ref b] ∧ H l = some (.lst xs) ∧ H b = some (.tup zs) ∧ xs.length + zs.length ≤ sizeLine ∧
  Q .non (upd H l (.lst (xs ++ zs)))
theorem tup_obj {P : Program} {w : World} {H : Hp} {h : Heap} {b : Addr} {zs : List V} (ok : HOk P w H h) (e : H b = some (.tup zs)) : ∃ its o, Vals zs its ∧ h.get? b = some o ∧ o.cls = .type "tuple" ∧ ∃ n, o.data = .seq its.toArray n := by
  obtain ⟨_, its, r, o, h1, h2, n, h3⟩ := (show ObjOk P w H h b (.tup zs) from ok b _ e)
  exact ⟨its, o, r, h1, h2, n, h3⟩
end
end K76
namespace K76
open PySem PySem.Spec PyProof.Rows L2
open AutoSeq1 (wpAny_loadPart')
/-- list.extend of any tuple object -/
theorem ext_meets (l : Addr) (items : Array Value) (n : Nat) (b : Addr) (items2 : Array Value) (n2 : Nat) (dd : Option Addr) (sl : Array (Option Value)) (hs0 : ¬(!items.isEmpty && Builtin.List.listTooLong (items.size + items2.size)) = true) (hs1 : items.size ≤ sizeLine) (hs2 : items.size + items2.size ≤ sizeLine + 1) :
    Meets (Builtin.«list.extend» ⟨[.ref l, .ref b], []⟩) (fun _ R s => s.heap.get? l = some { cls := .type "list", dict := none, data := .seq items n, slots := #[] } ∧ s.heap.get? b = some { cls := .type "tuple", dict := dd, data := .seq items2 n2, slots := sl } ∧
      R (.ok (.ret Value.none)) { s with heap := s.heap.update l (Obj.mapSeq fun x => x ++ items2), toks := s.toks }) :=
  .of_wp fun prog w A R s h => by
    obtain ⟨hp, g, d, tk, os⟩ := s
    obtain ⟨hl, hb, h⟩ := h
    have f1 := AutoSeq1.idx_int
    have f4 := AutoSeq1.sub_tuple_list
    have f2 := AutoSeq1.sub_tuple_tuple
    have f3 := AutoSeq1.sub_list_list
    have f5 := AutoSeq1.sub_list_tuple
    have hz : (items ++ items2).size ≤ sizeLine + 1 := by
      rw [Array.size_append]
      exact hs2
    wp_walk using (wpAny_updateSeq hl rfl (hz := hs1) (_hz' := hz)), wpAny_loadPart' hl, wpAny_loadPart' hb
    exact ⟨_, rfl, h⟩
section
variable {X : Cx}
theorem mt_extT : MtM X "list.extend" (rExtT X.K) := by
  intro pins s σ H x vs v us Q I rx rv h
  obtain ⟨l, b, xs, zs, rfl, rfl, hH, hB, hz, q⟩ := h
  cases rx
  obtain ⟨u, rfl, ru⟩ := rv.one
  cases ru
  obtain ⟨z, its, n, r, hl, e⟩ := I.lstM hH
  obtain ⟨its2, ⟨oc, od, odt, osl⟩, r2, e2, c2, n2, d2⟩ := tup_obj I.hok hB
  simp only at c2 d2
  subst c2 d2
  have hl2 := r2.length
  have hs : its.toArray.size + its2.toArray.size ≤ sizeLine := by
    rw [List.size_toArray, List.size_toArray]
    omega
  refine call_meets F.slot_list_extend ⟨_, e, rfl⟩ F.entry_list_extend (F.args_list_extend_2 _ _)
    (ext_meets l its.toArray n b its2.toArray n2 od osl (by rw [notLongL hs, Bool.and_false]; exact Bool.false_ne_true) (by rw [List.size_toArray]; omega) (by omega)) ⟨e, e2, ?_⟩
  exact ⟨.non, _, I.lset (its' := its ++ its2) hH e (by simp) (r.append r2) (by rw [List.length_append]; omega), rfl, q⟩

/-! ### o.f as one of several targets -/
def gFld (K : PySem.W.Frag) (ta : TE) (f : Str) : TG := fun v σ H Q => ta σ H fun x H1 => ∃ a C dx fs, x = .ref a ∧ H1 a = some (.ins C dx fs) ∧ Cls K C ∧ NoAttr K C f ∧ fs.length < 1000 ∧ Q σ (upd H1 a (.ins C dx (putF f v fs)))
theorem pg_fld {o : Expr} {f : Str} {pos : Pos} {ta : TE} (ha : PE X o ta) : PG X (.Attribute o f pos) (gFld X.K ta f) := by
  refine ⟨fun pins s σ H v u Q I r hw => ?_⟩
  rw [assign_Attribute]
  refine wpAny_bind (wpAny_holding (thn (ha.run pins s σ H _ I hw) fun ov s1 hq => ?_))
  obtain ⟨x, H1, I1, rx, a, C, dx, fs, rfl, ea, c, n, l, q⟩ := hq
  obtain rfl : ov = Value.ref a := rx
  refine wpAny_bind (wpAny_standAt (wpAny_bind (wpAny_holding (setattr_ok I1 ea c n l r fun s2 I2 => ?_))))
  exact wpAny_release ⟨σ, _, I2, q⟩

/-! ### o.m(e, ..) where what is raised is wished for at the caller's slots -/
variable {CX : CXT} {k : Nat} {f C : Addr} {fd : FuncData} {ps : List Str} {sp : Sp} {E : L2.St → XK} {m : Str} {pos apos : Pos} {e o : Expr} {es : List Expr} {ta : TE} {t : TA}
def tMethS (C : Addr) (m : Str) (sp : Sp) (E : L2.St → XK) (ta : TE) (t : TA) : TE := fun σ H Q => ta σ H fun x H1 => ∃ a dx fs, x = .ref a ∧ H1 a = some (.ins C dx fs) ∧ fs.lookup m = none ∧
  t σ H1 fun vs H2 => sp (x :: vs) H2 Q (E σ)
theorem pe_methSD {pl : Sem Bool} (he : PE X o ta) (c : Cls X.K C) (hm : Meth X.K C m f) (F : FnOk X.prog X.w X.K X.mg X.base CX k f fd ps sp) (hr : Room k X.A) (hb : Binds X.K fd ps []) (hx : ∀ σ, PassesAt CX X σ (E σ)) (ha : PA X (e :: es) t)
    (hst : starEach (e :: es) X.env = (false, eval e X.env) :: starEach es X.env := by rfl) (hpl : (backTo pos (starEach es X.env)).any (·.1) = false := by rfl)
    (ht : eval (.Call (.Attribute o m apos) (e :: es) [] pos) X.env = (do
        let ov ← eval o X.env
        standAt apos.atName
        let (g, first) ← holding [ov] (getMethod ov m pl)
        callWith pos g first (backTo pos (starEach (e :: es) X.env)) (backToKw pos (keywordEach [] X.env))) := by rfl) :
    PE X (.Call (.Attribute o m apos) (e :: es) [] pos) (tMethS C m sp E ta t) := by
  refine ⟨fun pins s σ H Q I h => PySem.W.methodCall_KW (pl := pl) (thn (he.run pins s σ H _ I h) fun u s1 hq => ?_) ht⟩
  obtain ⟨x, H1, I1, rx, a, dx, fs, rfl, ea, l, q⟩ := hq
  obtain rfl : u = Value.ref a := rx
  refine getmeth_ok I1 ea c hm l (PySem.W.callWith_K (first := [.ref a]) (h₀ := X.base) I.ok.mod.kin hm.kp ?_ hst hpl)
  exact thn (ha.run pos pins s1 σ H1 _ I1 q) fun us s2 ⟨vs, H2, I2, r, q2⟩ => ⟨I2.kIn, run_fnS (us := .ref a :: us) (vs := .ref a :: vs) F hr hb (hx σ) I2 (.cons rfl r) q2⟩
end

/-! ### enumerate(t), t a tuple -/
theorem enum_new1 {v : Value} {o : Obj} {H : Heap → Prop} (B : Begins v o H) :
    Meets (Builtin.«enumerate.__new__» ⟨[.type "enumerate", v], []⟩) (fun _ R s => H s.heap ∧
      R (.ok (.ret (.ref (s.heap.push o).objs.size))) { s with heap := (s.heap.push o).push { cls := .type "enumerate", data := .fields #[.none, .bool false, .ref s.heap.objs.size, rawInt 0, .none, .none] } }) :=
  .of_wp fun prog w A R s h => by
    obtain ⟨hp, g, d, tk, os⟩ := s
    obtain ⟨h1, h⟩ := h
    have hsub := sub_enumerate
    have q1 : ∀ {A' : Around} {E Q : Value → Shared → Prop}, Q (.ref hp.objs.size) ⟨hp.push o, g, d, tk, os⟩ → wpAny (model prog w) A' (pyIter v) Q E ⟨hp, g, d, tk, os⟩ := fun q => B.iter prog w _ _ ⟨hp, g, d, tk, os⟩ _ h1 q
    wp_walk using q1
    refine wpAny_stack_any fun st => wpAny_pure ?_
    split
    · rename_i c _ _ _ _ _
      cases (c == Value.type "enumerate") <;> (wp_walk using q1; exact ⟨_, rfl, h⟩)
    · wp_walk using q1
      exact ⟨_, rfl, h⟩
theorem enum_call1 {prog : Program} {w : World} {A : Around} {E : Value → Shared → Prop} {s : Shared} {v : Value} {o : Obj} {H : Heap → Prop} {Q : Value → Shared → Prop} (B : Begins v o H) (h1 : H s.heap)
    (h : ∀ h', IsEnum h' (s.heap.objs.size + 1) s.heap.objs.size 0 .none → h'.get? s.heap.objs.size = some o → (∀ b u, s.heap.get? b = some u → h'.get? b = some u) → Q (.ref (s.heap.objs.size + 1)) { s with heap := h' }) :
    wpAny (model prog w) A (call (.type "enumerate") [v]) Q E s := by
  refine callType_new F.called_enumerate (by decide) (F.typeCall_enumerate_1 _) (F.newCall_enumerate_1 _) (fun obj => F.args_object_init_2 obj _) F.entry_enumerate_new (enum_new1 B) ⟨h1, ?_⟩
  have hz : (s.heap.push o).objs.size = s.heap.objs.size + 1 := Heap.size_push ..
  show _ ∧ _
  rw [hz]
  have he := Heap.get?_push_size (s.heap.push o) (o := { cls := .type "enumerate", data := .fields #[.none, .bool false, .ref s.heap.objs.size, rawInt 0, .none, .none] }) rfl
  rw [hz] at he
  exact ⟨⟨_, he, rfl⟩, h _ he (Heap.get?_push_of_some _ (Heap.get?_push_size _ B.free)) fun b u x => Heap.get?_push_of_some _ (Heap.get?_push_of_some _ x)⟩
/-- the tuple at a, each item in a new pair with its place -/
def IteT (K : PySem.W.Frag) (a : Addr) : It :=
  ⟨fun i H => ∃ (xs : List V) (x : V), SqT K H a xs ∧ xs[i]? = some x,
   fun i H v H' => ∃ T x, v = .ref T ∧ H T = none ∧ H' = upd H T (.tup [.int (i : Nat), x]) ∧ ∀ xs, SqT K H a xs → xs[i]? = some x,
   fun i H => ∃ xs : List V, SqT K H a xs ∧ xs.length = i⟩
theorem turn_enumT {P : Program} {w : World} {K : PySem.W.Frag} {elts : List Expr} {kk : Nat} {tpos : Pos} (a e it : Addr) (ha : a ≠ it) :
    Turn P w K (.Tuple elts kk tpos) (IteT K a) [e, it] e (fun i h => (∃ old, IsEnum h e it ((i : Nat) : Int) old) ∧ h.IsTupleIter it a i ∧ e ≠ it ∧ a ≠ e) where
  mem := List.mem_cons_self
  obj := fun i h st b hb => by
    obtain ⟨⟨old, he⟩, ⟨o, ho, _, hd⟩, _⟩ := st
    rcases List.mem_cons.mp hb with z | hb
    · subst z
      exact ⟨_, he, fun v q => nomatch q⟩
    · rw [List.mem_singleton.mp hb]
      exact ⟨o, ho, fun v q => by rw [hd] at q; cases q⟩
  keep := fun i h h' st k => by
    obtain ⟨⟨old, he⟩, hi, hne⟩ := st
    exact ⟨⟨old, k e List.mem_cons_self _ he⟩, hi.at fun o q => k it (List.mem_cons_of_mem _ List.mem_cons_self) o q, hne⟩
  item := by
    intro X hP hw hK hc i pins s σ H E I hf st hg
    subst hP hw hK
    obtain ⟨⟨old, he⟩, hit, hne, hae⟩ := st
    obtain ⟨xs, x, hq, hx⟩ := hg
    obtain ⟨its, rv, p, hz⟩ := I.tuple hq
    obtain ⟨u, hu, ru⟩ := rv.get hx
    have hel : e < s.heap.objs.size := Heap.lt_size he
    have hil : it < s.heap.objs.size := by
      obtain ⟨_, q, _⟩ := hit
      exact Heap.lt_size q
    have hlt : i < its.toArray.size := by
      rw [List.size_toArray]
      exact (List.getElem?_eq_some_iff.mp hu).1
    refine wpAny_pyNext_enum_itemD (Draws.tuple (A := X.A.in1) (I.ok.hd hc) it a ha its.toArray) he ⟨hit, p⟩ hlt hne (by simp [hne, Ne.symm hae]) fun y h' tk hy ho hst hT hsz hk => ?_
    have ey : y = u := by
      have h1 : its[i]? = some y := by simpa using hy
      rw [hu] at h1
      exact (Option.some.inj h1).symm
    subst ey
    refine ⟨_, rfl, wpAny_letOwnedTupleGo_enum (s := { s with heap := h', toks := tk + 1 }) ho fun h'' he' sb => ?_⟩
    have hT2 : h''.get? s.heap.objs.size = some { cls := .type "tuple", data := .seq #[.int i tk, y] } := (sb.2 _ (Nat.ne_of_gt hel)).trans hT
    have new : ObjOk X.prog X.w (upd H s.heap.objs.size (.tup [.int (i : Nat), x])) h'' s.heap.objs.size (.tup [.int (i : Nat), x]) :=
      ⟨by show 2 ≤ sizeLine; decide, [.int i tk, y], .cons ⟨_, rfl⟩ (.cons ru .nil), ⟨_, hT2, rfl, _, rfl⟩⟩
    have I1 : Inv X pins σ (upd H s.heap.objs.size (.tup [.int (i : Nat), x])) { s with heap := h'', toks := tk + 1 } :=
      I.turnedNew (ch := [e, it]) (fun b ob hb q => (sb.2 b (fun z => hb (by simp [z]))).trans (hk b ob (fun z => hb (by simp [z])) (fun z => hb (by simp [z])) q)) hf (Nat.le_refl _) new
    refine ⟨.ref s.heap.objs.size, _, I1, rfl, ⟨_, x, rfl, I.hok.fresh (Nat.le_refl _), rfl, fun ys hy => by rw [I.tuple_inj hy hq]; exact hx⟩, ⟨⟨y, ?_⟩, hst.1.at fun o q => (sb.2 it (Ne.symm hne)).trans q, hne, hae⟩, fun b hb => ?_⟩
    · have e1 : ((i + 1 : Nat) : Int) = (i : Int) + 1 := by omega
      rw [e1]
      exact he'
    · have hb' : b < s.heap.objs.size := by
        rcases List.mem_cons.mp hb with z | z
        · rw [z]
          exact hel
        · rw [List.mem_singleton.mp z]
          exact hil
      rw [upd_ne (Nat.ne_of_lt hb')]
      exact (hf b hb).1
  done := by
    intro X hP hw hK hc i pins s σ H E I hf st hg
    subst hP hw hK
    obtain ⟨⟨old, he⟩, hit, hne, hae⟩ := st
    obtain ⟨xs, hq, hx⟩ := hg
    obtain ⟨its, rv, p, hz⟩ := I.tuple hq
    obtain ⟨f0, f1, f2, f3, f4, f5⟩ := hf it (List.mem_cons_of_mem _ List.mem_cons_self)
    have hl := rv.length
    have hi : i = its.toArray.size := by
      rw [List.size_toArray]
      omega
    refine wpAny_pyNext_enum_endD (Draws.tuple (A := X.A.in1) (I.ok.hd hc) it a ha its.toArray) he (by rw [← hi]; exact ⟨hit, p⟩) fun h' eb => ⟨rfl, I.turned (t' := s.toks) (fun b o hb q => eb b o hb q) f0 f1 f3 f4 f5⟩
  self := fun A i s Q E st h => let ⟨⟨_, he⟩, _⟩ := st; wpAny_pyIter_enum he h
def iEnumT (K : PySem.W.Frag) (ta : TA) : TI := fun σ H R => ta σ H fun vs H1 => ∃ a xs, vs = [.ref a] ∧ SqT K H1 a xs ∧ R (IteT K a) H1
theorem pi_enumT {X : Cx} {e : Expr} {ta : TA} {p pos tpos : Pos} {elts : List Expr} {kk : Nat} (hg : Gl X "enumerate") (hm : X.mg "enumerate" = none) (ha : PA X [e] ta) (hs : starEach [e] X.env = [(false, eval e X.env)] := by rfl) :
    PI X (.Tuple elts kk tpos) (.Call (.Name "enumerate" p) [e] [] pos) (iEnumT X.K ta) := by
  refine ⟨fun pins s σ H R I h => Call_ (ld_blt I hg hm boot_enumerate (PyProof.Rows.callWith_type1 (thn (ha.run pos pins s σ H _ I h) fun us s1 hq => ?_) hs rfl))⟩
  obtain ⟨vs, H1, I1, r1, a, xs, rfl, hq, q⟩ := hq
  cases r1 with
  | cons r rr =>
    cases rr
    cases r
    obtain ⟨its, rv, p', hz⟩ := I1.tuple hq
    have hal : a < s1.heap.objs.size := p'.lt
    refine enum_call1 (begins_tuple a its.toArray) p' fun h' he hit hk => wpAny_pyIter_enum he ?_
    have I2 : Inv X pins σ H1 { s1 with heap := h' } := I1.kept (t' := s1.toks) hk
    refine ⟨s1.heap.objs.size + 1, [s1.heap.objs.size + 1, s1.heap.objs.size], _, _, H1, rfl, I2, turn_enumT a (s1.heap.objs.size + 1) s1.heap.objs.size (Nat.ne_of_lt hal),
      ⟨⟨.none, he⟩, ⟨_, hit, rfl, rfl⟩, Nat.succ_ne_self _, Nat.ne_of_lt (Nat.lt_succ_of_lt hal)⟩, fun b hb => ?_, q⟩
    have hle : s1.heap.objs.size ≤ b := by
      rcases List.mem_cons.mp hb with z | z
      · rw [z]
        exact Nat.le_succ _
      · rw [List.mem_singleton.mp z]
        exact Nat.le_refl _
    exact I1.fpOk hle (I1.hok.fresh hle)
theorem walk_enumT {K : PySem.W.Frag} {a : Addr} {xs : List V} : Walk (IteT K a) xs.length (fun H => SqT K H a xs) (YPair (fun i => some (.int (i : Nat))) (fun i => xs[i]?)) :=
  ⟨fun i _ hi q => ⟨xs, xs[i], q, by simp [hi]⟩, fun _ q => ⟨xs, q, rfl⟩, fun i H v H' _ q ⟨T, x, h1, h2, h3, h4⟩ => ⟨T, .int (i : Nat), x, h1, h2, h3, rfl, h4 xs q⟩⟩
end K76
/-! repr of data wants to know that no repr is under way: defs that are called where the row of guards is known to be empty. -/
namespace K76
open PySem PySem.Spec PyProof.Rows L2

/-! ### repr(x), x data -/
section
variable {X : Cx}
def rRepr (K : PySem.W.Frag) : List V → Hp → VK → Prop := fun xs H Q => ∃ (a : Addr) (d : PyData), xs = [.ref a] ∧ Dp K H (.ref a) d ∧ d.showable = true ∧ d.hasDict = false ∧ d.depth ≤ 60 ∧ d.shown.length ≤ sizeLine ∧ Q (.str d.shown) H
theorem call_reprD (hg : X.A.guards = some []) (hu : X.A.units + 64 < cLine) : CallR X (.builtin "repr") (rRepr X.K) := by
  intro pins s σ H xs us Q I r h
  obtain ⟨a, d, rfl, hd, hs, hn, hz, hl, q⟩ := h
  rw [Vals.ref1 r]
  obtain ⟨as, rd⟩ := Dp.reads I d (.ref a) (.ref a) hd rfl
  exact repr_of_reads' rd hs (PyData.noDict_hsm hn) hg (by omega) (fun _ _ e => e) (fun h' u tk hk => ⟨.str d.shown, H, I.kept (t' := tk) hk, ⟨u, rfl⟩, q⟩) hl
end

/-! ### a def's promise where no guard is under way -/
structure FnG (P : Program) (w : World) (K : PySem.W.Frag) (mg : Str → Option Value) (base : Heap) (k : Nat) (f : Addr) (fd : FuncData) (ps : List Str) (sp : Sp) : Prop where
  len : ∀ vs H Q E, sp vs H Q E → vs.length = ps.length
  go : ∀ (A : Around) (outer : List Env) (s : Shared) (H : Hp) (args : Args) (us : List Value) (vs : List V) (Q : VK) (E : XK),
    A.guards = some [] → Room k A → Env0 P w K mg base A outer s H → BindsTo s fd args (ps.zip us) → Vals vs us → sp vs H Q E →
      codeAny (model P w) A (.call (.ref f) args) (CR CX0 outer P w H s Q E) s
section
variable {P : Program} {w : World} {K : PySem.W.Frag} {mg : Str → Option Value} {base : Heap}
theorem okG {x qual : Str} {st : Stmt} {f : Addr} {fd : FuncData} {N ps : List Str} {k : Nat} {sp : Sp} (F : Fun K x qual st f fd) (S : FnScope N ps (defScope st)) (len : ∀ vs H Q E, sp vs H Q E → vs.length = ps.length)
    (hbody : ∀ (cdv : Value) (A : Around) (outer : List Env) (s : Shared) (H : Hp) (vs : List V) (Q : VK) (E : XK), A.guards = some [] → Room k (A.deeper (envOfC qual (defScope st) s.heap.objs.size f cdv)) → sp vs H Q E →
      ∃ t, PSs (cxOf CX0 P w K mg base N qual (defScope st) f cdv A outer s H E).nox (defBody st) t ∧ t { nx := fun _ H' => Q .non H', rt := Q } (start N vs) H) : FnG P w K mg base (k + 1) f fd ps sp := by
  obtain ⟨oc, od, kV, doc, pm, an, cdv, ct, osl, rfl, lk, hcd⟩ := F.ex
  refine ⟨len, ?_⟩
  intro A outer s H args us vs Q E hgd hroom e0 hbnd hvals hpromise
  have hlen := len _ _ _ _ hpromise
  have hK : K.In s.heap := e0.mod.kin.keeps fun b o e => (e0.bs b o e).1
  have hlimit : s.heap.NoLimit := e0.mod.nolimit.keeps fun b o e => (e0.bs b o e).1
  have hnames : ∀ y ∈ ps.zip us, (defScope st).names.lookup y.1 = some .local ∨ ((defScope st).names.lookup y.1 = some .cell ∧ ((cellsFrom (s.heap.objs.size + 1) (defScope st).names []).lookup y.1).isSome = true) := by
    intro y hy
    cases S.par y.1 (List.of_mem_zip hy).1 with
    | inl q => exact Or.inl q
    | inr q => exact Or.inr ⟨q, PySem.W.cellsFrom_some _ _ _ (Or.inl q)⟩
  refine codeAny_call_function hroom.depth (hK _ _ lk) rfl S.co S.gen rfl (PySem.W.codeRec_of hK hcd) (hbnd _ _ _ _ (wpAny_newFunctionEnv_cells S.kind hnames fun env he s1 x => ?_))
  subst he
  refine ⟨hlimit.keeps x.toInCall.keep, codeAny_func ?_⟩
  obtain ⟨t, ht, hq⟩ := hbody cdv A outer s H vs Q E hgd (hroom.deeper _) hpromise
  refine wpAny_mono (ht.nox.run [] s1 (start N vs) H _ (inv_start (CX := CX0) (E := E) S hroom.hd e0 hlen hvals x) hq) ?_ (fun e s' hs => hs)
  intro fl s' hs
  cases fl with
  | ret u =>
    obtain ⟨v, σ', H', J, rv, q⟩ := hs
    exact ⟨v, H', J.os, J.bare, J.base, J.hok, rv, q⟩
  | next =>
    obtain ⟨σ', H', J, q⟩ := hs
    exact ⟨.non, H', J.os, J.bare, J.base, J.hok, (rfl : RelV .non Value.none), q⟩
  | brk =>
    obtain ⟨_, _, _, q⟩ := hs
    exact q.elim
  | cont =>
    obtain ⟨_, _, _, q⟩ := hs
    exact q.elim
end
section
variable {X : Cx} {k : Nat} {f : Addr} {fd : FuncData} {ps : List Str} {sp : Sp} {x : Str} {p pos : Pos} {e : Expr} {es : List Expr} {t : TA}
/-- the call of such a def -/
theorem pe_callG (hgd : X.A.guards = some []) (F : FnG X.prog X.w X.K X.mg X.base k f fd ps sp) (hr : Room k X.A) (hg : Gl X x) (hm : X.mg x = some (.ref f)) (hk : PySem.W.keepIn X.K (.ref f) = true) (hb : Binds X.K fd ps []) (ha : PA X (e :: es) t)
    (hdb : (x == ("__debug__" : Str)) = false := by decide) (he : starEach (e :: es) X.env = (false, eval e X.env) :: starEach es X.env := by rfl) (hpl : (backTo pos (starEach es X.env)).any (·.1) = false := by rfl) :
    PE X (.Call (.Name x p) (e :: es) [] pos) (tCall sp [] E0 t) := by
  refine ⟨fun pins s σ H Q I h => wpAny_Call_Name_kw (ld_glob I hg hm (PySem.W.callWith_K (h₀ := X.base) I.ok.mod.kin hk (thn (ha.run pos pins s σ H _ I h) fun us s1 hq => ?_) he hpl) hdb)⟩
  obtain ⟨vs, H1, I1, r, q⟩ := hq
  refine ⟨I1.kIn, ?_⟩
  have q' : sp vs H1 Q E0 := by
    rw [List.append_nil] at q
    exact q
  have hl : us.length = ps.length := r.length.symm.trans (F.len _ _ _ _ q')
  have b := hb s1 us I1.kIn (by rw [List.append_nil]; exact hl)
  rw [List.append_nil] at b
  refine wpAny_call (codeAny_mono (F.go X.A X.stack s1 H1 ⟨us, []⟩ us vs Q E0 hgd hr I1.env0 b r q') ?_)
  intro r2 s2 hq2
  cases r2 with
  | error er => exact False.elim hq2
  | ok fl =>
    cases fl with
    | ret u => exact I1.after hq2
    | next => exact False.elim hq2
    | brk => exact False.elim hq2
    | cont => exact False.elim hq2
end

/-! ### the law's call from outside -/
section
variable {P : Program} {w : World} {K : PySem.W.Frag} {mg mb : Str → Option Value} {k : Nat} {fa a : Addr} {fd : FuncData} {x : Str} {sp : Sp} {s1 : Shared} {vs : List Value} {ns : List Int}
/-- what is tracked at the entry: the script alone, locked -/
structure Entry (K : PySem.W.Frag) (a : Addr) (vs : List Value) (ns : List Int) (H : Hp) : Prop where
  only : ∀ b, H b ≠ none → b = a ∧ H b = some (.frz { cls := .type "list", data := .seq vs.toArray } (.lst (ns.map V.int)))
  nk : H a ≠ none → K.lookup a = none
  sq : SqL K H a (ns.map V.int)
theorem entry_of (KX : K.In s1.heap) (ha : s1.heap.get? a = some { cls := .type "list", data := .seq vs.toArray }) (hi : IntsAre vs ns) (hl : ns.length ≤ sizeLine) : ∃ H, Entry K a vs ns H ∧ HOk P w H s1.heap := by
  cases hk : K.lookup a with
  | some o =>
    have e := KX a o hk
    rw [ha] at e
    cases e
    refine ⟨fun _ => none, ⟨fun b z => absurd rfl z, fun z => absurd rfl z, Or.inr ⟨_, vs.toArray, _, hk, rfl, rfl, rfl, ?_, by simpa using vals_ints hi⟩⟩, fun b u z => nomatch z⟩
    rw [List.size_toArray, hi.length]
    exact hl
  | none =>
    let H : Hp := upd (fun _ => none) a (.frz { cls := .type "list", data := .seq vs.toArray } (.lst (ns.map V.int)))
    have hb : ∀ b u, H b = some u → b = a ∧ u = .frz { cls := .type "list", data := .seq vs.toArray } (.lst (ns.map V.int)) := fun b u z => by
      by_cases q : b = a
      · subst q
        exact ⟨rfl, (Option.some.inj (upd_same.symm.trans z)).symm⟩
      · have z2 : (none : Option HO) = some u := (upd_ne (H := fun _ => none) q).symm.trans z
        cases z2
    refine ⟨H, ⟨fun b z => ?_, fun _ => hk, Or.inl (Or.inr ⟨_, upd_same⟩)⟩, fun b u z => ?_⟩
    · cases q : H b with
      | none => exact absurd q z
      | some u =>
        obtain ⟨e1, e2⟩ := hb b u q
        rw [e2]
        exact ⟨e1, rfl⟩
    · obtain ⟨e1, e2⟩ := hb b u z
      subst e1 e2
      exact ⟨ha, by rw [List.length_map]; exact hl, vs, _, vals_ints hi, ha⟩
theorem lawG (KX : K.In s1.heap) (hns : s1.heap.Ns mainGlobals mg) (hb : s1.heap.Ns builtinsNs mb) (hbb : ∀ x : Str, x ≠ "__name__" → mb x = bootBuiltins x) (hlim : s1.heap.NoLimit) (hgen : s1.gens = #[])
    (ha : s1.heap.get? a = some { cls := .type "list", data := .seq vs.toArray }) (hi : IntsAre vs ns) (hl : ns.length ≤ sizeLine) (hr : Room k callerA)
    (F : ∀ base : Heap, K.In base → base.Ns mainGlobals mg → FnG P w K mg base k fa fd [x] sp) (hbind : ∀ (s : Shared) (u : Value), BindsTo s fd ⟨[u], []⟩ [(x, u)])
    (hsp : ∀ H : Hp, SqL K H a (ns.map V.int) → sp [.ref a] H (fun v _ => v = .bl true) E0) :
    codeAny (model P w) callerA (.call (.ref fa) ⟨[.ref a], []⟩) (fun r s' => r = .ok (.ret (.bool true)) ∧ OldK s1.heap s'.heap ∧ s'.os = s1.os ∧ AllBare s'.gens) s1 := by
  obtain ⟨H, T, hok⟩ := entry_of (P := P) (w := w) KX ha hi hl
  have free : ∀ {b : Addr} {o : Obj}, s1.heap.get? b = some o → (b = a → False) → H b = none := fun {b o} _ n => by
    cases q : H b with
    | none => rfl
    | some u => exact (n (T.only b (by rw [q]; simp)).1).elim
  have ns' : ∀ {b : Addr} {m : Str → Option Value}, s1.heap.Ns b m → (hidT s1.heap H).Ns b m := by
    intro b m h
    obtain ⟨o, es, ep, e, d, r⟩ := h
    refine ⟨o, es, ep, hidT_get e (free e fun z => ?_), d, r⟩
    rw [z, ha] at e
    cases e
    cases d
  have hkb : K.In (hidT s1.heap H) := fun b o e => hidT_get (KX b o e) (by
    cases q : H b with
    | none => rfl
    | some u =>
      have z := (T.only b (by rw [q]; simp)).1
      have n := T.nk (by rw [← z, q]; simp)
      rw [z, n] at e
      cases e)
  have hmod : Mod K mg (hidT s1.heap H) := ⟨hkb, ns' hns, ⟨mb, ns' hb, hbb⟩, by
    obtain ⟨mc, h1, h2⟩ := hlim
    exact ⟨mc, ns' h1, h2⟩⟩
  have e0 : Env0 P w K mg (hidT s1.heap H) callerA [] s1 H :=
    ⟨rfl, hmod, fun b o e => of_hidT e, Nat.le_of_eq (hidT_size _ _), True.intro, fun b hm => absurd (show b ∈ ([] : List Addr) from hm) List.not_mem_nil, hok, AllBare.of_eq hgen⟩
  refine codeAny_mono ((F _ hkb (ns' hns)).go callerA [] s1 H ⟨[.ref a], []⟩ [.ref a] [.ref a] _ _ rfl hr e0 (hbind s1 (.ref a)) (.cons rfl .nil) (hsp H T.sq)) ?_
  intro r s' h
  cases r with
  | error e => exact False.elim h
  | ok fl =>
    cases fl with
    | next => exact False.elim h
    | brk => exact False.elim h
    | cont => exact False.elim h
    | ret u =>
      obtain ⟨v, H', os, bare, un, hok', r', rfl⟩ := h
      obtain rfl : u = Value.bool true := r'
      refine ⟨rfl, OldK.of_keep fun b o e => ?_, os, bare⟩
      cases q : H b with
      | none => exact un.keep b o e q (fun z => absurd (show b ∈ ([] : List Addr) from z) List.not_mem_nil) List.not_mem_nil
      | some u =>
        obtain ⟨_, z⟩ := T.only b (by rw [q]; simp)
        have z2 := un.frzs b _ _ z
        have e1 := (hok b _ z).1
        have e2 := (hok' b _ z2).1
        rw [e] at e1
        rw [e2, Option.some.inj e1]
end
theorem walkG {l : PySem.W.OpenLaw} {n k : Nat} {q : Program} {loose : List Str} {XP : (Str → Option Value) → Heap → Prop} {YP : World → Heap → Prop} {d : DefRec} {x : Str} (hn : l.most = some n) (hn2 : n ≤ sizeLine) (hdf : d.params.defaults = []) (hr : Room k callerA)
    (F : ∀ (w : World) (mg : Str → Option Value) (fa : Addr) (h : Heap), YP w h → h.Ns mainGlobals mg → mg d.name = some (.ref fa) → ∃ (K : PySem.W.Frag) (fd : FuncData) (sp : Sp), K.In h ∧ (∀ (s : Shared) (u : Value), BindsTo s fd ⟨[u], []⟩ [(x, u)]) ∧
      (∀ (H : Hp) (a : Addr) (ns : List Int), ns.length ≤ n → SqL K H a (ns.map V.int) → sp [.ref a] H (fun v _ => v = .bl true) E0) ∧ ∀ base : Heap, K.In base → base.Ns mainGlobals mg → FnG l.prog w K mg base k fa fd [x] sp) :
    PySem.W.WalkO q loose XP YP l.row.toRowW d [] (fun f vs => PySem.call f vs) := by
  refine Att.attach_call hn hdf ?_
  intro w s0 s1 mg mb fa o pm cd doc a vs ns G Y ho hd hcd hmg hobj hints hlen hg
  obtain ⟨K, fd, sp, hK, hb, hs, hF⟩ := F w mg fa _ Y G.T.g hmg
  exact lawG hK G.T.g G.T.b G.T.builtins G.T.nolimit hg hobj hints (Nat.le_trans hlen hn2) hr hF hb fun H hS => hs H a ns hlen hS
end K76
/-! The text by places, what is known of it, heaps, values that any def may be handed. -/
namespace K76
open PySem PySem.Spec PyProof.Rows L2

/-! ### the text by places -/
def top (i : Nat) : Stmt := PySem.Challenge.pw_pushedback_k76_whole_gates_and_frames.main.body.getD i (.Pass ⟨0, 0, 0, 0⟩)
abbrev sNU : Stmt := inClass (top 3) 0
abbrev sWant : Stmt := top 5
abbrev sIsInt : Stmt := top 7
abbrev sIsNum : Stmt := top 8
abbrev sIsBase : Stmt := top 9
abbrev sNums : Stmt := top 10
abbrev sDigits : Stmt := top 11
abbrev sRowOf : Stmt := top 13
abbrev sStackOf : Stmt := top 14
abbrev sAdded : Stmt := top 15
abbrev sFits : Stmt := top 17
abbrev sWantBase : Stmt := top 18
abbrev sGInit : Stmt := inClass (top 20) 0
abbrev sGFrames : Stmt := inClass (top 20) 1
abbrev sGWaiting : Stmt := inClass (top 20) 2
abbrev sGWhole : Stmt := inClass (top 20) 3
abbrev sGFeed : Stmt := inClass (top 20) 4
abbrev sGGap : Stmt := inClass (top 20) 5
abbrev sGJudged : Stmt := inClass (top 20) 6
abbrev sStreamOf : Stmt := top 22
abbrev sFramesIn : Stmt := top 23
abbrev sStartsOf : Stmt := top 24
abbrev sLFeed : Stmt := top 26
abbrev sLDraw : Stmt := top 27
abbrev sLAny : Stmt := top 28
abbrev sLSame : Stmt := top 29
abbrev sLGround : Stmt := top 30
abbrev sLRow : Stmt := top 31
abbrev sLStack : Stmt := top 32
abbrev sLStream : Stmt := top 33
abbrev sLMarks : Stmt := top 34
abbrev sLFrames : Stmt := top 35
abbrev sLStands : Stmt := top 36
abbrev sLAsked : Stmt := top 37
abbrev sLRefused : Stmt := top 38
abbrev sLScrap : Stmt := top 39
abbrev sLParts : Stmt := top 40
abbrev sLFed : Stmt := top 41
abbrev sLIsRead : Stmt := top 42
abbrev sLaw : Stmt := top 43

/-! ### built-in names that the module leaves as they are -/
structure Bt (mg : Str → Option Value) : Prop where
  isinstance : mg "isinstance" = none
  int : mg "int" = none
  bool : mg "bool" = none
  tuple : mg "tuple" = none
  all : mg "all" = none
  len : mg "len" = none
  range : mg "range" = none
  enumerate : mg "enumerate" = none
  sorted : mg "sorted" = none
  repr : mg "repr" = none
  list : mg "list" = none

/-! ### a def that stands, a def that may be called -/
structure Df (K : PySem.W.Frag) (mg : Str → Option Value) (x : Str) (st : Stmt) : Prop where
  ex : ∃ (f : Addr) (fd : FuncData), Fun K x x st f fd ∧ mg x = some (.ref f)
structure Cal (P : Program) (w : World) (K : PySem.W.Frag) (mg : Str → Option Value) (base : Heap) (CX : CXT) (k : Nat) (x : Str) (ps : List Str) (sp : Sp) : Prop where
  ex : ∃ (f : Addr) (fd : FuncData), FnOk P w K mg base CX k f fd ps sp ∧ mg x = some (.ref f) ∧ PySem.W.keepIn K (.ref f) = true ∧ Binds K fd ps []
structure CalG (P : Program) (w : World) (K : PySem.W.Frag) (mg : Str → Option Value) (base : Heap) (k : Nat) (x : Str) (ps : List Str) (sp : Sp) : Prop where
  ex : ∃ (f : Addr) (fd : FuncData), FnG P w K mg base k f fd ps sp ∧ mg x = some (.ref f) ∧ PySem.W.keepIn K (.ref f) = true ∧ Binds K fd ps []
section
variable {X : Cx} {CX : CXT} {k : Nat} {ps : List Str} {sp : Sp} {E : XK} {x : Str} {p pos : Pos} {e : Expr} {es : List Expr} {t : TA}
theorem pe_cl (G : Cal X.prog X.w X.K X.mg X.base CX k x ps sp) (hr : Room k X.A) (hx : Passes CX X E) (ha : PA X (e :: es) t) (hg : Gl X x := by rfl)
    (hdb : (x == ("__debug__" : Str)) = false := by decide) (he : starEach (e :: es) X.env = (false, eval e X.env) :: starEach es X.env := by rfl) (hpl : (backTo pos (starEach es X.env)).any (·.1) = false := by rfl) :
    PE X (.Call (.Name x p) (e :: es) [] pos) (tCall sp [] E t) := by
  obtain ⟨f, fd, F, hm, hk, hb⟩ := G.ex
  exact pe_call F hr hg hm hk hb .nil hx ha hdb he hpl
theorem pe_clG (hgd : X.A.guards = some []) (G : CalG X.prog X.w X.K X.mg X.base k x ps sp) (hr : Room k X.A) (ha : PA X (e :: es) t) (hg : Gl X x := by rfl)
    (hdb : (x == ("__debug__" : Str)) = false := by decide) (he : starEach (e :: es) X.env = (false, eval e X.env) :: starEach es X.env := by rfl) (hpl : (backTo pos (starEach es X.env)).any (·.1) = false := by rfl) :
    PE X (.Call (.Name x p) (e :: es) [] pos) (tCall sp [] E0 t) := by
  obtain ⟨f, fd, F, hm, hk, hb⟩ := G.ex
  exact pe_callG hgd F hr hg hm hk hb ha hdb he hpl
end
section
variable {P : Program} {w : World} {K : PySem.W.Frag} {mg : Str → Option Value} {base : Heap} {CX : CXT} {j k : Nat} {x : Str} {ps : List Str} {sp sp' : Sp}
theorem Cal.mono (G : Cal P w K mg base CX j x ps sp) (h : j ≤ k) : Cal P w K mg base CX k x ps sp := by
  obtain ⟨f, fd, F, r⟩ := G.ex
  exact ⟨f, fd, F.mono h, r⟩
theorem Cal.imp (G : Cal P w K mg base CX k x ps sp) (h : ∀ vs H Q E, sp' vs H Q E → sp vs H Q E) : Cal P w K mg base CX k x ps sp' := by
  obtain ⟨f, fd, F, r⟩ := G.ex
  exact ⟨f, fd, F.imp h, r⟩
end

/-! ### heaps -/
/-- all that was tracked is as it was, but at A -/
def Out (A : List Addr) (H H' : Hp) : Prop := ∀ b o, H b = some o → b ∉ A → H' b = some o
theorem Out.refl (A : List Addr) (H : Hp) : Out A H H := fun _ _ h _ => h
theorem same_new {H : Hp} {p : Addr} {o : HO} (h : H p = none) : Same H (upd H p o) := fun b u e => by
  rw [upd_ne (ne_of_none e h)]
  exact e
theorem Out.upd {A : List Addr} {H H' : Hp} {p : Addr} {o : HO} (s : Out A H H') (h : p ∈ A ∨ H p = none) : Out A H (upd H' p o) := fun b u e n => by
  have hb : b ≠ p := fun z => by
    rcases h with h | h
    · exact n (z ▸ h)
    · rw [z, h] at e
      cases e
  rw [upd_ne hb]
  exact s b u e n
theorem same_upd {H H' : Hp} {p : Addr} {o : HO} (s : Same H H') (h : H p = none) : Same H (L2.upd H' p o) := fun b u e => by
  rw [upd_ne (ne_of_none e h)]
  exact s b u e
theorem same_out {A : List Addr} {H H' : Hp} (s : Same H H') : Out A H H' := fun b o e _ => s b o e
/-- a further part of the owned: A' lies in A or is new -/
def Grow (A A' : List Addr) (H : Hp) : Prop := ∀ b ∈ A', b ∈ A ∨ H b = none
theorem Grow.refl (A : List Addr) (H : Hp) : Grow A A H := fun _ h => .inl h
theorem Out.trans {A A' : List Addr} {H H1 H2 : Hp} (a : Out A H H1) (g : Grow A A' H) (b : Out A' H1 H2) : Out A H H2 := fun c o e n => b c o (a c o e n) fun z => by
  rcases g c z with q | q
  · exact n q
  · rw [q] at e
    cases e
theorem Out.same {A : List Addr} {H H1 H2 : Hp} (a : Out A H H1) (b : Same H1 H2) : Out A H H2 := fun c o e n => b c o (a c o e n)
theorem then_out {A : List Addr} {H H1 H2 : Hp} (a : Same H H1) (b : Out A H1 H2) : Out A H H2 := fun c o e n => b c o (a c o e) n
theorem Out.none {A : List Addr} {H H' : Hp} (s : Out A H H') {p : Addr} (h : H' p = none) (n : p ∉ A) : H p = none := by
  cases q : H p with
  | none => rfl
  | some o =>
    rw [s p o q n] at h
    cases h
theorem Grow.trans {A A1 A2 : List Addr} {H H1 : Hp} (a : Grow A A1 H) (b : Grow A1 A2 H1) (s : ∀ p, H1 p = none → p ∈ A1 ∨ H p = none) : Grow A A2 H := fun c h => by
  rcases b c h with q | q
  · exact a c q
  · rcases s c q with z | z
    · exact a c z
    · exact .inr z
theorem not_mem_of {A : List Addr} {H : Hp} {p : Addr} (hA : ∀ b ∈ A, H b ≠ none) (h : H p = none) : p ∉ A := fun z => hA p z h

/-! ### values -/
abbrev zV (ns : List Int) : List V := ns.map V.int
theorem zV_at {ns : List Int} {i : Nat} {x : V} (h : (zV ns)[i]? = some x) : ∃ z, x = .int z ∧ ns[i]? = some z := by
  rw [List.getElem?_map] at h
  cases e : ns[i]? with
  | none =>
    rw [e] at h
    cases h
  | some z =>
    rw [e] at h
    exact ⟨z, (Option.some.inj h).symm, rfl⟩
theorem at_zV {ns : List Int} {i : Nat} {z : Int} (h : ns[i]? = some z) : (zV ns)[i]? = some (.int z) := by
  rw [List.getElem?_map, h]
  rfl
theorem zV_len (ns : List Int) : (zV ns).length = ns.length := List.length_map _
theorem zV_append (a b : List Int) : zV a ++ zV b = zV (a ++ b) := (List.map_append ..).symm
theorem zV_snoc (a : List Int) (z : Int) : zV a ++ [V.int z] = zV (a ++ [z]) := by rw [zV, zV, List.map_append]; rfl
theorem take_snoc {α : Type} {l : List α} {i : Nat} {z : α} (h : l[i]? = some z) : l.take (i + 1) = l.take i ++ [z] := by
  rw [List.take_add_one, h]
  rfl
/-- None, a bool, an int, a text, a list, a tuple -/
def Pl (H : Hp) : V → Prop
  | .non => True
  | .bl _ => True
  | .int _ => True
  | .str _ => True
  | .ref a => (∃ xs, H a = some (.lst xs)) ∨ ∃ xs, H a = some (.tup xs)
  | _ => False
theorem Pl.same {H H' : Hp} {x : V} (s : Same H H') (h : Pl H x) : Pl H' x := by
  cases x with
  | ref a =>
    rcases h with ⟨xs, h⟩ | ⟨xs, h⟩
    · exact .inl ⟨xs, s _ _ h⟩
    · exact .inr ⟨xs, s _ _ h⟩
  | _ => exact h
def isI : V → Bool
  | .int _ => true
  | _ => false
def numB : V → Bool
  | .int i => decide (0 ≤ i)
  | _ => false
def digB (b : Int) : V → Bool
  | .int i => decide (0 ≤ i) && decide (i < b)
  | _ => false
def isB : V → Bool
  | .bl _ => true
  | _ => false
def notT (H : Hp) (x : V) : Prop := ∀ a xs, x = .ref a → H a ≠ some (.tup xs)
theorem pl_int {K : PySem.W.Frag} {H : Hp} {x : V} (h : Pl H x) : ∃ t, TyX K H x t ∧ PySem.W.kitOne K t (.type "int") = some (isI x || isB x) := by
  cases x with
  | non => exact ⟨_, .base .non, kit_ty (show kitB "NoneType" "int" = some false by decide +kernel)⟩
  | bl b => exact ⟨_, .base (.bl b), kit_ty (show kitB "bool" "int" = some true by decide +kernel)⟩
  | int i => exact ⟨_, .base (.int i), kit_ty (show kitB "int" "int" = some true by decide +kernel)⟩
  | str z => exact ⟨_, .base (.str z), kit_ty (show kitB "str" "int" = some false by decide +kernel)⟩
  | ref a =>
    rcases h with ⟨xs, h⟩ | ⟨xs, h⟩
    · exact ⟨_, .base (.lst h), kit_ty (show kitB "list" "int" = some false by decide +kernel)⟩
    · exact ⟨_, .base (.tup h), kit_ty (show kitB "tuple" "int" = some false by decide +kernel)⟩
  | _ => exact h.elim
theorem pl_bool {K : PySem.W.Frag} {H : Hp} {x : V} (h : Pl H x) : ∃ t, TyX K H x t ∧ PySem.W.kitOne K t (.type "bool") = some (isB x) := by
  cases x with
  | non => exact ⟨_, .base .non, kit_ty (show kitB "NoneType" "bool" = some false by decide +kernel)⟩
  | bl b => exact ⟨_, .base (.bl b), kit_ty (show kitB "bool" "bool" = some true by decide +kernel)⟩
  | int i => exact ⟨_, .base (.int i), kit_ty (show kitB "int" "bool" = some false by decide +kernel)⟩
  | str z => exact ⟨_, .base (.str z), kit_ty (show kitB "str" "bool" = some false by decide +kernel)⟩
  | ref a =>
    rcases h with ⟨xs, h⟩ | ⟨xs, h⟩
    · exact ⟨_, .base (.lst h), kit_ty (show kitB "list" "bool" = some false by decide +kernel)⟩
    · exact ⟨_, .base (.tup h), kit_ty (show kitB "tuple" "bool" = some false by decide +kernel)⟩
  | _ => exact h.elim
theorem pl_notT {K : PySem.W.Frag} {H : Hp} {x : V} (h : Pl H x) (n : notT H x) : ∃ t, TyX K H x t ∧ PySem.W.kitOne K t (.type "tuple") = some false := by
  cases x with
  | non => exact ⟨_, .base .non, kit_ty (show kitB "NoneType" "tuple" = some false by decide +kernel)⟩
  | bl b => exact ⟨_, .base (.bl b), kit_ty (show kitB "bool" "tuple" = some false by decide +kernel)⟩
  | int i => exact ⟨_, .base (.int i), kit_ty (show kitB "int" "tuple" = some false by decide +kernel)⟩
  | str z => exact ⟨_, .base (.str z), kit_ty (show kitB "str" "tuple" = some false by decide +kernel)⟩
  | ref a =>
    rcases h with ⟨xs, h⟩ | ⟨xs, h⟩
    · exact ⟨_, .base (.lst h), kit_ty (show kitB "list" "tuple" = some false by decide +kernel)⟩
    · exact absurd h (n a xs rfl)
  | _ => exact h.elim
theorem pl_tup {K : PySem.W.Frag} {H : Hp} {a : Addr} {xs : List V} (h : H a = some (.tup xs)) : ∃ t, TyX K H (.ref a) t ∧ PySem.W.kitOne K t (.type "tuple") = some true :=
  ⟨_, .base (.tup h), kit_ty (show kitB "tuple" "tuple" = some true by decide +kernel)⟩
/-- what is_digits says of a value -/
def DigR (H : Hp) (b : Int) (x : V) (r : Bool) : Prop := (Pl H x ∧ notT H x ∧ r = false) ∨ ∃ a xs, x = .ref a ∧ H a = some (.tup xs) ∧ (∀ y ∈ xs, Pl H y) ∧ xs.length ≤ 5000 ∧ r = xs.all (digB b)
theorem digR_of {H : Hp} {b : Int} {a : Addr} {ns : List Int} (h : H a = some (.tup (zV ns))) (hd : Dg b ns) (hl : ns.length ≤ 5000) : DigR H b (.ref a) true := by
  refine .inr ⟨a, _, rfl, h, fun y hy => ?_, by rw [zV_len]; exact hl, ?_⟩
  · obtain ⟨z, _, rfl⟩ := List.mem_map.mp hy
    exact True.intro
  · symm
    rw [List.all_eq_true]
    intro y hy
    obtain ⟨z, hz, rfl⟩ := List.mem_map.mp hy
    have := hd z hz
    simp [digB, this.1, this.2]
end K76
/-! errors, a_wants, kinds. -/
namespace K76
open PySem PySem.Spec PyProof.Rows L2

/-- what is known of the class NotUsable, at C -/
structure NUx (K : PySem.W.Frag) (mg : Str → Option Value) (C : Addr) : Prop where
  T : OexC K C
  gC : mg "NotUsable" = some (.ref C)
  xf : XfC K C
  nW : PySem.W.findIn K (.ref C) "word" = some none
  nA : PySem.W.findIn K (.ref C) "at" = some none
  te : PySem.W.exmOne K (.ref C) (.ref C) = some true
  ini : ∃ (f : Addr) (fd : FuncData), PySem.W.findIn K (.ref C) "__init__" = some (some (.ref f)) ∧ PySem.W.typeIn K (.ref f) = some (.type "function") ∧ Fun K "__init__" "NotUsable.__init__" sNU f fd
/-- the fields of such an error -/
def nuF (x : Str) : List (Str × V) := [("at", .int (-1)), ("word", .str x)]

def spNU (C : Addr) : Sp := fun vs H Q _ => ∃ (a : Addr) (y z : V), vs = [.ref a, y, z] ∧ H a = some (exo a C none) ∧
  ∀ dx, H dx = none → dx ≠ a → Q .non (upd (upd (upd H dx (exd dx [("word", y)])) a (exo a C (some dx))) dx (exd dx [("at", z), ("word", y)]))
def spWant (C : Addr) : Sp := fun vs H Q E => ∃ (b : Bool) (x : Str), vs = [.bl b, .str x] ∧ (b = true → Q .non H) ∧
  (b = false → ∀ d H', Same H H' → H' d = some (.xd (nuF x)) → E (.ref C) (some d) H')
def spIsInt : Sp := fun vs H Q _ => ∃ x, vs = [x] ∧ Pl H x ∧ Q (.bl (isI x)) H
def spIsNum : Sp := fun vs H Q _ => ∃ x, vs = [x] ∧ Pl H x ∧ Q (.bl (numB x)) H
def spIsBase : Sp := fun vs H Q _ => ∃ b : Int, vs = [.int b] ∧ Q (.bl (decide (2 ≤ b ∧ b ≤ 256))) H
def spNums : Sp := fun vs H Q _ => ∃ x, vs = [x] ∧ ((Pl H x ∧ notT H x ∧ Q (.bl false) H) ∨ ∃ a xs, x = .ref a ∧ H a = some (.tup xs) ∧ (∀ y ∈ xs, Pl H y) ∧ xs.length ≤ 5000 ∧ ∀ H', Same H H' → Q (.bl (xs.all numB)) H')
def spDigits : Sp := fun vs H Q _ => ∃ (b : Int) (x : V) (r : Bool), vs = [.int b, x] ∧ 2 ≤ b ∧ b ≤ 256 ∧ DigR H b x r ∧ ∀ H', Same H H' → Q (.bl r) H'

section
variable {P : Program} {w : World} {K : PySem.W.Frag} {mg : Str → Option Value} {base : Heap} {C : Addr}

theorem scNU : FnScope ["self", "word", "at"] ["self", "word", "at"] (defScope sNU) := ⟨rfl, rfl, rfl, by decide +kernel, rfl, by decide +kernel, by decide +kernel⟩
theorem ok_nu {f : Addr} {fd : FuncData} (F : Fun K "__init__" "NotUsable.__init__" sNU f fd) (N : NUx K mg C) : FnOk P w K mg base CX0 1 f fd ["self", "word", "at"] (spNU C) := by
  refine F.ok scNU (fun vs H Q E h => ?_) (fun cdv A outer s H vs Q E hr h => ?_)
  · obtain ⟨a, y, z, rfl, _⟩ := h
    rfl
  · obtain ⟨a, y, z, rfl, ha, k⟩ := h
    refine ⟨_, pss_cons (ps_ost (pv 0) (pv 1)) (pss_one (ps_ost (pv 0) (pv 2))), ?_⟩
    refine ⟨_, rfl, _, rfl, a, C, rfl, N.T, N.nW, .inl ⟨ha, fun dx hd hne => ?_⟩⟩
    refine ⟨_, rfl, _, rfl, a, C, rfl, N.T, N.nA, .inr ⟨dx, [("word", y)], upd_same, ?_, (by show 1 ≤ 900; decide), k dx hd hne⟩⟩
    rw [upd_ne hne, upd_same]
theorem scWant : FnScope ["good", "word"] ["good", "word"] (defScope sWant) := ⟨rfl, rfl, rfl, by decide +kernel, rfl, by decide +kernel, by decide +kernel⟩
theorem ok_want (D : Df K mg "a_want" sWant) (N : NUx K mg C) : Cal P w K mg base (L2.CX P w) 3 "a_want" ["good", "word"] (spWant C) := by
  obtain ⟨f, fd, F, g⟩ := D.ex
  obtain ⟨fI, fdI, iC, tI, FI⟩ := N.ini
  have bI : Binds K fdI ["self", "word", "at"] [] := FI.binds fun _ _ _ _ _ _ us hl => match us, hl with | [_, _, _], _ => rfl
  refine ⟨f, fd, F.okX scWant (fun vs H Q E h => ?_) (fun cdv A outer s H vs Q E hr h => ?_), g, F.kp, F.binds fun _ _ _ _ _ _ us hl => match us, hl with | [_, _], _ => rfl⟩
  · obtain ⟨b, x, rfl, _⟩ := h
    rfl
  · obtain ⟨b, x, rfl, k1, k2⟩ := h
    refine ⟨_, pss_one (ps_if (pt_not (pt_val (pv 0))) (pss_one (ps_raise rfl (takes_of rfl rfl rfl rfl)
      (pmk_oex N.T iC tI (ok_nu FI N) hr bI .nil pass0 rfl N.gC (pa_cons (pv 1) (pa_cons (pe_un un_neg pe_int) pa_nil))))) pss_nil), ?_⟩
    refine ⟨_, rfl, b, rfl, ?_⟩
    cases b with
    | true =>
      refine iteF ?_
      exact k1 rfl
    | false =>
      refine iteT ?_
      refine ⟨_, rfl, _, rfl, (by show 2 ≤ 1000; decide), fun a ha => ?_⟩
      refine ⟨a, _, _, rfl, upd_same, fun dx hd hne => ⟨rfl, dx, _, by rw [upd_ne (Ne.symm hne), upd_same], upd_same, ?_, ?_⟩⟩
      · rwa [upd_ne hne] at hd
      · have hd0 : H dx = none := by rwa [upd_ne hne] at hd
        refine k2 rfl dx _ (fun b o e => ?_) upd_same
        have h1 : b ≠ dx := ne_of_none e hd0
        have h2 : b ≠ a := ne_of_none e ha
        rw [upd_ne h1, del_ne h2, upd_ne h1, upd_ne h2, upd_ne h1, upd_ne h2]
        exact e

theorem scIsInt : FnScope ["thing"] ["thing"] (defScope sIsInt) := ⟨rfl, rfl, rfl, by decide +kernel, rfl, by decide +kernel, by decide +kernel⟩
theorem ok_isInt (D : Df K mg "is_integer" sIsInt) (T : Bt mg) : Cal P w K mg base CX0 1 "is_integer" ["thing"] spIsInt := by
  obtain ⟨f, fd, F, g⟩ := D.ex
  refine ⟨f, fd, F.ok scIsInt (fun vs H Q E h => ?_) (fun cdv A outer s H vs Q E hr h => ?_), g, F.kp, F.binds fun _ _ _ _ _ _ us hl => match us, hl with | [_], _ => rfl⟩
  · obtain ⟨x, rfl, _⟩ := h
    rfl
  · obtain ⟨x, rfl, hp, k⟩ := h
    refine ⟨_, pss_one (ps_ret (pe_and (pe_callB call_isi (by rfl) T.isinstance (by decide +kernel) (pa_cons (pv 0) (pa_cons (pe_bltn (v := .ty "int") (by rfl) T.int (by decide +kernel) rfl) pa_nil)))
      (pe_one (pe_not (pe_callB call_isi (by rfl) T.isinstance (by decide +kernel) (pa_cons (pv 0) (pa_cons (pe_bltn (v := .ty "bool") (by rfl) T.bool (by decide +kernel) rfl) pa_nil))))))), ?_⟩
    obtain ⟨t, h1, h2⟩ := pl_int (K := K) hp
    obtain ⟨t', h3, h4⟩ := pl_bool (K := K) hp
    refine ⟨_, rfl, x, _, t, _, _, rfl, .ty "int", h1, h2, _, rfl, ?_⟩
    cases hb : isI x || isB x with
    | false =>
      refine iteF ?_
      have e : isI x = false := by
        cases q : isI x with
        | false => rfl
        | true =>
          rw [q] at hb
          cases hb
      rw [e] at k
      exact k
    | true =>
      refine iteT ?_
      refine ⟨_, rfl, x, _, t', _, _, rfl, .ty "bool", h3, h4, _, rfl, ?_⟩
      have e : (!isB x) = isI x := by
        cases x <;> first | rfl | cases hb
      rw [e]
      exact k
theorem scIsNum : FnScope ["thing"] ["thing"] (defScope sIsNum) := ⟨rfl, rfl, rfl, by decide +kernel, rfl, by decide +kernel, by decide +kernel⟩
theorem ok_isNum (D : Df K mg "is_number" sIsNum) (GI : Cal P w K mg base CX0 1 "is_integer" ["thing"] spIsInt) : Cal P w K mg base CX0 2 "is_number" ["thing"] spIsNum := by
  obtain ⟨f, fd, F, g⟩ := D.ex
  refine ⟨f, fd, F.ok scIsNum (fun vs H Q E h => ?_) (fun cdv A outer s H vs Q E hr h => ?_), g, F.kp, F.binds fun _ _ _ _ _ _ us hl => match us, hl with | [_], _ => rfl⟩
  · obtain ⟨x, rfl, _⟩ := h
    rfl
  · obtain ⟨x, rfl, hp, k⟩ := h
    refine ⟨_, pss_one (ps_ret (pe_and (pe_cl GI hr pass0 (pa_cons (pv 0) pa_nil)) (pe_one (pe_cmpR op_ge (pv 0) pe_int (nomark _))))), ?_⟩
    refine ⟨_, rfl, x, rfl, hp, _, rfl, ?_⟩
    cases x with
    | int i => exact iteT ⟨_, rfl, i, 0, rfl, rfl, k⟩
    | _ => exact iteF k
theorem scIsBase : FnScope ["thing"] ["thing"] (defScope sIsBase) := ⟨rfl, rfl, rfl, by decide +kernel, rfl, by decide +kernel, by decide +kernel⟩
theorem ok_isBase (D : Df K mg "is_base" sIsBase) (GI : Cal P w K mg base CX0 1 "is_integer" ["thing"] spIsInt) : Cal P w K mg base CX0 2 "is_base" ["thing"] spIsBase := by
  obtain ⟨f, fd, F, g⟩ := D.ex
  refine ⟨f, fd, F.ok scIsBase (fun vs H Q E h => ?_) (fun cdv A outer s H vs Q E hr h => ?_), g, F.kp, F.binds fun _ _ _ _ _ _ us hl => match us, hl with | [_], _ => rfl⟩
  · obtain ⟨x, rfl, _⟩ := h
    rfl
  · obtain ⟨b, rfl, k⟩ := h
    refine ⟨_, pss_one (ps_ret (pe_and (pe_cl GI hr pass0 (pa_cons (pv 0) pa_nil)) (pe_one (pe_chain op_le op_le pe_int (pv 0) pe_int)))), ?_⟩
    refine ⟨_, rfl, .int b, rfl, True.intro, _, rfl, iteT ?_⟩
    refine ⟨_, rfl, _, _, rfl, rfl, _, rfl, ?_⟩
    by_cases h1 : 2 ≤ b
    · rw [decide_eq_true h1]
      refine iteT ⟨_, _, rfl, rfl, ?_⟩
      have e : decide (2 ≤ b ∧ b ≤ 256) = decide (b ≤ 256) := by simp [h1]
      rw [e] at k
      exact k
    · rw [decide_eq_false h1]
      refine iteF ?_
      have e : decide (2 ≤ b ∧ b ≤ 256) = false := by simp [h1]
      rw [e] at k
      exact k
end
end K76
/-! kinds: tuples of numbers, digits. -/
namespace K76
open PySem PySem.Spec PyProof.Rows L2
section
variable {P : Program} {w : World} {K : PySem.W.Frag} {mg : Str → Option Value} {base : Heap} {C : Addr}
theorem line5000 {n : Nat} (h : n ≤ 5000) : n < sizeLine := Nat.lt_of_le_of_lt h (by decide)
theorem scNums : FnScope ["thing", "part"] ["thing"] (defScope sNums) := ⟨rfl, rfl, rfl, by decide +kernel, rfl, by decide +kernel, by decide +kernel⟩
theorem ok_nums (D : Df K mg "a_is_numbers" sNums) (T : Bt mg) (GN : Cal P w K mg base CX0 2 "is_number" ["thing"] spIsNum) : Cal P w K mg base CX0 3 "a_is_numbers" ["thing"] spNums := by
  obtain ⟨f, fd, F, g⟩ := D.ex
  refine ⟨f, fd, F.ok scNums (fun vs H Q E h => ?_) (fun cdv A outer s H vs Q E hr h => ?_), g, F.kp, F.binds fun _ _ _ _ _ _ us hl => match us, hl with | [_], _ => rfl⟩
  · obtain ⟨x, rfl, _⟩ := h
    rfl
  · obtain ⟨x, rfl, h⟩ := h
    refine ⟨_, pss_one (ps_ret (pe_and (pe_callB call_isi (by rfl) T.isinstance (by decide +kernel) (pa_cons (pv 0) (pa_cons (pe_bltn (v := .ty "tuple") (by rfl) T.tuple (by decide +kernel) rfl) pa_nil)))
      (pe_one (pe_callB (cr_all rfl) (by rfl) T.all (by decide +kernel) (pa_cons
        (pe_lc (own := [("part", 1)]) (g := gName 1) (tt := tYes) rfl scNums.nd (pi_tup (pv 0)) (blkOk_by (own := [("part", 1)]) (N := ["thing", "part"]) (sc := defScope sNums) (by decide +kernel))
          (fun _ _ _ _ _ => pg_name (i := 1) scNums.nd rfl (Or.inl rfl)) (fun _ _ _ _ _ => pts_nil) (fun _ _ _ _ _ => pe_cl GN hr pass0 (pa_cons (pv 1) pa_nil))) pa_nil))))), ?_⟩
    rcases h with ⟨hp, hn, k⟩ | ⟨a, xs, rfl, ha, hy, hz, k⟩
    · obtain ⟨t, h1, h2⟩ := pl_notT (K := K) hp hn
      exact ⟨_, rfl, x, _, t, _, _, rfl, .ty "tuple", h1, h2, _, rfl, iteF k⟩
    · obtain ⟨t, h1, h2⟩ := pl_tup (K := K) ha
      refine ⟨_, rfl, _, _, t, _, _, rfl, .ty "tuple", h1, h2, _, rfl, iteT ?_⟩
      refine ⟨_, rfl, a, rfl, ⟨xs, SqT.of ha⟩, fun D hD => lc_tup (K := K) (a := a) (xs := xs) (fun i H' => Same H H' ∧ H' D = some (.lst (((xs.take i).map numB).map V.bl))) ⟨same_new hD, upd_same⟩ (fun i H' _ q => SqT.of (q.1 _ _ ha)) ?_ ?_⟩
      · rintro i x H' hi ⟨s1, e1⟩
        have hil : i < xs.length := (List.getElem?_eq_some_iff.mp hi).1
        refine ⟨rfl, ?_⟩
        refine ⟨_, rfl, x, rfl, (hy x (List.mem_of_getElem? hi)).same s1, _, e1, ?_, same_upd s1 hD, ?_⟩
        · rw [List.length_map, List.length_map]
          exact line5000 (Nat.le_trans (List.length_take_le' _ _) hz)
        · rw [upd_same, take_snoc hi, List.map_append, List.map_append]
          rfl
      · rintro H' ⟨s1, e1⟩
        rw [List.take_length] at e1
        refine ⟨D, xs.map numB, rfl, SqL.of e1, ?_⟩
        have e : (xs.map numB).all id = xs.all numB := by
          rw [List.all_map]
          rfl
        rw [e]
        exact k H' s1
theorem dig_num {b : Int} {xs : List V} (h : xs.all (digB b) = true) : xs.all numB = true := by
  rw [List.all_eq_true] at h ⊢
  intro y hy
  have := h y hy
  cases y <;> simp_all [digB, numB]
theorem num_int {xs : List V} (h : xs.all numB = true) : ∀ y ∈ xs, ∃ i, y = V.int i ∧ 0 ≤ i := by
  rw [List.all_eq_true] at h
  intro y hy
  have := h y hy
  cases y <;> simp_all [numB]
def ltB (b : Int) : V → Bool
  | .int i => decide (i < b)
  | _ => false
theorem dig_lt {b : Int} {xs : List V} (h : xs.all numB = true) : xs.all (ltB b) = xs.all (digB b) := by
  have hn := num_int h
  clear h
  induction xs with
  | nil => rfl
  | cons y r ih =>
    obtain ⟨i, rfl, h0⟩ := hn y List.mem_cons_self
    simp only [List.all_cons]
    rw [ih fun z hz => hn z (List.mem_cons_of_mem _ hz)]
    simp [ltB, digB, h0]
theorem scDigits : FnScope ["base", "thing", "part"] ["base", "thing"] (defScope sDigits) := ⟨rfl, rfl, rfl, by decide +kernel, rfl, by decide +kernel, by decide +kernel⟩
theorem ok_digits (D : Df K mg "is_digits" sDigits) (T : Bt mg) (GW : Cal P w K mg base (L2.CX P w) 3 "a_want" ["good", "word"] (spWant C)) (GB : Cal P w K mg base CX0 2 "is_base" ["thing"] spIsBase) (GN : Cal P w K mg base CX0 3 "a_is_numbers" ["thing"] spNums) :
    Cal P w K mg base CX0 4 "is_digits" ["base", "thing"] spDigits := by
  obtain ⟨f, fd, F, g⟩ := D.ex
  refine ⟨f, fd, F.ok scDigits (fun vs H Q E h => ?_) (fun cdv A outer s H vs Q E hr h => ?_), g, F.kp, F.binds fun _ _ _ _ _ _ us hl => match us, hl with | [_, _], _ => rfl⟩
  · obtain ⟨b, x, r, rfl, _⟩ := h
    rfl
  · obtain ⟨b, x, r, rfl, h2, h256, hd, k⟩ := h
    refine ⟨_, pss_cons (ps_expr (pe_cl GW hr passL (pa_cons (pe_cl GB (hr.mono (by decide)) pass0 (pa_cons (pv 0) pa_nil)) (pa_cons pe_str pa_nil))))
      (pss_one (ps_ret (pe_and (pe_cl GN hr pass0 (pa_cons (pv 1) pa_nil))
      (pe_one (pe_callB (cr_all rfl) (by rfl) T.all (by decide +kernel) (pa_cons
        (pe_lc (own := [("part", 2)]) (g := gName 2) (tt := tYes) rfl scDigits.nd (pi_tup (pv 1)) (blkOk_by (own := [("part", 2)]) (N := ["base", "thing", "part"]) (sc := defScope sDigits) (by decide +kernel))
          (fun _ _ _ _ _ => pg_name (i := 2) scDigits.nd rfl (Or.inl rfl)) (fun _ _ _ _ _ => pts_nil) (fun _ _ _ _ _ => pe_cmpR op_lt (pv 2) (pv 0) (nomark _))) pa_nil)))))), ?_⟩
    refine ⟨_, rfl, b, rfl, _, _, rfl, fun _ => ?_, fun z => ?_⟩
    · rcases hd with ⟨hp, hn, rfl⟩ | ⟨a, xs, rfl, ha, hy, hz, rfl⟩
      · exact ⟨_, rfl, x, rfl, .inl ⟨hp, hn, _, rfl, iteF (k H (Same.refl H))⟩⟩
      · refine ⟨_, rfl, _, rfl, .inr ⟨a, xs, rfl, ha, hy, hz, fun H1 s1 => ⟨_, rfl, ?_⟩⟩⟩
        cases hb : xs.all numB with
        | false =>
          refine iteF ?_
          have e : xs.all (digB b) = false := by
            cases q : xs.all (digB b) with
            | false => rfl
            | true =>
              rw [dig_num q] at hb
              cases hb
          rw [e] at k
          exact k H1 s1
        | true =>
          refine iteT ?_
          refine ⟨_, rfl, a, rfl, ⟨xs, SqT.of (s1 _ _ ha)⟩, fun D hD => lc_tup (K := K) (a := a) (xs := xs) (fun i H' => Same H1 H' ∧ H' D = some (.lst (((xs.take i).map (ltB b)).map V.bl))) ⟨same_new hD, upd_same⟩ (fun i H' _ q => SqT.of (q.1 _ _ (s1 _ _ ha))) ?_ ?_⟩
          · rintro i x H' hi ⟨s2, e1⟩
            have hil : i < xs.length := (List.getElem?_eq_some_iff.mp hi).1
            obtain ⟨z, rfl, hz0⟩ := num_int hb x (List.mem_of_getElem? hi)
            refine ⟨rfl, ?_⟩
            refine ⟨_, rfl, _, rfl, _, _, rfl, rfl, _, e1, ?_, same_upd s2 hD, ?_⟩
            · rw [List.length_map, List.length_map]
              exact line5000 (Nat.le_trans (List.length_take_le' _ _) hz)
            · rw [upd_same, take_snoc hi, List.map_append, List.map_append]
              rfl
          · rintro H' ⟨s2, e1⟩
            rw [List.take_length] at e1
            refine ⟨D, xs.map (ltB b), rfl, SqL.of e1, ?_⟩
            have e : (xs.map (ltB b)).all id = xs.all (digB b) := by
              rw [List.all_map, ← dig_lt hb]
              rfl
            rw [e]
            exact k H' (s1.trans s2)
    · have e : decide (2 ≤ b ∧ b ≤ 256) = true := decide_eq_true ⟨h2, h256⟩
      rw [e] at z
      cases z
end
end K76
/-! digitrows, g_wants. -/
namespace K76
open PySem PySem.Spec PyProof.Rows L2
/-- a row of a base: its digits, its length -/
def spRowOf : Sp := fun vs H Q _ => ∃ (c : Int) (w : List Int), vs = [.int c, .int (stk c w)] ∧ 2 ≤ c ∧ c ≤ 256 ∧ Dg c w ∧ w.length ≤ 1000 ∧ ∀ p H', Same H H' → H p = none → H' p = some (.tup (zV w)) → Q (.ref p) H'
def spAdded : Sp := fun vs H Q _ => ∃ (c : Int) (a : Addr) (w : List Int), vs = [.int c, .int 0, .ref a] ∧ 2 ≤ c ∧ c ≤ 256 ∧ H a = some (.tup (zV w)) ∧ Dg c w ∧ w.length ≤ 1000 ∧ ∀ H', Same H H' → Q (.int (stk c w)) H'
def spStackOf : Sp := fun vs H Q _ => ∃ (c : Int) (a : Addr) (w : List Int), vs = [.int c, .ref a] ∧ 2 ≤ c ∧ c ≤ 256 ∧ H a = some (.tup (zV w)) ∧ Dg c w ∧ w.length ≤ 1000 ∧ ∀ H', Same H H' → Q (.int (stk c w)) H'
def spWantBase : Sp := fun vs H Q _ => ∃ b : Int, vs = [.int b] ∧ 3 ≤ b ∧ b ≤ 256 ∧ Q .non H
def spFits : Sp := fun vs H Q _ => ∃ (b : Int) (a : Addr) (w : List Int), vs = [.int b, .ref a] ∧ 3 ≤ b ∧ b ≤ 256 ∧ H a = some (.tup (zV w)) ∧ Dg b w ∧ w.length ≤ 5000 ∧ w.head? = some (b - 1) ∧ w.getLast? = some (b - 1) ∧ ∀ H', Same H H' → Q (.bl true) H'
section
variable {P : Program} {w : World} {K : PySem.W.Frag} {mg : Str → Option Value} {base : Heap} {C : Addr}
theorem want_true {b : Int} {p : Prop} [Decidable p] (h : p) {A : Prop} (z : decide p = false) : A := by
  rw [decide_eq_true h] at z
  cases z
theorem scRowOf : FnScope ["base", "stack", "digits", "left"] ["base", "stack"] (defScope sRowOf) := ⟨rfl, rfl, rfl, by decide +kernel, rfl, by decide +kernel, by decide +kernel⟩
/-- the measure of a loop: an int's slot -/
def muI (i : Nat) : L2.St → Hp → Nat := fun σ _ => match σ[i]? with
  | some (some (.int z)) => z.toNat
  | _ => 0
theorem ok_rowOf (D : Df K mg "row_of" sRowOf) (T : Bt mg) (GW : Cal P w K mg base (L2.CX P w) 3 "a_want" ["good", "word"] (spWant C)) (GB : Cal P w K mg base CX0 2 "is_base" ["thing"] spIsBase) (GN : Cal P w K mg base CX0 2 "is_number" ["thing"] spIsNum) :
    Cal P w K mg base CX0 4 "row_of" ["base", "stack"] spRowOf := by
  obtain ⟨f, fd, F, g⟩ := D.ex
  refine ⟨f, fd, F.ok scRowOf (fun vs H Q E h => ?_) (fun cdv A outer s H vs Q E hr h => ?_), g, F.kp, F.binds fun _ _ _ _ _ _ us hl => match us, hl with | [_, _], _ => rfl⟩
  · obtain ⟨c, w, rfl, _⟩ := h
    rfl
  · obtain ⟨c, w, rfl, h2, h256, hd, hz, k⟩ := h
    refine ⟨_, pss_cons (ps_expr (pe_cl GW hr passL (pa_cons (pe_cl GB (hr.mono (by decide)) pass0 (pa_cons (pv 0) pa_nil)) (pa_cons pe_str pa_nil))))
      (pss_cons (ps_expr (pe_cl GW hr passL (pa_cons (pe_cl GN (hr.mono (by decide)) pass0 (pa_cons (pv 1) pa_nil)) (pa_cons pe_str pa_nil))))
      (pss_cons (ps_set (i := 2) scRowOf.nd rfl (Or.inl rfl) (pe_lst pa_nil))
      (pss_cons (ps_set (i := 3) scRowOf.nd rfl (Or.inl rfl) (pv 1))
      (pss_cons (ps_while PassesOwn.never (pt_cmpR op_gt (pv 3) pe_int (nomark _))
        (pss_cons (ps_expr (pe_bm PySem.F.plainAttrs_list PySem.F.slot_list_append PySem.F.type_list_append mt_append (pv 2) (pa_cons (pe_op op_mod (pe_op op_sub (pv 3) pe_int) (pv 0)) pa_nil)))
        (pss_one (ps_set (i := 3) scRowOf.nd rfl (Or.inl rfl) (pe_op op_fdiv (pe_op op_sub (pv 3) pe_int) (pv 0))))))
      (pss_one (ps_ret (pe_callTy call_tuple_of (by rfl) T.tuple (by decide +kernel) (pa_cons (pe_revL (pv 2)) pa_nil)))))))), ?_⟩
    have hc0 : 0 ≤ c := by omega
    refine ⟨_, rfl, c, rfl, _, _, rfl, fun _ => ?_, fun z => want_true (b := c) ⟨h2, h256⟩ z⟩
    refine ⟨_, rfl, _, rfl, True.intro, _, _, rfl, fun _ => ?_, fun z => want_true (b := c) (stk_nn hc0 hd) z⟩
    refine ⟨Nat.zero_le _, fun l hl => ?_⟩
    refine ⟨_, rfl, ?_⟩
    refine while_by (fun σ H' => ∃ u v : List Int, w = u ++ v ∧ σ = [some (.int c), some (.int (stk c w)), some (.ref l), some (.int (stk c u))] ∧ Same H H' ∧ H' l = some (.lst (zV v.reverse))) (muI 3)
      ⟨w, [], by simp, rfl, same_new hl, upd_same⟩ ?_ (fun σ H' Q1 Q2 m ⟨v, e, i, j, q1, q2, b, q3, q⟩ => ⟨v, e, i, j, q1, q2, b, q3, m _ _ q⟩)
    rintro σ H1 ⟨u, v, rfl, rfl, s1, e1⟩
    refine ⟨_, rfl, _, _, rfl, rfl, _, rfl, ?_⟩
    rcases nil_or_snoc u with rfl | ⟨u', d, rfl⟩
    · rw [show decide ((0 : Int) < stk c []) = false from rfl]
      refine iteF ?_
      refine ⟨_, rfl, l, _, rfl, SqL.of e1, fun p hp => ?_⟩
      refine ⟨p, _, rfl, .inl ⟨SqL.of upd_same, fun q hq => ?_⟩⟩
      have hp0 : H p = none := Same.free s1 hp
      have s2 : Same H (upd H1 p (.lst (zV v.reverse).reverse)) := same_upd s1 hp0
      refine k q _ (same_upd s2 (Same.free s2 hq)) (Same.free s2 hq) ?_
      rw [upd_same]
      simp [zV]
    · have hpos := stk_pos h2 hd.left (by simp)
      have hdd := hd.left d (by simp)
      obtain ⟨q1, q2⟩ := stk_last h2 (w := u') hdd.1 hdd.2
      rw [decide_eq_true hpos]
      refine iteT ?_
      refine ⟨_, rfl, .inl ⟨rfl, _, SqL.of e1⟩, _, rfl, _, _, rfl, rfl, _, rfl, _, _, rfl, rfl, (by show 0 < c; omega), l, _, _, rfl, rfl, e1, ?_, ?_⟩
      · rw [zV_len, List.length_reverse]
        simp only [List.length_append] at hz
        exact line5000 (by omega)
      · refine ⟨_, rfl, _, _, rfl, rfl, _, rfl, _, _, rfl, rfl, ⟨by omega, by omega⟩, ?_⟩
        refine ⟨⟨u', d :: v, by simp, ?_, same_upd s1 hl, ?_⟩, ?_⟩
        · rw [← q2]
          rfl
        · rw [upd_same, List.reverse_cons, ← zV_snoc]
          exact congrArg (fun z => some (HO.lst (zV v.reverse ++ [V.int z]))) q1
        · have a1 := stk_nn hc0 hd.left.left
          have a2 := stk_lt h2 hd.left
          show ((stk c (u' ++ [d]) - 1) / c).toNat < (stk c (u' ++ [d])).toNat
          omega
theorem scAdded : FnScope ["base", "stack", "digits", "total", "digit"] ["base", "stack", "digits"] (defScope sAdded) := ⟨rfl, rfl, rfl, by decide +kernel, rfl, by decide +kernel, by decide +kernel⟩
theorem ok_added (D : Df K mg "added" sAdded) (GW : Cal P w K mg base (L2.CX P w) 3 "a_want" ["good", "word"] (spWant C)) (GB : Cal P w K mg base CX0 2 "is_base" ["thing"] spIsBase) (GN : Cal P w K mg base CX0 2 "is_number" ["thing"] spIsNum)
    (GD : Cal P w K mg base CX0 4 "is_digits" ["base", "thing"] spDigits) : Cal P w K mg base CX0 5 "added" ["base", "stack", "digits"] spAdded := by
  obtain ⟨f, fd, F, g⟩ := D.ex
  refine ⟨f, fd, F.ok scAdded (fun vs H Q E h => ?_) (fun cdv A outer s H vs Q E hr h => ?_), g, F.kp, F.binds fun _ _ _ _ _ _ us hl => match us, hl with | [_, _, _], _ => rfl⟩
  · obtain ⟨c, a, w, rfl, _⟩ := h
    rfl
  · obtain ⟨c, a, w, rfl, h2, h256, ha, hd, hz, k⟩ := h
    refine ⟨_, pss_cons (ps_expr (pe_cl GW (hr.mono (by decide)) passL (pa_cons (pe_cl GB (hr.mono (by decide)) pass0 (pa_cons (pv 0) pa_nil)) (pa_cons pe_str pa_nil))))
      (pss_cons (ps_expr (pe_cl GW (hr.mono (by decide)) passL (pa_cons (pe_cl GN (hr.mono (by decide)) pass0 (pa_cons (pv 1) pa_nil)) (pa_cons pe_str pa_nil))))
      (pss_cons (ps_expr (pe_cl GW (hr.mono (by decide)) passL (pa_cons (pe_cl GD hr pass0 (pa_cons (pv 0) (pa_cons (pv 2) pa_nil))) (pa_cons pe_str pa_nil))))
      (pss_cons (ps_set (i := 3) scAdded.nd rfl (Or.inl rfl) (pv 1))
      (pss_cons (ps_for PassesOwn.never rfl (pi_tup (pv 2)) (pg_name (i := 4) scAdded.nd rfl (Or.inl rfl))
        (pss_one (ps_set (i := 3) scAdded.nd rfl (Or.inl rfl) (pe_op op_add (pe_op op_add (pe_op op_mul (pv 3) (pv 0)) (pv 4)) pe_int))))
      (pss_one (ps_ret (pv 3))))))), ?_⟩
    have hc0 : 0 ≤ c := by omega
    refine ⟨_, rfl, c, rfl, _, _, rfl, fun _ => ?_, fun z => want_true (b := c) ⟨h2, h256⟩ z⟩
    refine ⟨_, rfl, _, rfl, True.intro, _, _, rfl, fun _ => ?_, fun z => want_true (b := c) (Int.le_refl 0) z⟩
    refine ⟨_, rfl, _, rfl, c, _, true, rfl, h2, h256, digR_of ha hd (by omega), fun H1 s1 => ⟨_, _, rfl, fun _ => ?_, fun z => by cases z⟩⟩
    refine ⟨_, rfl, ?_⟩
    refine ⟨_, rfl, a, rfl, ⟨_, SqT.of (s1 _ _ ha)⟩, for_tup (K := K) (a := a) (xs := zV w) (fun i σ H' => H' = H1 ∧ ∃ o : Option V, σ = [some (.int c), some (.int 0), some (.ref a), some (.int (stk c (w.take i))), o]) ⟨rfl, none, rfl⟩
      (fun i σ H' _ q => by rw [q.1]; exact SqT.of (s1 _ _ ha)) ?_ ?_⟩
    · rintro i x σ H' hi ⟨rfl, o, rfl⟩
      obtain ⟨z, rfl, hz1⟩ := zV_at hi
      refine ⟨_, rfl, _, rfl, _, _, rfl, rfl, .inr ⟨by omega, by omega⟩, _, rfl, _, _, rfl, rfl, _, _, rfl, rfl, ?_⟩
      refine ⟨rfl, some (.int z), ?_⟩
      rw [take_snoc hz1, stk_snoc]
      rfl
    · rintro σ H' ⟨rfl, o, rfl⟩
      rw [zV_len, List.take_length]
      exact ⟨_, rfl, k _ s1⟩
theorem scStackOf : FnScope ["base", "digits"] ["base", "digits"] (defScope sStackOf) := ⟨rfl, rfl, rfl, by decide +kernel, rfl, by decide +kernel, by decide +kernel⟩
theorem ok_stackOf (D : Df K mg "stack_of" sStackOf) (GW : Cal P w K mg base (L2.CX P w) 3 "a_want" ["good", "word"] (spWant C)) (GB : Cal P w K mg base CX0 2 "is_base" ["thing"] spIsBase)
    (GD : Cal P w K mg base CX0 4 "is_digits" ["base", "thing"] spDigits) (GA : Cal P w K mg base CX0 5 "added" ["base", "stack", "digits"] spAdded) : Cal P w K mg base CX0 6 "stack_of" ["base", "digits"] spStackOf := by
  obtain ⟨f, fd, F, g⟩ := D.ex
  refine ⟨f, fd, F.ok scStackOf (fun vs H Q E h => ?_) (fun cdv A outer s H vs Q E hr h => ?_), g, F.kp, F.binds fun _ _ _ _ _ _ us hl => match us, hl with | [_, _], _ => rfl⟩
  · obtain ⟨c, a, w, rfl, _⟩ := h
    rfl
  · obtain ⟨c, a, w, rfl, h2, h256, ha, hd, hz, k⟩ := h
    refine ⟨_, pss_cons (ps_expr (pe_cl GW (hr.mono (by decide)) passL (pa_cons (pe_cl GB (hr.mono (by decide)) pass0 (pa_cons (pv 0) pa_nil)) (pa_cons pe_str pa_nil))))
      (pss_cons (ps_expr (pe_cl GW (hr.mono (by decide)) passL (pa_cons (pe_cl GD (hr.mono (by decide)) pass0 (pa_cons (pv 0) (pa_cons (pv 1) pa_nil))) (pa_cons pe_str pa_nil))))
      (pss_one (ps_ret (pe_cl GA hr pass0 (pa_cons (pv 0) (pa_cons pe_int (pa_cons (pv 1) pa_nil))))))), ?_⟩
    refine ⟨_, rfl, c, rfl, _, _, rfl, fun _ => ?_, fun z => want_true (b := c) ⟨h2, h256⟩ z⟩
    refine ⟨_, rfl, _, rfl, c, _, true, rfl, h2, h256, digR_of ha hd (by omega), fun H1 s1 => ⟨_, _, rfl, fun _ => ?_, fun z => by cases z⟩⟩
    exact ⟨_, rfl, _, rfl, c, a, w, rfl, h2, h256, s1 _ _ ha, hd, hz, fun H2 s2 => k _ (s1.trans s2)⟩
theorem scWantBase : FnScope ["base"] ["base"] (defScope sWantBase) := ⟨rfl, rfl, rfl, by decide +kernel, rfl, by decide +kernel, by decide +kernel⟩
theorem ok_wantBase (D : Df K mg "want_base" sWantBase) (GW : Cal P w K mg base (L2.CX P w) 3 "a_want" ["good", "word"] (spWant C)) (GB : Cal P w K mg base CX0 2 "is_base" ["thing"] spIsBase) : Cal P w K mg base CX0 4 "want_base" ["base"] spWantBase := by
  obtain ⟨f, fd, F, g⟩ := D.ex
  refine ⟨f, fd, F.ok scWantBase (fun vs H Q E h => ?_) (fun cdv A outer s H vs Q E hr h => ?_), g, F.kp, F.binds fun _ _ _ _ _ _ us hl => match us, hl with | [_], _ => rfl⟩
  · obtain ⟨c, rfl, _⟩ := h
    rfl
  · obtain ⟨c, rfl, h3, h256, k⟩ := h
    refine ⟨_, pss_one (ps_expr (pe_cl GW hr passL (pa_cons (pe_and (pe_cl GB (hr.mono (by decide)) pass0 (pa_cons (pv 0) pa_nil)) (pe_one (pe_cmpR op_ge (pv 0) pe_int (nomark _)))) (pa_cons pe_str pa_nil)))), ?_⟩
    refine ⟨_, rfl, c, rfl, _, rfl, ?_⟩
    rw [decide_eq_true (show 2 ≤ c ∧ c ≤ 256 from ⟨by omega, h256⟩)]
    refine iteT ?_
    exact ⟨_, rfl, _, _, rfl, rfl, _, _, rfl, fun _ => k, fun z => want_true (b := c) h3 z⟩
theorem scFits : FnScope ["base", "thing"] ["base", "thing"] (defScope sFits) := ⟨rfl, rfl, rfl, by decide +kernel, rfl, by decide +kernel, by decide +kernel⟩
theorem ok_fits (D : Df K mg "fits_framed" sFits) (T : Bt mg) (GD : Cal P w K mg base CX0 4 "is_digits" ["base", "thing"] spDigits) : Cal P w K mg base CX0 5 "fits_framed" ["base", "thing"] spFits := by
  obtain ⟨f, fd, F, g⟩ := D.ex
  refine ⟨f, fd, F.ok scFits (fun vs H Q E h => ?_) (fun cdv A outer s H vs Q E hr h => ?_), g, F.kp, F.binds fun _ _ _ _ _ _ us hl => match us, hl with | [_, _], _ => rfl⟩
  · obtain ⟨b, a, w, rfl, _⟩ := h
    rfl
  · obtain ⟨b, a, w, rfl, h3, h256, ha, hd, hz, hh, hl, k⟩ := h
    refine ⟨_, pss_cons (ps_if (PW.pt (pw_or (pt_not (pt_val (pe_cl GD hr pass0 (pa_cons (pv 0) (pa_cons (pv 1) pa_nil))))) (pw_or1 (pt_cmpR op_eq (pe_callB call_len_seq (by rfl) T.len PySem.boot_len (pa_cons (pv 1) pa_nil)) pe_int (nomark _))))) (pss_one (ps_ret pe_bl)) pss_nil)
      (pss_one (ps_ret (pe_and (pe_cmpR op_eq (pe_ix ix_tup (pv 1) pe_int (fun _ _ => rfl)) (pe_op op_sub (pv 0) pe_int) (nomark _))
        (pe_one (pe_cmpR op_eq (pe_ix ix_tup (pv 1) (pe_op op_sub (pe_callB call_len_seq (by rfl) T.len PySem.boot_len (pa_cons (pv 1) pa_nil)) pe_int) (fun _ _ => rfl)) (pe_op op_sub (pv 0) pe_int) (nomark _)))))), ?_⟩
    have hne : w ≠ [] := by
      intro z
      rw [z] at hh
      cases hh
    have hpos : 0 < w.length := List.length_pos_iff.mpr hne
    refine ⟨_, rfl, _, rfl, b, _, true, rfl, by omega, h256, digR_of ha hd hz, fun H1 s1 => ⟨true, rfl, ?_⟩⟩
    refine iteF ?_
    refine ⟨_, rfl, a, _, rfl, .inr (SqT.of (s1 _ _ ha)), rfl, _, rfl, ?_⟩
    have e0 : decide (V.int ((zV w).length : Int) = V.int 0) = false := decide_eq_false (by
      intro z
      have z2 := V.int.inj z
      rw [zV_len] at z2
      omega)
    rw [e0]
    refine iteF ?_
    have h0 : w[0]? = some (b - 1) := by rw [← List.head?_eq_getElem?]; exact hh
    have h9 : w[w.length - 1]? = some (b - 1) := by rw [← List.getLast?_eq_getElem?]; exact hl
    refine ⟨_, rfl, a, _, 0, _, rfl, rfl, SqT.of (s1 _ _ ha), atI_nat (at_zV h0), _, rfl, _, _, rfl, rfl, rfl, _, rfl, ?_⟩
    rw [decide_eq_true rfl]
    refine iteT ?_
    refine ⟨_, rfl, _, rfl, a, _, rfl, .inr (SqT.of (s1 _ _ ha)), _, _, rfl, rfl, a, _, _, _, rfl, rfl, SqT.of (s1 _ _ ha), at_of (j := w.length - 1) (by rw [zV_len]; omega) (at_zV h9), _, rfl, _, _, rfl, rfl, rfl, ?_⟩
    rw [decide_eq_true rfl]
    exact k _ s1
end
end K76
/-! Gates. -/
namespace K76
open PySem PySem.Spec PyProof.Rows L2

/-! ### a run from any start -/
structure RunOk2 (m : Int) (n W : Nat) (g : GS) : Prop where
  dg : ∀ w ∈ g.1, Dg m w ∧ w.length ≤ W + n
  len : g.1.length ≤ n
  wt : ∀ w, g.2.1 = some w → Dg m w ∧ w.length ≤ W + n
theorem runOk2 {m : Int} {W : Nat} {wait : Option (List Int)} {beg : Option Bool} (hw : ∀ w, wait = some w → Dg m w ∧ w.length ≤ W) {l : List Int} (h : Dg (m + 1) l) : RunOk2 m l.length W (grun m ([], wait, beg) l) := by
  induction l using snoc_ind with
  | h0 => exact ⟨(fun w hw => by cases hw), Nat.le_refl _, hw⟩
  | h1 l x ih =>
    have I := ih h.left
    rw [grun_snoc]
    have hx0 := h x (by simp)
    have e : (l ++ [x]).length = l.length + 1 := by simp
    rw [e]
    unfold gst
    by_cases hx : x = m
    · simp only [hx, if_true]
      refine ⟨?_, ?_, ?_⟩
      · intro w hw
        cases q : (grun m ([], wait, beg) l).2.1 with
        | none =>
          rw [q] at hw
          exact ⟨(I.dg w hw).1, by have := (I.dg w hw).2; omega⟩
        | some u =>
          rw [q] at hw
          rcases List.mem_append.mp hw with z | z
          · exact ⟨(I.dg w z).1, by have := (I.dg w z).2; omega⟩
          · rw [List.mem_singleton.mp z]
            exact ⟨(I.wt u q).1, by have := (I.wt u q).2; omega⟩
      · cases q : (grun m ([], wait, beg) l).2.1 with
        | none =>
          have := I.len
          simp only
          omega
        | some u =>
          have := I.len
          simp only [List.length_append, List.length_singleton]
          omega
      · intro w hw
        cases hw
        exact ⟨Dg.nil, Nat.zero_le _⟩
    · simp only [hx, if_false]
      refine ⟨fun w hw => ⟨(I.dg w hw).1, by have := (I.dg w hw).2; omega⟩, by have := I.len; simp only; omega, fun w hw => ?_⟩
      cases q : (grun m ([], wait, beg) l).2.1 with
      | none =>
        rw [q] at hw
        cases hw
      | some u =>
        rw [q] at hw
        have e2 : u ++ [x] = w := Option.some.inj hw
        subst e2
        have := (I.wt u q).2
        refine ⟨(I.wt u q).1.snoc hx0.1 (by omega), ?_⟩
        rw [List.length_append, List.length_singleton]
        omega

/-! ### a gate's fields -/
def gfs (b : Int) (l : Addr) (w g : V) : List (Str × V) := [("_base", .int b), ("_found", .ref l), ("_waiting", w), ("_begins", g)]
section
variable {b : Int} {l : Addr} {w g v : V}
theorem nBF : (("_base" : Str) == "_found") = false := by decide +kernel
theorem lk_base : (gfs b l w g).lookup ("_base" : Str) = some (.int b) := by kernel_rfl
theorem lk_found : (gfs b l w g).lookup ("_found" : Str) = some (.ref l) := by kernel_rfl
theorem lk_wait : (gfs b l w g).lookup ("_waiting" : Str) = some w := by kernel_rfl
theorem lk_beg : (gfs b l w g).lookup ("_begins" : Str) = some g := by kernel_rfl
theorem lk_feed : (gfs b l w g).lookup ("feed" : Str) = none := by kernel_rfl
theorem lk_gap : (gfs b l w g).lookup ("gap" : Str) = none := by kernel_rfl
theorem lk_judged : (gfs b l w g).lookup ("_judged" : Str) = none := by kernel_rfl
theorem put_wait : putF ("_waiting" : Str) v (gfs b l w g) = gfs b l v g := by kernel_rfl
theorem put_beg : putF ("_begins" : Str) v (gfs b l w g) = gfs b l w v := by kernel_rfl
theorem put_all : putF ("_begins" : Str) g (putF ("_waiting" : Str) w (putF ("_found" : Str) (.ref l) (putF ("_base" : Str) (.int b) []))) = gfs b l w g := by kernel_rfl
theorem put_len1 : (putF ("_base" : Str) (.int b) []).length < 1000 := Nat.lt_of_le_of_lt (length_putF _ _ _) (by show 1 < 1000; decide)
theorem put_len2 : (putF ("_found" : Str) (.ref l) (putF ("_base" : Str) (.int b) [])).length < 1000 := by
  have h1 := length_putF ("_base" : Str) (V.int b) []
  have h2 := length_putF ("_found" : Str) (V.ref l) (putF ("_base" : Str) (.int b) [])
  simp only [List.length_nil] at h1
  omega
theorem put_len3 : (putF ("_waiting" : Str) w (putF ("_found" : Str) (.ref l) (putF ("_base" : Str) (.int b) []))).length < 1000 := by
  have h1 := length_putF ("_base" : Str) (V.int b) []
  have h2 := length_putF ("_found" : Str) (V.ref l) (putF ("_base" : Str) (.int b) [])
  have h3 := length_putF ("_waiting" : Str) w (putF ("_found" : Str) (.ref l) (putF ("_base" : Str) (.int b) []))
  simp only [List.length_nil] at h1
  omega
end
def begV : Option Bool → V
  | none => .non
  | some k => .bl k
/-- what is known of the class Gate, at C -/
structure Gx (K : PySem.W.Frag) (mg : Str → Option Value) (C : Addr) : Prop where
  cl : Cls K C
  gC : mg "Gate" = some (.ref C)
  nB : NoAttr K C "_base"
  nF : NoAttr K C "_found"
  nW : NoAttr K C "_waiting"
  nG : NoAttr K C "_begins"
/-- a gate stands at p, with its own objects A -/
structure GateAt (C : Addr) (H : Hp) (p : Addr) (A : List Addr) (b : Int) (fnd : List Int) (wait : Option (List Int)) (beg : Option Bool) : Prop where
  ex : ∃ dx l w, H p = some (.ins C dx (gfs b l w (begV beg))) ∧ H l = some (.lst (zV fnd)) ∧
    ((wait = none ∧ w = .non ∧ A = [p, l]) ∨ ∃ q ws, wait = some ws ∧ w = .ref q ∧ H q = some (.lst (zV ws)) ∧ q ≠ l ∧ A = [p, l, q])
/-- what is reckoned of it -/
structure GOk (b : Int) (fnd : List Int) (wait : Option (List Int)) (beg : Option Bool) : Prop where
  b3 : 3 ≤ b
  b256 : b ≤ 256
  fl : fnd.length ≤ 4000
  wt : ∀ w, wait = some w → Dg (b - 1) w ∧ w.length ≤ 470
  bw : beg = some true → wait ≠ none
def WV (H : Hp) (wait : Option (List Int)) (v : V) : Prop := (wait = none ∧ v = .non) ∨ ∃ ws r, wait = some ws ∧ v = .ref r ∧ H r = some (.tup (zV ws))
theorem WV.same {H H' : Hp} {wait : Option (List Int)} {v : V} (s : Same H H') (h : WV H wait v) : WV H' wait v := by
  rcases h with h | ⟨ws, r, h1, h2, h3⟩
  · exact .inl h
  · exact .inr ⟨ws, r, h1, h2, s _ _ h3⟩

/-! ### what its defs promise -/
def spGInit (C : Addr) : Sp := fun vs H Q _ => ∃ (p dx : Addr) (b : Int), vs = [.ref p, .int b] ∧ H p = some (.ins C dx []) ∧ 3 ≤ b ∧ b ≤ 256 ∧
  ∀ l H', H l = none → GateAt C H' p [p, l] b [] none none → (∀ c o, H c = some o → c ≠ p → H' c = some o) → Q .non H'
def spGFrames (C : Addr) : Sp := fun vs H Q _ => ∃ p A b fnd wait beg, vs = [.ref p] ∧ GateAt C H p A b fnd wait beg ∧ ∀ r, H r = none → Q (.ref r) (upd H r (.tup (zV fnd)))
def spGWaiting (C : Addr) : Sp := fun vs H Q _ => ∃ p A b fnd wait beg, vs = [.ref p] ∧ GateAt C H p A b fnd wait beg ∧ ∀ v H', Same H H' → WV H' wait v → Q v H'
def spGWhole (C : Addr) : Sp := fun vs H Q _ => ∃ p A b fnd wait beg, vs = [.ref p] ∧ GateAt C H p A b fnd wait beg ∧ (beg = some true → wait ≠ none) ∧ Q (.bl (decide (beg = some true ∧ wait = some []))) H
def spGGap (C : Addr) : Sp := fun vs H Q _ => ∃ p A b fnd wait beg, vs = [.ref p] ∧ GateAt C H p A b fnd wait beg ∧
  ∀ v H' A', Out A H H' → Grow A A' H → GateAt C H' p A' b fnd none none → WV H' wait v → Q v H'
def spGJudged : Sp := fun vs H Q _ => ∃ x y, vs = [x, y] ∧ ∀ l, H l = none → Q (.ref l) (upd H l (.lst [y]))
def stks (m : Int) (ws : List (List Int)) : List Int := ws.map (stk m)
def spGFeed (C : Addr) : Sp := fun vs H Q _ => ∃ p A b fnd wait beg a ns, vs = [.ref p, .ref a] ∧ GateAt C H p A b fnd wait beg ∧ GOk b fnd wait beg ∧ H a = some (.tup (zV ns)) ∧ Dg b ns ∧ ns.length ≤ 470 ∧
  ∀ r H' A', Out A H H' → Grow A A' H → GateAt C H' p A' b (fnd ++ stks (b - 1) (grun (b - 1) ([], wait, beg) ns).1) (grun (b - 1) ([], wait, beg) ns).2.1 (grun (b - 1) ([], wait, beg) ns).2.2 →
    H' r = some (.tup (zV (stks (b - 1) (grun (b - 1) ([], wait, beg) ns).1))) → Q (.ref r) H'
def spGBad (C CN : Addr) : Sp := fun vs H _ E => ∃ p A b fnd wait beg x, vs = [.ref p, x] ∧ GateAt C H p A b fnd wait beg ∧ GOk b fnd wait beg ∧ DigR H b x false ∧ ∀ d H', Same H H' → H' d = some (.xd (nuF "digits")) → E (.ref CN) (some d) H'
end K76
/-! Gates: the small methods. -/
namespace K76
open PySem PySem.Spec PyProof.Rows L2
structure Mdf (K : PySem.W.Frag) (C : Addr) (m qual : Str) (st : Stmt) : Prop where
  ex : ∃ (f : Addr) (fd : FuncData), Fun K m qual st f fd ∧ Meth K C m f
structure Pdf (K : PySem.W.Frag) (C : Addr) (m qual : Str) (st : Stmt) : Prop where
  ex : ∃ (p f : Addr) (fd : FuncData), Fun K m qual st f fd ∧ PropOf K C m p f
structure CalM (P : Program) (w : World) (K : PySem.W.Frag) (mg : Str → Option Value) (base : Heap) (CX : CXT) (k : Nat) (C : Addr) (m : Str) (ps : List Str) (sp : Sp) : Prop where
  ex : ∃ (f : Addr) (fd : FuncData), FnOk P w K mg base CX k f fd ps sp ∧ Meth K C m f ∧ Binds K fd ps []
structure CalP (P : Program) (w : World) (K : PySem.W.Frag) (mg : Str → Option Value) (base : Heap) (k : Nat) (C : Addr) (m : Str) (sp : Sp) : Prop where
  ex : ∃ (p f : Addr) (fd : FuncData), FnOk P w K mg base CX0 k f fd ["self"] sp ∧ PropOf K C m p f ∧ Binds K fd ["self"] []
section
variable {X : Cx} {k : Nat} {C : Addr} {m : Str} {sp : Sp} {e o : Expr} {es : List Expr} {pos apos : Pos} {ta : TE} {t : TA} {CX : CXT} {ps : List Str} {E : XK}
theorem pe_pr (he : PE X e ta) (c : Cls X.K C) (G : CalP X.prog X.w X.K X.mg X.base k C m sp) (hr : Room (k + 1) X.A) (hab : attributeBase e m X.env (eval e X.env) = eval e X.env) : PE X (.Attribute e m pos) (tProp C sp [] E0 ta) := by
  obtain ⟨p, f, fd, F, hp, hb⟩ := G.ex
  exact pe_prop he c hp F hr hb .nil pass0 hab
theorem pe_mt {pl : Sem Bool} (he : PE X o ta) (c : Cls X.K C) (G : CalM X.prog X.w X.K X.mg X.base CX k C m ps sp) (hr : Room k X.A) (hx : Passes CX X E) (ha : PA X (e :: es) t)
    (hst : starEach (e :: es) X.env = (false, eval e X.env) :: starEach es X.env := by rfl) (hpl : (backTo pos (starEach es X.env)).any (·.1) = false := by rfl)
    (ht : eval (.Call (.Attribute o m apos) (e :: es) [] pos) X.env = (do
        let ov ← eval o X.env
        standAt apos.atName
        let (g, first) ← holding [ov] (getMethod ov m pl)
        callWith pos g first (backTo pos (starEach (e :: es) X.env)) (backToKw pos (keywordEach [] X.env))) := by rfl) : PE X (.Call (.Attribute o m apos) (e :: es) [] pos) (tMeth C m sp [] E ta t) := by
  obtain ⟨f, fd, F, hm, hb⟩ := G.ex
  exact pe_meth (pl := pl) he c hm F hr hb .nil hx ha hst hpl ht
theorem pe_mt0 {pl : Sem Bool} (he : PE X o ta) (c : Cls X.K C) (G : CalM X.prog X.w X.K X.mg X.base CX k C m ps sp) (hr : Room k X.A) (hx : Passes CX X E)
    (ht : eval (.Call (.Attribute o m apos) [] [] pos) X.env = (do
        let ov ← eval o X.env
        standAt apos.atName
        let (g, first) ← holding [ov] (getMethod ov m pl)
        callWith pos g first (backTo pos (starEach [] X.env)) (backToKw pos (keywordEach [] X.env))) := by rfl) : PE X (.Call (.Attribute o m apos) [] [] pos) (tMeth C m sp [] E ta tNil) := by
  obtain ⟨f, fd, F, hm, hb⟩ := G.ex
  exact pe_meth0 (pl := pl) he c hm F hr hb .nil hx ht
end
section
variable {P : Program} {w : World} {K : PySem.W.Frag} {mg : Str → Option Value} {base : Heap} {C CN : Addr}
theorem scGInit : FnScope ["self", "base"] ["self", "base"] (defScope sGInit) := ⟨rfl, rfl, rfl, by decide +kernel, rfl, by decide +kernel, by decide +kernel⟩
theorem ok_gInit {f : Addr} {fd : FuncData} (F : Fun K "__init__" "Gate.__init__" sGInit f fd) (X : Gx K mg C) (GW : Cal P w K mg base (L2.CX P w) 3 "a_want" ["good", "word"] (spWant CN)) (GB : Cal P w K mg base CX0 2 "is_base" ["thing"] spIsBase) :
    FnOk P w K mg base CX0 4 f fd ["self", "base"] (spGInit C) := by
  refine F.ok scGInit (fun vs H Q E h => ?_) (fun cdv A outer s H vs Q E hr h => ?_)
  · obtain ⟨p, dx, b, rfl, _⟩ := h
    rfl
  · obtain ⟨p, dx, b, rfl, hp, h3, h256, k⟩ := h
    refine ⟨_, pss_cons (ps_expr (pe_cl GW hr passL (pa_cons (pe_and (pe_cl GB (hr.mono (by decide)) pass0 (pa_cons (pv 1) pa_nil)) (pe_one (pe_cmpR op_gt (pv 1) pe_int (nomark _)))) (pa_cons pe_str pa_nil))))
      (pss_cons (ps_fld (pv 0) (pv 1) rfl) (pss_cons (ps_fld (pv 0) (pe_lst pa_nil) rfl) (pss_cons (ps_fld (pv 0) pe_non rfl) (pss_one (ps_fld (pv 0) pe_non rfl))))), ?_⟩
    refine ⟨_, rfl, b, rfl, _, rfl, ?_⟩
    rw [decide_eq_true (show 2 ≤ b ∧ b ≤ 256 from ⟨by omega, h256⟩)]
    refine iteT ?_
    refine ⟨_, rfl, _, _, rfl, rfl, _, _, rfl, fun _ => ?_, fun z => want_true (b := b) (show (2 : Int) < b by omega) z⟩
    refine ⟨_, rfl, _, rfl, p, C, dx, [], rfl, hp, X.cl, X.nB, (by show 0 < 1000; decide), ?_⟩
    refine ⟨Nat.zero_le _, fun l hl => ?_⟩
    have hlp : p ≠ l := fun z => by
      rw [z, upd_same] at hl
      cases hl
    have hl0 : H l = none := by
      rw [upd_ne hlp.symm] at hl
      exact hl
    refine ⟨_, rfl, p, C, dx, _, rfl, (by rw [upd_ne hlp]; exact upd_same), X.cl, X.nF, put_len1, ?_⟩
    refine ⟨_, rfl, p, C, dx, _, rfl, upd_same, X.cl, X.nW, put_len2, ?_⟩
    refine ⟨_, rfl, p, C, dx, _, rfl, upd_same, X.cl, X.nG, put_len3, ?_⟩
    refine k l _ hl0 ⟨dx, l, .non, ?_, ?_, .inl ⟨rfl, rfl, rfl⟩⟩ fun c o e n => ?_
    · rw [upd_same, put_all]
      rfl
    · rw [upd_ne hlp.symm, upd_ne hlp.symm, upd_ne hlp.symm, upd_same]
      rfl
    · rw [upd_ne n, upd_ne n, upd_ne n, upd_ne (ne_of_none e hl0), upd_ne n]
      exact e
theorem scSelf1 : FnScope ["self"] ["self"] (defScope sGFrames) := ⟨rfl, rfl, rfl, by decide +kernel, rfl, by decide +kernel, by decide +kernel⟩
theorem ok_gFrames (D : Pdf K C "frames_now" "Gate.frames_now" sGFrames) (X : Gx K mg C) (T : Bt mg) : CalP P w K mg base 1 C "frames_now" (spGFrames C) := by
  obtain ⟨pr, f, fd, F, hp⟩ := D.ex
  refine ⟨pr, f, fd, F.ok scSelf1 (fun vs H Q E h => ?_) (fun cdv A outer s H vs Q E hr h => ?_), hp, F.binds fun _ _ _ _ _ _ us hl => match us, hl with | [_], _ => rfl⟩
  · obtain ⟨p, A, b, fnd, wait, beg, rfl, _⟩ := h
    rfl
  · obtain ⟨p, A, b, fnd, wait, beg, rfl, ⟨dx, l, w, h1, h2, _⟩, k⟩ := h
    refine ⟨_, pss_one (ps_ret (pe_callTy call_tuple_of (by rfl) T.tuple (by decide +kernel) (pa_cons (pe_fld (pv 0) rfl) pa_nil))), ?_⟩
    exact ⟨_, rfl, p, C, dx, _, _, rfl, h1, X.cl, X.nF, lk_found, l, _, rfl, .inl ⟨SqL.of h2, k⟩⟩
theorem scSelf2 : FnScope ["self"] ["self"] (defScope sGWaiting) := ⟨rfl, rfl, rfl, by decide +kernel, rfl, by decide +kernel, by decide +kernel⟩
theorem ok_gWaiting (D : Pdf K C "waiting_now" "Gate.waiting_now" sGWaiting) (X : Gx K mg C) (T : Bt mg) : CalP P w K mg base 1 C "waiting_now" (spGWaiting C) := by
  obtain ⟨pr, f, fd, F, hp⟩ := D.ex
  refine ⟨pr, f, fd, F.ok scSelf2 (fun vs H Q E h => ?_) (fun cdv A outer s H vs Q E hr h => ?_), hp, F.binds fun _ _ _ _ _ _ us hl => match us, hl with | [_], _ => rfl⟩
  · obtain ⟨p, A, b, fnd, wait, beg, rfl, _⟩ := h
    rfl
  · obtain ⟨p, A, b, fnd, wait, beg, rfl, ⟨dx, l, w, h1, h2, h3⟩, k⟩ := h
    refine ⟨_, pss_cons (ps_if (pt_cmpR op_isN (pe_fld (pv 0) rfl) pe_non (nomark _)) (pss_one (ps_ret pe_non)) pss_nil)
      (pss_one (ps_ret (pe_callTy call_tuple_of (by rfl) T.tuple (by decide +kernel) (pa_cons (pe_fld (pv 0) rfl) pa_nil)))), ?_⟩
    refine ⟨_, rfl, p, C, dx, _, _, rfl, h1, X.cl, X.nW, lk_wait, rfl, _, rfl, ?_⟩
    rcases h3 with ⟨rfl, rfl, _⟩ | ⟨q, ws, rfl, rfl, h4, _, _⟩
    · exact iteT (k .non H (Same.refl H) (.inl ⟨rfl, rfl⟩))
    · rw [show decide (V.ref q = V.non) = false from decide_eq_false fun z => nomatch z]
      refine iteF ?_
      exact ⟨_, rfl, p, C, dx, _, _, rfl, h1, X.cl, X.nW, lk_wait, q, _, rfl, .inl ⟨SqL.of h4, fun r hr => k _ _ (same_new hr) (.inr ⟨ws, r, rfl, rfl, upd_same⟩)⟩⟩
theorem scSelf3 : FnScope ["self"] ["self"] (defScope sGWhole) := ⟨rfl, rfl, rfl, by decide +kernel, rfl, by decide +kernel, by decide +kernel⟩
theorem ok_gWhole (D : Pdf K C "whole_now" "Gate.whole_now" sGWhole) (X : Gx K mg C) (T : Bt mg) : CalP P w K mg base 1 C "whole_now" (spGWhole C) := by
  obtain ⟨pr, f, fd, F, hp⟩ := D.ex
  refine ⟨pr, f, fd, F.ok scSelf3 (fun vs H Q E h => ?_) (fun cdv A outer s H vs Q E hr h => ?_), hp, F.binds fun _ _ _ _ _ _ us hl => match us, hl with | [_], _ => rfl⟩
  · obtain ⟨p, A, b, fnd, wait, beg, rfl, _⟩ := h
    rfl
  · obtain ⟨p, A, b, fnd, wait, beg, rfl, ⟨dx, l, w, h1, h2, h3⟩, hbw, k⟩ := h
    refine ⟨_, pss_one (ps_ret (pe_and (pe_cmpR op_isC (pe_fld (pv 0) rfl) pe_bl (nomark _))
      (pe_one (pe_cmpR op_eq (pe_callB call_len_seq (by rfl) T.len PySem.boot_len (pa_cons (pe_fld (pv 0) rfl) pa_nil)) pe_int (nomark _))))), ?_⟩
    refine ⟨_, rfl, p, C, dx, _, _, rfl, h1, X.cl, X.nG, lk_beg, (by cases beg <;> rfl), true, rfl, _, rfl, ?_⟩
    by_cases hb : beg = some true
    · subst hb
      rw [show decide (begV (some true) = V.bl true) = true from rfl]
      refine iteT ?_
      rcases h3 with ⟨rfl, _⟩ | ⟨q, ws, rfl, rfl, h4, _, _⟩
      · exact absurd rfl (hbw rfl)
      · refine ⟨_, rfl, p, C, dx, _, _, rfl, h1, X.cl, X.nW, lk_wait, q, _, rfl, .inl (SqL.of h4), rfl, ?_⟩
        have e : decide (V.int ((zV ws).length : Int) = V.int 0) = decide (some true = some true ∧ some ws = some []) := by
          rw [zV_len]
          cases ws with
          | nil => rfl
          | cons x r =>
            rw [decide_eq_false, decide_eq_false]
            · rintro ⟨_, z⟩
              cases z
            · intro z
              have z2 := V.int.inj z
              simp only [List.length_cons] at z2
              omega
        rw [e]
        exact k
    · have e1 : decide (begV beg = V.bl true) = false := decide_eq_false fun z => by
        cases beg with
        | none => cases z
        | some t =>
          cases z
          exact hb rfl
      rw [e1]
      refine iteF ?_
      rw [decide_eq_false (show ¬ (beg = some true ∧ wait = some []) from fun z => hb z.1)] at k
      exact k
theorem scJud : FnScope ["self", "stack"] ["self", "stack"] (defScope sGJudged) := ⟨rfl, rfl, rfl, by decide +kernel, rfl, by decide +kernel, by decide +kernel⟩
theorem ok_gJudged (D : Mdf K C "_judged" "Gate._judged" sGJudged) : CalM P w K mg base CX0 1 C "_judged" ["self", "stack"] spGJudged := by
  obtain ⟨f, fd, F, hm⟩ := D.ex
  refine ⟨f, fd, F.ok scJud (fun vs H Q E h => ?_) (fun cdv A outer s H vs Q E hr h => ?_), hm, F.binds fun _ _ _ _ _ _ us hl => match us, hl with | [_, _], _ => rfl⟩
  · obtain ⟨x, y, rfl, _⟩ := h
    rfl
  · obtain ⟨x, y, rfl, k⟩ := h
    refine ⟨_, pss_one (ps_ret (pe_lst (pa_cons (pv 1) pa_nil))), ?_⟩
    exact ⟨_, rfl, by show 1 ≤ sizeLine; decide, k⟩
theorem scGap : FnScope ["self", "lost"] ["self"] (defScope sGGap) := ⟨rfl, rfl, rfl, by decide +kernel, rfl, by decide +kernel, by decide +kernel⟩
theorem gate_same {H H' : Hp} {p : Addr} {A : List Addr} {b : Int} {fnd : List Int} {wait : Option (List Int)} {beg : Option Bool} (s : Same H H') (g : GateAt C H p A b fnd wait beg) : GateAt C H' p A b fnd wait beg := by
  obtain ⟨dx, l, w, h1, h2, h3⟩ := g.ex
  refine ⟨dx, l, w, s _ _ h1, s _ _ h2, ?_⟩
  rcases h3 with h3 | ⟨q, ws, e1, e2, h4, h5, h6⟩
  · exact .inl h3
  · exact .inr ⟨q, ws, e1, e2, s _ _ h4, h5, h6⟩
theorem ok_gGap (D : Mdf K C "gap" "Gate.gap" sGGap) (X : Gx K mg C) (GQ : CalP P w K mg base 1 C "waiting_now" (spGWaiting C)) : CalM P w K mg base CX0 3 C "gap" ["self"] (spGGap C) := by
  obtain ⟨f, fd, F, hm⟩ := D.ex
  refine ⟨f, fd, F.ok scGap (fun vs H Q E h => ?_) (fun cdv A outer s H vs Q E hr h => ?_), hm, F.binds fun _ _ _ _ _ _ us hl => match us, hl with | [_], _ => rfl⟩
  · obtain ⟨p, A, b, fnd, wait, beg, rfl, _⟩ := h
    rfl
  · obtain ⟨p, A, b, fnd, wait, beg, rfl, G, k⟩ := h
    refine ⟨_, pss_cons (ps_set (i := 1) scGap.nd rfl (Or.inl rfl) (pe_pr (pv 0) X.cl GQ hr rfl))
      (pss_cons (ps_asg2 pe_non (pg_fld (pv 0)) (pg_fld (pv 0))) (pss_one (ps_ret (pv 1)))), ?_⟩
    obtain ⟨dx, l, w, h1, h2, h3⟩ := id G.ex
    refine ⟨_, rfl, p, dx, _, rfl, h1, p, A, b, fnd, wait, beg, rfl, G, fun v H1 s1 hv => ?_⟩
    have hlp : l ≠ p := ne_of h2 h1 (by intro z; cases z)
    refine ⟨_, rfl, p, C, dx, _, rfl, s1 _ _ h1, X.cl, X.nW, (by show 4 < 1000; decide), ?_⟩
    refine ⟨_, rfl, p, C, dx, _, rfl, upd_same, X.cl, X.nG, (by rw [put_wait]; show 4 < 1000; decide), ?_⟩
    refine ⟨_, rfl, ?_⟩
    rw [put_wait, put_beg]
    have hpA : p ∈ A := by
      rcases h3 with ⟨_, _, rfl⟩ | ⟨q, ws, _, _, _, _, rfl⟩ <;> exact List.mem_cons_self
    have hlA : l ∈ A := by
      rcases h3 with ⟨_, _, rfl⟩ | ⟨q, ws, _, _, _, _, rfl⟩ <;> exact List.mem_cons_of_mem _ List.mem_cons_self
    refine k v _ [p, l] (((same_out s1).upd (.inl hpA)).upd (.inl hpA)) (fun c hc => .inl ?_) ⟨dx, l, .non, upd_same, ?_, .inl ⟨rfl, rfl, rfl⟩⟩ ?_
    · rcases List.mem_cons.mp hc with z | z
      · rw [z]
        exact hpA
      · rw [List.mem_singleton.mp z]
        exact hlA
    · rw [upd_ne hlp, upd_ne hlp]
      exact s1 _ _ h2
    · rcases hv with hv | ⟨ws, r, e1, e2, e3⟩
      · exact .inl hv
      · refine .inr ⟨ws, r, e1, e2, ?_⟩
        have hrp : r ≠ p := ne_of e3 (s1 _ _ h1) (by intro z; cases z)
        rw [upd_ne hrp, upd_ne hrp]
        exact e3
end
end K76
/-! Gates: feed. -/
namespace K76
open PySem PySem.Spec PyProof.Rows L2
def tlo (wt : Option (List Int)) (bds : List (List Int)) : List (List Int) := match wt with
  | some u => bds ++ [u]
  | none => bds
/-- where a new object comes to lie: among the owned, or where nothing was -/
theorem place_of {A : List Addr} {H H' : Hp} {q : Addr} (s : Out A H H') (hq : H' q = none) : q ∈ A ∨ H q = none := by
  cases e : H q with
  | none => exact .inr rfl
  | some o =>
    by_cases z : q ∈ A
    · exact .inl z
    · rw [s q o e z] at hq
      cases hq
/-- within feed's loop: told stands at t, what was found at l -/
structure FL (C : Addr) (H0 : Hp) (A : List Addr) (p l t : Addr) (b : Int) (fnd : List Int) (bds : List (List Int)) (wt : Option (List Int)) (bg : Option Bool) (H : Hp) : Prop where
  out : Out A H0 H
  pt : ∃ dx w, H p = some (.ins C dx (gfs b l w (begV bg))) ∧ ((wt = none ∧ w = .non) ∨ ∃ q ws, wt = some ws ∧ w = .ref q ∧ H q = some (.lst (zV ws)) ∧ q ≠ l ∧ q ≠ t ∧ (q ∈ A ∨ H0 q = none))
  fl : H l = some (.lst (zV fnd))
  tl : H t = some (.lst (zV (stks (b - 1) bds)))
section
variable {C : Addr} {H0 H H' : Hp} {A : List Addr} {p l t : Addr} {b : Int} {fnd : List Int} {bds : List (List Int)} {wt : Option (List Int)} {bg : Option Bool}
theorem FL.same (s : Same H H') (F : FL C H0 A p l t b fnd bds wt bg H) : FL C H0 A p l t b fnd bds wt bg H' := by
  obtain ⟨dx, w, h1, h2⟩ := F.pt
  refine ⟨F.out.same s, ⟨dx, w, s _ _ h1, ?_⟩, s _ _ F.fl, s _ _ F.tl⟩
  rcases h2 with h2 | ⟨q, ws, e1, e2, h4, r⟩
  · exact .inl h2
  · exact .inr ⟨q, ws, e1, e2, s _ _ h4, r⟩
theorem FL.told (F : FL C H0 A p l t b fnd bds wt bg H) (ht : H0 t = none) (hlt : l ≠ t) (bds' : List (List Int)) : FL C H0 A p l t b fnd bds' wt bg (upd H t (.lst (zV (stks (b - 1) bds')))) := by
  obtain ⟨dx, w, h1, h2⟩ := F.pt
  have hpt : p ≠ t := ne_of h1 F.tl (by intro z; cases z)
  refine ⟨F.out.upd (.inr ht), ⟨dx, w, by rw [upd_ne hpt]; exact h1, ?_⟩, by rw [upd_ne hlt]; exact F.fl, upd_same⟩
  rcases h2 with h2 | ⟨q, ws, e1, e2, h4, n1, n2, r⟩
  · exact .inl h2
  · exact .inr ⟨q, ws, e1, e2, by rw [upd_ne n2]; exact h4, n1, n2, r⟩
theorem FL.begin_ (F : FL C H0 A p l t b fnd bds wt bg H) (hp : p ∈ A) {dx : Addr} {w : V} (h1 : H p = some (.ins C dx (gfs b l w (begV bg)))) (k : Bool) : FL C H0 A p l t b fnd bds wt (some k) (upd H p (.ins C dx (putF ("_begins" : Str) (.bl k) (gfs b l w (begV bg))))) := by
  obtain ⟨dx', w', h1', h2⟩ := F.pt
  have e := h1.symm.trans h1'
  have e2 : dx = dx' ∧ gfs b l w (begV bg) = gfs b l w' (begV bg) := by
    injection e with e
    injection e with _ e3 e4
    exact ⟨e3, e4⟩
  have e3 : w = w' := by
    have := congrArg (List.lookup ("_waiting" : Str)) e2.2
    rw [lk_wait, lk_wait] at this
    exact Option.some.inj this
  subst e3
  have hlp : l ≠ p := ne_of F.fl h1 (by intro z; cases z)
  have htp : t ≠ p := ne_of F.tl h1 (by intro z; cases z)
  refine ⟨F.out.upd (.inl hp), ⟨dx, w, by rw [upd_same, put_beg]; rfl, ?_⟩, by rw [upd_ne hlp]; exact F.fl, by rw [upd_ne htp]; exact F.tl⟩
  rcases h2 with h2 | ⟨q, ws, e1, e2, h4, r⟩
  · exact .inl h2
  · refine .inr ⟨q, ws, e1, e2, ?_, r⟩
    rw [upd_ne (ne_of h4 h1 (by intro z; cases z))]
    exact h4
theorem FL.fresh (F : FL C H0 A p l t b fnd bds wt bg H) (hA : ∀ c ∈ A, H0 c ≠ none) (hp : p ∈ A) {dx : Addr} {w : V} (h1 : H p = some (.ins C dx (gfs b l w (begV bg)))) {q : Addr} (hq : H q = none) :
    FL C H0 A p l t b fnd bds (some []) bg (upd (upd H q (.lst [])) p (.ins C dx (putF ("_waiting" : Str) (.ref q) (gfs b l w (begV bg))))) := by
  have hqA : q ∈ A ∨ H0 q = none := place_of F.out hq
  have hpq : p ≠ q := ne_of_none h1 hq
  have hlq : l ≠ q := ne_of_none F.fl hq
  have htq : t ≠ q := ne_of_none F.tl hq
  have hlp : l ≠ p := ne_of F.fl h1 (by intro z; cases z)
  have htp : t ≠ p := ne_of F.tl h1 (by intro z; cases z)
  refine ⟨(F.out.upd hqA).upd (.inl hp), ⟨dx, .ref q, by rw [upd_same, put_wait], .inr ⟨q, [], rfl, rfl, by rw [upd_ne hpq.symm, upd_same]; rfl, hlq.symm, htq.symm, hqA⟩⟩, ?_, ?_⟩
  · rw [upd_ne hlp, upd_ne hlq]
    exact F.fl
  · rw [upd_ne htp, upd_ne htq]
    exact F.tl
theorem FL.wapp {ws : List Int} (F : FL C H0 A p l t b fnd bds (some ws) bg H) {dx q : Addr} (h1 : H p = some (.ins C dx (gfs b l (.ref q) (begV bg)))) (z : Int) : FL C H0 A p l t b fnd bds (some (ws ++ [z])) bg (upd H q (.lst (zV ws ++ [.int z]))) := by
  obtain ⟨dx', w', h1', h2⟩ := F.pt
  have e := h1.symm.trans h1'
  have e2 : dx = dx' ∧ gfs b l (.ref q) (begV bg) = gfs b l w' (begV bg) := by
    injection e with e
    injection e with _ e3 e4
    exact ⟨e3, e4⟩
  have e3 : V.ref q = w' := by
    have := congrArg (List.lookup ("_waiting" : Str)) e2.2
    rw [lk_wait, lk_wait] at this
    exact Option.some.inj this
  subst e3
  rcases h2 with ⟨e4, _⟩ | ⟨q', ws', e4, e5, h4, n1, n2, r⟩
  · cases e4
  · cases e4
    cases e5
    have hqp : q ≠ p := ne_of h4 h1 (by intro z; cases z)
    refine ⟨F.out.upd r, ⟨dx, .ref q, by rw [upd_ne hqp.symm]; exact h1, .inr ⟨q, _, rfl, rfl, by rw [upd_same, zV_snoc], n1, n2, r⟩⟩, by rw [upd_ne n1.symm]; exact F.fl, by rw [upd_ne n2.symm]; exact F.tl⟩
end
section
variable {P : Program} {w : World} {K : PySem.W.Frag} {mg : Str → Option Value} {base : Heap} {C CN : Addr}
theorem scGFeed : FnScope ["self", "digits", "told", "digit", "is_mark"] ["self", "digits"] (defScope sGFeed) := ⟨rfl, rfl, rfl, by decide +kernel, rfl, by decide +kernel, by decide +kernel⟩
theorem line2000 {n : Nat} (h : n ≤ 20000) : n ≤ sizeLine := Nat.le_trans h (by decide)
theorem ok_gFeed (D : Mdf K C "feed" "Gate.feed" sGFeed) (X : Gx K mg C) (T : Bt mg) (GW : Cal P w K mg base (L2.CX P w) 3 "a_want" ["good", "word"] (spWant CN)) (GD : Cal P w K mg base CX0 4 "is_digits" ["base", "thing"] spDigits)
    (GS : Cal P w K mg base CX0 6 "stack_of" ["base", "digits"] spStackOf) (GJ : CalM P w K mg base CX0 1 C "_judged" ["self", "stack"] spGJudged) : CalM P w K mg base CX0 7 C "feed" ["self", "digits"] (spGFeed C) := by
  obtain ⟨f, fd, F, hm⟩ := D.ex
  refine ⟨f, fd, F.ok scGFeed (fun vs H Q E h => ?_) (fun cdv A outer s H vs Q E hr h => ?_), hm, F.binds fun _ _ _ _ _ _ us hl => match us, hl with | [_, _], _ => rfl⟩
  · obtain ⟨p, A, b, fnd, wait, beg, a, ns, rfl, _⟩ := h
    rfl
  · rename Around => Ar
    obtain ⟨p, A, b, fnd, wait, beg, a, ns, rfl, G, O, ha, hd, hz, k⟩ := h
    refine ⟨_, pss_cons (ps_expr (pe_cl GW (hr.mono (by decide)) passL (pa_cons (pe_cl GD (hr.mono (by decide)) pass0 (pa_cons (pe_fld (pv 0) rfl) (pa_cons (pv 1) pa_nil))) (pa_cons pe_str pa_nil))))
      (pss_cons (ps_set (i := 2) scGFeed.nd rfl (Or.inl rfl) (pe_lst pa_nil))
      (pss_cons (ps_for PassesOwn.never rfl (pi_tup (pv 1)) (pg_name (i := 3) scGFeed.nd rfl (Or.inl rfl))
        (pss_cons (ps_set (i := 4) scGFeed.nd rfl (Or.inl rfl) (pe_cmpR op_eq (pv 3) (pe_op op_sub (pe_fld (pv 0) rfl) pe_int) (nomark _)))
        (C8.pss_cut (ps_if (pt_cmpR op_isN (pe_fld (pv 0) rfl) pe_non (nomark _)) (pss_one (ps_fld (pv 0) (pv 4) rfl)) pss_nil)
        (pss_one (ps_if (pt_val (pv 4))
          (C8.pss_cut (ps_if (pt_cmpR op_notN (pe_fld (pv 0) rfl) pe_non (nomark _))
            (pss_one (ps_expr (pe_bm PySem.F.plainAttrs_list PySem.F.slot_list_extend PySem.F.type_list_extend mt_extend (pv 2) (pa_cons
              (pe_mt (pv 0) X.cl GJ (hr.mono (by decide)) pass0 (pa_cons (pe_cl GS hr pass0 (pa_cons (pe_op op_sub (pe_fld (pv 0) rfl) pe_int) (pa_cons (pe_callTy call_tuple_of (by rfl) T.tuple (by decide +kernel) (pa_cons (pe_fld (pv 0) rfl) pa_nil)) pa_nil))) pa_nil)) pa_nil)))) pss_nil)
            (pss_one (ps_fld (pv 0) (pe_lst pa_nil) rfl)))
          (pss_one (ps_if (pt_cmpR op_notN (pe_fld (pv 0) rfl) pe_non (nomark _))
            (pss_one (ps_expr (pe_bm PySem.F.plainAttrs_list PySem.F.slot_list_append PySem.F.type_list_append mt_append (pe_fld (pv 0) rfl) (pa_cons (pv 3) pa_nil)))) pss_nil)))))))
      (pss_cons (ps_expr (pe_bm PySem.F.plainAttrs_list PySem.F.slot_list_extend PySem.F.type_list_extend mt_extend (pe_fld (pv 0) rfl) (pa_cons (pv 2) pa_nil)))
      (pss_one (ps_ret (pe_callTy call_tuple_of (by rfl) T.tuple (by decide +kernel) (pa_cons (pv 2) pa_nil))))))), ?_⟩
    obtain ⟨dx, l, wv, h1, h2, h3⟩ := id G.ex
    have hpA : p ∈ A := by
      rcases h3 with ⟨_, _, rfl⟩ | ⟨q, ws, _, _, _, _, rfl⟩ <;> exact List.mem_cons_self
    have hlA : l ∈ A := by
      rcases h3 with ⟨_, _, rfl⟩ | ⟨q, ws, _, _, _, _, rfl⟩ <;> exact List.mem_cons_of_mem _ List.mem_cons_self
    have hA : ∀ c ∈ A, H c ≠ none := by
      intro c hc z
      rcases h3 with ⟨_, _, rfl⟩ | ⟨q, ws, _, _, h4, _, rfl⟩
      · rcases List.mem_cons.mp hc with e | hc
        · rw [e, h1] at z
          cases z
        · rw [List.mem_singleton.mp hc, h2] at z
          cases z
      · rcases List.mem_cons.mp hc with e | hc
        · rw [e, h1] at z
          cases z
        · rcases List.mem_cons.mp hc with e | hc
          · rw [e, h2] at z
            cases z
          · rw [List.mem_singleton.mp hc, h4] at z
            cases z
    have h3b := O.b3
    -- a_want(is_digits(self._base, digits), 'digits')
    refine ⟨_, rfl, p, C, dx, _, _, rfl, h1, X.cl, X.nB, lk_base, _, rfl, b, _, true, rfl, by omega, O.b256, digR_of ha hd (by omega), fun H1 s1 => ⟨_, _, rfl, fun _ => ?_, fun z => by cases z⟩⟩
    -- told = []
    refine ⟨Nat.zero_le _, fun t ht => ?_⟩
    have ht0 : H t = none := Same.free s1 ht
    have hlt : l ≠ t := ne_of_none h2 ht0
    have e0 : H1 a = some (.tup (zV ns)) := s1 _ _ ha
    -- for digit in digits
    have haA : a ∉ A := by
      intro z
      rcases h3 with ⟨_, _, rfl⟩ | ⟨q, ws, _, _, h4, _, rfl⟩
      · rcases List.mem_cons.mp z with e | z
        · rw [e, h1] at ha
          cases ha
        · rw [List.mem_singleton.mp z, h2] at ha
          cases ha
      · rcases List.mem_cons.mp z with e | z
        · rw [e, h1] at ha
          cases ha
        · rcases List.mem_cons.mp z with e | z
          · rw [e, h2] at ha
            cases ha
          · rw [List.mem_singleton.mp z, h4] at ha
            cases ha
    let Pv : Nat → L2.St → Hp → Prop := fun i σ H' => ∃ o3 o4, σ = [some (.ref p), some (.ref a), some (.ref t), o3, o4] ∧
      FL C H A p l t b fnd (grun (b - 1) ([], wait, beg) (ns.take i)).1 (grun (b - 1) ([], wait, beg) (ns.take i)).2.1 (grun (b - 1) ([], wait, beg) (ns.take i)).2.2 H'
    refine ⟨_, rfl, a, rfl, ⟨_, SqT.of (same_new ht _ _ e0)⟩, for_tup (K := K) (a := a) (xs := zV ns) Pv ⟨none, none, rfl, ?_⟩ (fun i σ H' _ q => ?_) ?_ ?_⟩
    · have s2 := same_upd (o := .lst []) s1 ht0
      refine ⟨same_out s2, ⟨dx, wv, s2 _ _ h1, ?_⟩, s2 _ _ h2, by rw [upd_same]; rfl⟩
      rcases h3 with ⟨e1, e2, _⟩ | ⟨q, ws, e1, e2, h4, n, eA⟩
      · exact .inl ⟨e1, e2⟩
      · exact .inr ⟨q, ws, e1, e2, s2 _ _ h4, n, ne_of_none h4 ht0, .inl (by rw [eA]; simp)⟩
    · obtain ⟨_, _, _, FF⟩ := q
      exact SqT.of (FF.out _ _ ha haA)
    · rintro i x σ H2 hi ⟨o3, o4, rfl, FF⟩
      obtain ⟨z, rfl, hz1⟩ := zV_at hi
      have hzd := hd.at hz1
      have hil : i < ns.length := (List.getElem?_eq_some_iff.mp hz1).1
      have RO := runOk2 (m := b - 1) (W := 470) (wait := wait) (beg := beg) O.wt (l := ns.take i) (by rw [show b - 1 + 1 = b by omega]; exact hd.take i)
      have hti : (ns.take i).length = i := by
        rw [List.length_take]
        omega
      rw [hti] at RO
      have eg : grun (b - 1) ([], wait, beg) (ns.take (i + 1)) = gst (b - 1) (grun (b - 1) ([], wait, beg) (ns.take i)) z := by rw [take_snoc hz1, grun_snoc]
      simp only [Pv]
      rw [eg]
      generalize grun (b - 1) ([], wait, beg) (ns.take i) = g at FF RO ⊢
      obtain ⟨bds, wt, bg⟩ := g
      simp only at FF
      have RL : bds.length ≤ i := RO.len
      obtain ⟨dx2, w2, g1, g2⟩ := id FF.pt
      -- is_mark = digit == self._base - 1
      refine ⟨_, rfl, _, rfl, p, C, dx2, _, _, rfl, g1, X.cl, X.nB, lk_base, _, _, rfl, rfl, rfl, ?_⟩
      have em : decide (V.int z = V.int (b - 1)) = decide (z = b - 1) := by
        by_cases e : z = b - 1
        · rw [e, decide_eq_true rfl, decide_eq_true rfl]
        · rw [decide_eq_false e, decide_eq_false fun q => e (V.int.inj q)]
      -- if self._begins is None: self._begins = is_mark
      refine ⟨fun σ' H' => σ' = [some (.ref p), some (.ref a), some (.ref t), some (.int z), some (.bl (decide (z = b - 1)))] ∧ FL C H A p l t b fnd bds wt (some (bg.getD (decide (z = b - 1)))) H', ?_, ?_⟩
      · refine ⟨_, rfl, p, C, dx2, _, _, rfl, g1, X.cl, X.nG, lk_beg, rfl, _, rfl, ?_⟩
        cases bg with
        | none =>
          refine iteT ?_
          refine ⟨_, rfl, _, rfl, p, C, dx2, _, rfl, g1, X.cl, X.nG, (by show 4 < 1000; decide), ?_, ?_⟩
          · rw [← em]
            rfl
          · have := FF.begin_ hpA g1 (decide (z = b - 1))
            rw [← em] at this
            rw [← em]
            exact this
        | some k0 =>
          rw [show decide (begV (some k0) = V.non) = false from decide_eq_false fun z => nomatch z]
          refine iteF ?_
          refine ⟨?_, FF⟩
          rw [← em]
          rfl
      · rintro σ' H3 ⟨rfl, F3⟩
        generalize hbg : bg.getD (decide (z = b - 1)) = bg' at F3
        obtain ⟨dx3, w3, g3, g4⟩ := id F3.pt
        have ebg : (gst (b - 1) (bds, wt, bg) z).2.2 = some bg' := by
          rw [← hbg]
          unfold gst
          cases bg <;> rfl
        refine ⟨_, rfl, _, rfl, ?_⟩
        by_cases hm1 : z = b - 1
        · rw [decide_eq_true hm1]
          refine iteT ?_
          -- if self._waiting is not None: told.extend(..)
          refine ⟨fun σ' H' => σ' = [some (.ref p), some (.ref a), some (.ref t), some (.int z), some (.bl true)] ∧ FL C H A p l t b fnd (tlo wt bds) wt (some bg') H', ?_, ?_⟩
          · refine ⟨_, rfl, p, C, dx3, _, _, rfl, g3, X.cl, X.nW, lk_wait, rfl, _, rfl, ?_⟩
            rcases g4 with ⟨rfl, rfl⟩ | ⟨q, ws, rfl, rfl, h4, n1, n2, hq⟩
            · refine iteF ?_
              exact ⟨rfl, F3⟩
            · rw [show (!decide (V.ref q = V.non)) = true from by rw [decide_eq_false fun z => nomatch z]; rfl]
              refine iteT ?_
              obtain ⟨d1, d2⟩ := RO.wt ws rfl
              refine ⟨_, rfl, .inl ⟨rfl, _, SqL.of F3.tl⟩, _, rfl, p, dx3, _, rfl, g3, lk_judged, _, rfl, p, C, dx3, _, _, rfl, g3, X.cl, X.nB, lk_base, _, _, rfl, rfl, _, rfl, p, C, dx3, _, _, rfl, g3, X.cl, X.nW, lk_wait, q, _, rfl, .inl ⟨SqL.of h4, fun r hrn => ?_⟩⟩
              refine ⟨b - 1, r, ws, rfl, by omega, by have := O.b256; omega, upd_same, d1, by omega, fun H4 s4 => ?_⟩
              have s34 : Same H3 H4 := fun c o e => s4 _ _ (same_new hrn _ _ e)
              refine ⟨_, _, rfl, fun j hj => ?_⟩
              have s35 : Same H3 (upd H4 j (.lst [.int (stk (b - 1) ws)])) := fun c o e => same_new hj _ _ (s34 _ _ e)
              have F5 := F3.same s35
              refine ⟨t, j, _, _, rfl, rfl, F5.tl, upd_same, ?_, rfl, ?_⟩
              · simp only [zV_len, stks, List.length_map, List.length_singleton]
                exact line2000 (by omega)
              · have F6 := F5.told ht0 hlt (bds ++ [ws])
                have e6 : zV (stks (b - 1) (bds ++ [ws])) = zV (stks (b - 1) bds) ++ [.int (stk (b - 1) ws)] := by
                  unfold stks
                  rw [List.map_append, zV, List.map_append]
                  rfl
                rw [e6] at F6
                exact F6
          · rintro σ' H4 ⟨rfl, F4⟩
            obtain ⟨dx4, w4, g5, g6⟩ := id F4.pt
            -- self._waiting = []
            refine ⟨Nat.zero_le _, fun q hq => ?_⟩
            have hpq : p ≠ q := ne_of_none g5 hq
            refine ⟨_, rfl, p, C, dx4, _, rfl, (by rw [upd_ne hpq]; exact g5), X.cl, X.nW, (by show 4 < 1000; decide), ?_⟩
            refine ⟨_, _, rfl, ?_⟩
            have F5 := F4.fresh hA hpA g5 hq
            have e1 : (gst (b - 1) (bds, wt, bg) z).1 = (tlo wt bds) := by
              unfold gst
              simp only [hm1, if_true]
              cases wt <;> rfl
            have e2 : (gst (b - 1) (bds, wt, bg) z).2.1 = some [] := by
              unfold gst
              simp only [hm1, if_true]
            rw [e1, e2, ebg]
            exact F5
        · rw [decide_eq_false hm1]
          refine iteF ?_
          have e1 : (gst (b - 1) (bds, wt, bg) z).1 = bds := by
            unfold gst
            simp only [hm1, if_false]
          have e2 : (gst (b - 1) (bds, wt, bg) z).2.1 = wt.map (· ++ [z]) := by
            unfold gst
            simp only [hm1, if_false]
          rw [e1, e2, ebg]
          refine ⟨_, rfl, p, C, dx3, _, _, rfl, g3, X.cl, X.nW, lk_wait, rfl, _, rfl, ?_⟩
          rcases g4 with ⟨rfl, rfl⟩ | ⟨q, ws, rfl, rfl, h4, n1, n2, hq⟩
          · refine iteF ?_
            exact ⟨_, _, rfl, F3⟩
          · rw [show (!decide (V.ref q = V.non)) = true from by rw [decide_eq_false fun z => nomatch z]; rfl]
            refine iteT ?_
            have d2 := (RO.wt ws rfl).2
            refine ⟨_, rfl, p, C, dx3, _, _, rfl, g3, X.cl, X.nW, lk_wait, .inl ⟨rfl, _, SqL.of h4⟩, _, rfl, q, _, _, rfl, rfl, h4, ?_, ?_⟩
            · rw [zV_len]
              exact line5000 (by omega)
            · exact ⟨_, _, rfl, F3.wapp g3 z⟩
    · rintro σ H2 ⟨o3, o4, rfl, FF⟩
      rw [zV_len, List.take_length] at FF
      have RO := runOk2 (m := b - 1) (W := 470) (wait := wait) (beg := beg) O.wt (l := ns) (by rw [show b - 1 + 1 = b by omega]; exact hd)
      generalize grun (b - 1) ([], wait, beg) ns = g at FF RO k
      obtain ⟨bds, wt, bg⟩ := g
      simp only at FF k
      have RL : bds.length ≤ ns.length := RO.len
      obtain ⟨dx2, w2, g1, g2⟩ := id FF.pt
      -- self._found.extend(told)
      refine ⟨_, rfl, p, C, dx2, _, _, rfl, g1, X.cl, X.nF, lk_found, .inl ⟨rfl, _, SqL.of FF.fl⟩, _, rfl, l, t, _, _, rfl, rfl, FF.fl, FF.tl, ?_, ?_⟩
      · have h6 := O.fl
        rw [zV_len, zV_len]
        unfold stks
        rw [List.length_map]
        exact line2000 (by omega)
      · -- return tuple(told)
        have hpl : p ≠ l := ne_of g1 FF.fl (by intro z; cases z)
        refine ⟨_, rfl, t, _, rfl, .inl ⟨SqL.of (by rw [upd_ne hlt.symm]; exact FF.tl), fun r hrn => ?_⟩⟩
        have hrl : r ≠ l := fun z => by
          rw [z, upd_same] at hrn
          cases hrn
        have hr2 : H2 r = none := by
          rw [upd_ne hrl] at hrn
          exact hrn
        have hpA2 := place_of FF.out hr2
        have hpr : p ≠ r := ne_of_none g1 hr2
        have hlr : l ≠ r := ne_of_none FF.fl hr2
        have ef : zV fnd ++ zV (stks (b - 1) bds) = zV (fnd ++ stks (b - 1) bds) := zV_append _ _
        have hout := (FF.out.upd (o := .lst (zV fnd ++ zV (stks (b - 1) bds))) (.inl hlA)).upd (o := .tup (zV (stks (b - 1) bds))) hpA2
        rcases g2 with ⟨rfl, rfl⟩ | ⟨q, ws, rfl, rfl, h4, n1, n2, hq⟩
        · refine k r _ [p, l] hout (fun c hc => .inl ?_) ⟨dx2, l, .non, ?_, ?_, .inl ⟨rfl, rfl, rfl⟩⟩ upd_same
          · rcases List.mem_cons.mp hc with e | hc
            · rw [e]
              exact hpA
            · rw [List.mem_singleton.mp hc]
              exact hlA
          · rw [upd_ne hpr, upd_ne hpl]
            exact g1
          · rw [upd_ne hlr, upd_same, ef]
        · have hqr : q ≠ r := ne_of_none h4 hr2
          refine k r _ [p, l, q] hout (fun c hc => ?_) ⟨dx2, l, .ref q, ?_, ?_, .inr ⟨q, ws, rfl, rfl, ?_, n1, rfl⟩⟩ upd_same
          · rcases List.mem_cons.mp hc with e | hc
            · rw [e]
              exact .inl hpA
            · rcases List.mem_cons.mp hc with e | hc
              · rw [e]
                exact .inl hlA
              · rw [List.mem_singleton.mp hc]
                exact hq
          · rw [upd_ne hpr, upd_ne hpl]
            exact g1
          · rw [upd_ne hlr, upd_same, ef]
          · rw [upd_ne hqr, upd_ne n1]
            exact h4
end
end K76
/-! Gates: a feed that is refused. -/
namespace K76
open PySem PySem.Spec PyProof.Rows L2
section
variable {P : Program} {w : World} {K : PySem.W.Frag} {mg : Str → Option Value} {base : Heap} {C CN : Addr}
theorem ok_gBad (D : Mdf K C "feed" "Gate.feed" sGFeed) (X : Gx K mg C) (GW : Cal P w K mg base (L2.CX P w) 3 "a_want" ["good", "word"] (spWant CN)) (GD : Cal P w K mg base CX0 4 "is_digits" ["base", "thing"] spDigits) :
    CalM P w K mg base (L2.CX P w) 5 C "feed" ["self", "digits"] (spGBad C CN) := by
  obtain ⟨f, fd, F, hm⟩ := D.ex
  refine ⟨f, fd, F.okX scGFeed (fun vs H Q E h => ?_) (fun cdv A outer s H vs Q E hr h => ?_), hm, F.binds fun _ _ _ _ _ _ us hl => match us, hl with | [_, _], _ => rfl⟩
  · obtain ⟨p, A, b, fnd, wait, beg, x, rfl, _⟩ := h
    rfl
  · obtain ⟨p, A, b, fnd, wait, beg, x, rfl, G, O, hd, k⟩ := h
    refine ⟨_, pss_cons (ps_expr (pe_cl (E := E) GW (hr.mono (by decide)) (passes_call (W := fun cls d _ H => E cls d H) (takes_of rfl rfl rfl rfl) (fun _ _ _ _ z => z)) (pa_cons (pe_cl GD hr pass0 (pa_cons (pe_fld (pv 0) rfl) (pa_cons (pv 1) pa_nil))) (pa_cons pe_str pa_nil)))) pss_never, ?_⟩
    obtain ⟨dx, l, wv, h1, h2, h3⟩ := id G.ex
    have h3b := O.b3
    refine ⟨_, rfl, p, C, dx, _, _, rfl, h1, X.cl, X.nB, lk_base, _, rfl, b, _, false, rfl, by omega, O.b256, hd, fun H1 s1 => ⟨_, _, rfl, fun z => (by cases z), fun _ d H2 s2 e => k d H2 (s1.trans s2) e⟩⟩
end
end K76
/-! framing. -/
namespace K76
open PySem PySem.Spec PyProof.Rows L2
def nZ (l : List Nat) : List Int := l.map fun (n : Nat) => (n : Int)
def spFramesIn : Sp := fun vs H Q _ => ∃ (b : Int) (a : Addr) (ns : List Int), vs = [.int b, .ref a] ∧ 3 ≤ b ∧ b ≤ 256 ∧ H a = some (.tup (zV ns)) ∧ Dg b ns ∧ ns.length ≤ 470 ∧
  ∀ r H', Same H H' → H' r = some (.lst (zV (stks (b - 1) (grun (b - 1) g0 ns).1))) → Q (.ref r) H'
def spStreamOf : Sp := fun vs H Q _ => ∃ (b : Int) (a : Addr) (ws : List (List Int)), vs = [.int b, .ref a] ∧ 3 ≤ b ∧ b ≤ 256 ∧ H a = some (.tup (zV (stks (b - 1) ws))) ∧ (∀ u ∈ ws, Dg (b - 1) u ∧ u.length ≤ 1000) ∧ ws.length ≤ 1000 ∧
  ∀ r H', Same H H' → H' r = some (.tup (zV (mid (b - 1) ws ++ [b - 1]))) → Q (.ref r) H'
def spStartsOf : Sp := fun vs H Q _ => ∃ (b : Int) (a : Addr) (u : List Int), vs = [.int b, .ref a] ∧ 3 ≤ b ∧ b ≤ 256 ∧ H a = some (.tup (zV u)) ∧ Dg b u ∧ u.length ≤ 5000 ∧ u.head? = some (b - 1) ∧ u.getLast? = some (b - 1) ∧
  ∀ r H', Same H H' → H' r = some (.tup (zV (nZ (mks (b - 1) 0 u)))) → Q (.ref r) H'
theorem mid_length_le {m : Int} {n : Nat} : ∀ {ws : List (List Int)}, (∀ u ∈ ws, u.length ≤ n) → (mid m ws).length ≤ ws.length * (n + 1)
  | [], _ => Nat.zero_le _
  | u :: ws, h => by
    rw [mid_cons, List.length_cons, List.length_append, List.length_cons, Nat.add_mul, Nat.one_mul]
    have h1 := h u List.mem_cons_self
    have h2 := mid_length_le (m := m) (n := n) fun v hv => h v (List.mem_cons_of_mem _ hv)
    omega
theorem stks_at {m : Int} {ws : List (List Int)} {i : Nat} {x : V} (h : (zV (stks m ws))[i]? = some x) : ∃ u, x = .int (stk m u) ∧ ws[i]? = some u := by
  obtain ⟨z, rfl, hz⟩ := zV_at h
  unfold stks at hz
  rw [List.getElem?_map] at hz
  cases e : ws[i]? with
  | none =>
    rw [e] at hz
    cases hz
  | some u =>
    rw [e] at hz
    exact ⟨u, by rw [← Option.some.inj hz], rfl⟩
theorem stks_len (m : Int) (ws : List (List Int)) : (zV (stks m ws)).length = ws.length := by
  unfold stks
  rw [zV_len, List.length_map]
theorem stks_snoc (m : Int) (bds : List (List Int)) (u : List Int) : zV (stks m bds) ++ [V.int (stk m u)] = zV (stks m (bds ++ [u])) := by
  unfold stks
  rw [zV_snoc, List.map_append]
  rfl
theorem gates_dec {z m : Int} : decide (V.int z = V.int m) = decide (z = m) := by
  by_cases e : z = m
  · rw [e, decide_eq_true rfl, decide_eq_true rfl]
  · rw [decide_eq_false e, decide_eq_false fun q => e (V.int.inj q)]
section
variable {P : Program} {w : World} {K : PySem.W.Frag} {mg : Str → Option Value} {base : Heap} {CN : Addr}
theorem scFramesIn : FnScope ["base", "scrap", "found", "body", "digit"] ["base", "scrap"] (defScope sFramesIn) := ⟨rfl, rfl, rfl, by decide +kernel, rfl, by decide +kernel, by decide +kernel⟩
theorem ok_framesIn (D : Df K mg "frames_in" sFramesIn) (T : Bt mg) (GW : Cal P w K mg base (L2.CX P w) 3 "a_want" ["good", "word"] (spWant CN)) (GD : Cal P w K mg base CX0 4 "is_digits" ["base", "thing"] spDigits)
    (GS : Cal P w K mg base CX0 6 "stack_of" ["base", "digits"] spStackOf) (GB : Cal P w K mg base CX0 4 "want_base" ["base"] spWantBase) : Cal P w K mg base CX0 7 "frames_in" ["base", "scrap"] spFramesIn := by
  obtain ⟨f, fd, F, g⟩ := D.ex
  refine ⟨f, fd, F.ok scFramesIn (fun vs H Q E h => ?_) (fun cdv A outer s H vs Q E hr h => ?_), g, F.kp, F.binds fun _ _ _ _ _ _ us hl => match us, hl with | [_, _], _ => rfl⟩
  · obtain ⟨b, a, ns, rfl, _⟩ := h
    rfl
  · obtain ⟨b, a, ns, rfl, h3, h256, ha, hd, hz, k⟩ := h
    refine ⟨_, pss_cons (ps_expr (pe_cl GB (hr.mono (by decide)) pass0 (pa_cons (pv 0) pa_nil)))
      (pss_cons (ps_expr (pe_cl GW (hr.mono (by decide)) passL (pa_cons (pe_cl GD (hr.mono (by decide)) pass0 (pa_cons (pv 0) (pa_cons (pv 1) pa_nil))) (pa_cons pe_str pa_nil))))
      (pss_cons (ps_set (i := 2) scFramesIn.nd rfl (Or.inl rfl) (pe_lst pa_nil))
      (pss_cons (ps_set (i := 3) scFramesIn.nd rfl (Or.inl rfl) pe_non)
      (pss_cons (ps_for PassesOwn.never rfl (pi_tup (pv 1)) (pg_name (i := 4) scFramesIn.nd rfl (Or.inl rfl))
        (pss_one (ps_if (pt_cmpR op_eq (pv 4) (pe_op op_sub (pv 0) pe_int) (nomark _))
          (C8.pss_cut (ps_if (pt_cmpR op_notN (pv 3) pe_non (nomark _))
            (pss_one (ps_expr (pe_bm PySem.F.plainAttrs_list PySem.F.slot_list_append PySem.F.type_list_append mt_append (pv 2) (pa_cons
              (pe_cl GS hr pass0 (pa_cons (pe_op op_sub (pv 0) pe_int) (pa_cons (pe_callTy call_tuple_of (by rfl) T.tuple (by decide +kernel) (pa_cons (pv 3) pa_nil)) pa_nil))) pa_nil)))) pss_nil)
            (pss_one (ps_set (i := 3) scFramesIn.nd rfl (Or.inl rfl) (pe_lst pa_nil))))
          (pss_one (ps_if (pt_cmpR op_notN (pv 3) pe_non (nomark _))
            (pss_one (ps_expr (pe_bm PySem.F.plainAttrs_list PySem.F.slot_list_append PySem.F.type_list_append mt_append (pv 3) (pa_cons (pv 4) pa_nil)))) pss_nil)))))
      (pss_one (ps_ret (pv 2))))))), ?_⟩
    refine ⟨_, rfl, b, rfl, h3, h256, ?_⟩
    refine ⟨_, rfl, _, rfl, b, _, true, rfl, by omega, h256, digR_of ha hd (by omega), fun H1 s1 => ⟨_, _, rfl, fun _ => ?_, fun z => by cases z⟩⟩
    refine ⟨Nat.zero_le _, fun t ht => ?_⟩
    have ht0 : H t = none := Same.free s1 ht
    let St (i : Nat) (bv : V) (bds : List (List Int)) (wt : Option (List Int)) (H' : Hp) : Prop := Same H H' ∧ H' t = some (.lst (zV (stks (b - 1) bds))) ∧
      ((wt = none ∧ bv = .non) ∨ ∃ q ws, wt = some ws ∧ bv = .ref q ∧ H' q = some (.lst (zV ws)) ∧ q ≠ t ∧ H q = none)
    let Pv : Nat → L2.St → Hp → Prop := fun i σ H' => ∃ bv o4, σ = [some (.int b), some (.ref a), some (.ref t), some bv, o4] ∧ St i bv (grun (b - 1) g0 (ns.take i)).1 (grun (b - 1) g0 (ns.take i)).2.1 H'
    refine ⟨_, rfl, a, rfl, ⟨_, SqT.of (same_new ht _ _ (s1 _ _ ha))⟩, for_tup (K := K) (a := a) (xs := zV ns) Pv ⟨.non, none, rfl, same_upd s1 ht0, upd_same, .inl ⟨rfl, rfl⟩⟩ (fun i σ H' _ q => ?_) ?_ ?_⟩
    · obtain ⟨_, _, _, s2, _⟩ := q
      exact SqT.of (s2 _ _ ha)
    · rintro i x σ H2 hi ⟨bv, o4, rfl, s2, e2, h2⟩
      obtain ⟨z, rfl, hz1⟩ := zV_at hi
      have hil : i < ns.length := (List.getElem?_eq_some_iff.mp hz1).1
      have RO := runOk (m := b - 1) (l := ns.take i) (by rw [show b - 1 + 1 = b by omega]; exact hd.take i)
      have hti : (ns.take i).length = i := by
        rw [List.length_take]
        omega
      rw [hti] at RO
      have eg : grun (b - 1) g0 (ns.take (i + 1)) = gst (b - 1) (grun (b - 1) g0 (ns.take i)) z := by rw [take_snoc hz1, grun_snoc]
      simp only [Pv]
      rw [eg]
      generalize grun (b - 1) g0 (ns.take i) = g at e2 h2 RO ⊢
      obtain ⟨bds, wt, bg⟩ := g
      simp only at e2 h2
      have RL : bds.length ≤ i := RO.len
      refine ⟨_, rfl, _, rfl, _, _, rfl, rfl, rfl, _, rfl, ?_⟩
      rw [gates_dec]
      by_cases hm : z = b - 1
      · rw [decide_eq_true hm]
        refine iteT ?_
        refine ⟨fun σ' H' => σ' = [some (.int b), some (.ref a), some (.ref t), some bv, some (.int z)] ∧ St i bv (tlo wt bds) wt H', ?_, ?_⟩
        · refine ⟨_, rfl, rfl, _, rfl, ?_⟩
          rcases h2 with ⟨rfl, rfl⟩ | ⟨q, ws, rfl, rfl, h4, n1, n2⟩
          · refine iteF ?_
            exact ⟨rfl, s2, e2, .inl ⟨rfl, rfl⟩⟩
          · rw [show (!decide (V.ref q = V.non)) = true from by rw [decide_eq_false fun z => nomatch z]; rfl]
            refine iteT ?_
            obtain ⟨d1, d2⟩ := RO.wt ws rfl
            refine ⟨_, rfl, .inl ⟨rfl, _, SqL.of e2⟩, _, rfl, _, _, rfl, rfl, _, rfl, q, _, rfl, .inl ⟨SqL.of h4, fun r hrn => ?_⟩⟩
            refine ⟨b - 1, r, ws, rfl, by omega, by omega, upd_same, d1, by omega, fun H4 s4 => ?_⟩
            have s34 : Same H2 H4 := fun c o e => s4 _ _ (same_new hrn _ _ e)
            refine ⟨t, _, _, rfl, rfl, s34 _ _ e2, ?_, rfl, same_upd (s2.trans s34) ht0, ?_, .inr ⟨q, ws, rfl, rfl, ?_, n1, n2⟩⟩
            · rw [stks_len]
              exact line5000 (by omega)
            · rw [upd_same, stks_snoc]
              rfl
            · rw [upd_ne n1]
              exact s34 _ _ h4
        · rintro σ' H3 ⟨rfl, s3, e3, h3'⟩
          refine ⟨Nat.zero_le _, fun q hq => ?_⟩
          have hq0 : H q = none := Same.free s3 hq
          have htq : t ≠ q := ne_of_none e3 hq
          have e1 : (gst (b - 1) (bds, wt, bg) z).1 = tlo wt bds := by
            unfold gst
            simp only [hm, if_true]
            cases wt <;> rfl
          have e4 : (gst (b - 1) (bds, wt, bg) z).2.1 = some [] := by
            unfold gst
            simp only [hm, if_true]
          rw [e1, e4]
          exact ⟨_, _, rfl, same_upd s3 hq0, by rw [upd_ne htq]; exact e3, .inr ⟨q, [], rfl, rfl, upd_same, htq.symm, hq0⟩⟩
      · rw [decide_eq_false hm]
        refine iteF ?_
        have e1 : (gst (b - 1) (bds, wt, bg) z).1 = bds := by
          unfold gst
          simp only [hm, if_false]
        have e4 : (gst (b - 1) (bds, wt, bg) z).2.1 = wt.map (· ++ [z]) := by
          unfold gst
          simp only [hm, if_false]
        rw [e1, e4]
        refine ⟨_, rfl, rfl, _, rfl, ?_⟩
        rcases h2 with ⟨rfl, rfl⟩ | ⟨q, ws, rfl, rfl, h4, n1, n2⟩
        · refine iteF ?_
          exact ⟨_, _, rfl, s2, e2, .inl ⟨rfl, rfl⟩⟩
        · rw [show (!decide (V.ref q = V.non)) = true from by rw [decide_eq_false fun z => nomatch z]; rfl]
          refine iteT ?_
          have d2 := (RO.wt ws rfl).2
          refine ⟨_, rfl, .inl ⟨rfl, _, SqL.of h4⟩, _, rfl, q, _, _, rfl, rfl, h4, ?_, ?_⟩
          · rw [zV_len]
            exact line5000 (by omega)
          · exact ⟨_, _, rfl, same_upd s2 n2, by rw [upd_ne n1.symm]; exact e2, .inr ⟨q, _, rfl, rfl, by rw [upd_same, zV_snoc], n1, n2⟩⟩
    · rintro σ H2 ⟨bv, o4, rfl, s2, e2, _⟩
      rw [zV_len, List.take_length] at e2
      exact ⟨_, rfl, k t H2 s2 e2⟩
theorem scStreamOf : FnScope ["base", "stacks", "stack", "digits"] ["base", "stacks"] (defScope sStreamOf) := ⟨rfl, rfl, rfl, by decide +kernel, rfl, by decide +kernel, by decide +kernel⟩
theorem ok_streamOf (D : Df K mg "stream_of" sStreamOf) (T : Bt mg) (GW : Cal P w K mg base (L2.CX P w) 3 "a_want" ["good", "word"] (spWant CN)) (GB : Cal P w K mg base CX0 4 "want_base" ["base"] spWantBase)
    (GN : Cal P w K mg base CX0 2 "is_number" ["thing"] spIsNum) (GR : Cal P w K mg base CX0 4 "row_of" ["base", "stack"] spRowOf) : Cal P w K mg base CX0 5 "stream_of" ["base", "stacks"] spStreamOf := by
  obtain ⟨f, fd, F, g⟩ := D.ex
  refine ⟨f, fd, F.ok scStreamOf (fun vs H Q E h => ?_) (fun cdv A outer s H vs Q E hr h => ?_), g, F.kp, F.binds fun _ _ _ _ _ _ us hl => match us, hl with | [_, _], _ => rfl⟩
  · obtain ⟨b, a, ws, rfl, _⟩ := h
    rfl
  · obtain ⟨b, a, ws, rfl, h3, h256, ha, hd, hz, k⟩ := h
    refine ⟨_, pss_cons (ps_expr (pe_cl GB hr pass0 (pa_cons (pv 0) pa_nil)))
      (pss_cons (ps_expr (pe_cl GW (hr.mono (by decide)) passL (pa_cons (pe_callB call_isi (by rfl) T.isinstance (by decide +kernel) (pa_cons (pv 1) (pa_cons (pe_bltn (v := .ty "tuple") (by rfl) T.tuple (by decide +kernel) rfl) pa_nil))) (pa_cons pe_str pa_nil))))
      (pss_cons (ps_for PassesOwn.never rfl (pi_tup (pv 1)) (pg_name (i := 2) scStreamOf.nd rfl (Or.inl rfl))
        (pss_one (ps_expr (pe_cl GW (hr.mono (by decide)) passL (pa_cons (pe_cl GN (hr.mono (by decide)) pass0 (pa_cons (pv 2) pa_nil)) (pa_cons pe_str pa_nil))))))
      (pss_cons (ps_set (i := 3) scStreamOf.nd rfl (Or.inl rfl) (pe_lst pa_nil))
      (pss_cons (ps_for PassesOwn.never rfl (pi_tup (pv 1)) (pg_name (i := 2) scStreamOf.nd rfl (Or.inl rfl))
        (pss_cons (ps_expr (pe_bm PySem.F.plainAttrs_list PySem.F.slot_list_append PySem.F.type_list_append mt_append (pv 3) (pa_cons (pe_op op_sub (pv 0) pe_int) pa_nil)))
        (pss_one (ps_expr (pe_bm PySem.F.plainAttrs_list PySem.F.slot_list_extend PySem.F.type_list_extend mt_extT (pv 3) (pa_cons (pe_cl GR hr pass0 (pa_cons (pe_op op_sub (pv 0) pe_int) (pa_cons (pv 2) pa_nil))) pa_nil))))))
      (pss_one (ps_ret (pe_callTy call_tuple_of (by rfl) T.tuple (by decide +kernel) (pa_cons (pe_op op_cat (pv 3) (pe_lst (pa_cons (pe_op op_sub (pv 0) pe_int) pa_nil))) pa_nil)))))))), ?_⟩
    have hm2 : 2 ≤ b - 1 := by omega
    refine ⟨_, rfl, b, rfl, h3, h256, ?_⟩
    obtain ⟨ty, t1, t2⟩ := pl_tup (K := K) ha
    refine ⟨_, rfl, _, _, ty, _, _, rfl, .ty "tuple", t1, t2, _, _, rfl, fun _ => ?_, fun z => by cases z⟩
    refine ⟨_, rfl, a, rfl, ⟨_, SqT.of ha⟩, for_tup (K := K) (a := a) (xs := zV (stks (b - 1) ws)) (fun i σ H' => H' = H ∧ ∃ o : Option V, σ = [some (.int b), some (.ref a), o, none]) ⟨rfl, none, rfl⟩ (fun i σ H' _ q => by rw [q.1]; exact SqT.of ha) ?_ ?_⟩
    · rintro i x σ H' hi ⟨rfl, o, rfl⟩
      obtain ⟨u, rfl, hu⟩ := stks_at hi
      refine ⟨_, rfl, _, rfl, True.intro, _, _, rfl, fun _ => ?_, fun z => ?_⟩
      · exact ⟨rfl, some (.int (stk (b - 1) u)), rfl⟩
      · exact want_true (b := b) (stk_nn (by omega) (hd u (List.mem_of_getElem? hu)).1) z
    · rintro σ H' ⟨rfl, o, rfl⟩
      refine ⟨Nat.zero_le _, fun t ht => ?_⟩
      refine ⟨_, rfl, a, rfl, ⟨_, SqT.of (same_new ht _ _ ha)⟩, for_tup (K := K) (a := a) (xs := zV (stks (b - 1) ws)) (fun i σ H1 => ∃ o : Option V, σ = [some (.int b), some (.ref a), o, some (.ref t)] ∧ Same H' H1 ∧ H1 t = some (.lst (zV (mid (b - 1) (ws.take i))))) ⟨o, rfl, same_new ht, upd_same⟩
        (fun i σ H1 _ q => by obtain ⟨_, _, s1, _⟩ := q; exact SqT.of (s1 _ _ ha)) ?_ ?_⟩
      · rintro i x σ H1 hi ⟨o1, rfl, s1, e1⟩
        obtain ⟨u, rfl, hu⟩ := stks_at hi
        have hil : i < ws.length := (List.getElem?_eq_some_iff.mp hu).1
        obtain ⟨d1, d2⟩ := hd u (List.mem_of_getElem? hu)
        have hlen := mid_length_le (m := b - 1) (n := 1000) (ws := ws.take i) fun v hv => (hd v (List.mem_of_mem_take hv)).2
        have hti : (ws.take i).length ≤ 1000 := by
          rw [List.length_take]
          omega
        have hle : (mid (b - 1) (ws.take i)).length ≤ 1001000 := Nat.le_trans hlen (Nat.mul_le_mul_right _ hti)
        have hln : (1002500 : Nat) ≤ sizeLine := by decide
        refine ⟨_, rfl, .inl ⟨rfl, _, SqL.of e1⟩, _, rfl, _, _, rfl, rfl, t, _, _, rfl, rfl, e1, (by rw [zV_len]; omega), ?_⟩
        refine ⟨_, rfl, .inl ⟨rfl, _, SqL.of upd_same⟩, _, rfl, _, _, rfl, rfl, _, rfl, b - 1, u, rfl, hm2, by omega, d1, d2, fun p H2 s2 _ e2 => ?_⟩
        refine ⟨t, p, _, _, rfl, rfl, s2 _ _ upd_same, e2, ?_, ?_⟩
        · rw [List.length_append, zV_len, zV_len, List.length_singleton]
          omega
        · refine ⟨some (.int (stk (b - 1) u)), rfl, same_upd (fun c o e => s2 _ _ (by rw [upd_ne (ne_of_none e ht)]; exact s1 _ _ e)) ht, ?_⟩
          rw [upd_same, take_snoc hu, mid_snoc]
          unfold zV
          rw [List.map_append, List.append_assoc]
          rfl
      · rintro σ H1 ⟨o1, rfl, s1, e1⟩
        rw [stks_len, List.take_length] at e1
        have hlen := mid_length_le (m := b - 1) (n := 1000) (ws := ws) fun v hv => (hd v hv).2
        have hle : (mid (b - 1) ws).length ≤ 1001000 := Nat.le_trans hlen (Nat.mul_le_mul_right _ hz)
        have hln : (1002500 : Nat) ≤ sizeLine := by decide
        refine ⟨_, rfl, _, rfl, _, _, rfl, rfl, by show 1 ≤ sizeLine; decide, fun l hl => ?_⟩
        have htl : t ≠ l := ne_of_none e1 hl
        refine ⟨t, l, _, _, rfl, rfl, by rw [upd_ne htl]; exact e1, upd_same, ?_, fun q hq => ?_⟩
        · rw [zV_len, List.length_singleton]
          omega
        · refine ⟨q, _, rfl, .inl ⟨SqL.of upd_same, fun r hrn => ?_⟩⟩
          refine k r _ (fun c o e => same_new hrn _ _ (same_new hq _ _ (same_new hl _ _ (s1 _ _ e)))) ?_
          rw [upd_same, ← zV_snoc]
theorem scStartsOf : FnScope ["base", "stream", "k", "digit"] ["base", "stream"] (defScope sStartsOf) := ⟨rfl, rfl, rfl, by decide +kernel, rfl, by decide +kernel, by decide +kernel⟩
theorem ok_startsOf (D : Df K mg "starts_of" sStartsOf) (T : Bt mg) (GW : Cal P w K mg base (L2.CX P w) 3 "a_want" ["good", "word"] (spWant CN)) (GB : Cal P w K mg base CX0 4 "want_base" ["base"] spWantBase)
    (GF : Cal P w K mg base CX0 5 "fits_framed" ["base", "thing"] spFits) : Cal P w K mg base CX0 6 "starts_of" ["base", "stream"] spStartsOf := by
  obtain ⟨f, fd, F, g⟩ := D.ex
  refine ⟨f, fd, F.ok scStartsOf (fun vs H Q E h => ?_) (fun cdv A outer s H vs Q E hr h => ?_), g, F.kp, F.binds fun _ _ _ _ _ _ us hl => match us, hl with | [_, _], _ => rfl⟩
  · obtain ⟨b, a, u, rfl, _⟩ := h
    rfl
  · obtain ⟨b, a, u, rfl, h3, h256, ha, hd, hz, hh, hl, k⟩ := h
    refine ⟨_, pss_cons (ps_expr (pe_cl GB (hr.mono (by decide)) pass0 (pa_cons (pv 0) pa_nil)))
      (pss_cons (ps_expr (pe_cl GW (hr.mono (by decide)) passL (pa_cons (pe_cl GF hr pass0 (pa_cons (pv 0) (pa_cons (pv 1) pa_nil))) (pa_cons pe_str pa_nil))))
      (pss_one (ps_ret (pe_callTy call_tuple_of (by rfl) T.tuple (by decide +kernel) (pa_cons
        (pe_lc (own := [("k", 2), ("digit", 3)]) (g := gTup K 2 (gCons (gName 2) (gCons (gName 3) gNil))) rfl scStartsOf.nd (pi_enumT (by rfl) T.enumerate (pa_cons (pv 1) pa_nil)) (blkOk_by (own := [("k", 2), ("digit", 3)]) (N := ["base", "stream", "k", "digit"]) (sc := defScope sStartsOf) (by decide +kernel))
          (fun _ _ _ _ _ => pg_tup rfl (pgs_cons (pg_name (i := 2) scStartsOf.nd rfl (Or.inl rfl)) (pgs_cons (pg_name (i := 3) scStartsOf.nd rfl (Or.inl rfl)) pgs_nil)))
          (fun _ _ _ _ _ => pts_one (pt_cmpR op_eq (pv 3) (pe_op op_sub (pv 0) pe_int) (nomark _))) (fun _ _ _ _ _ => pv 2)) pa_nil))))), ?_⟩
    refine ⟨_, rfl, b, rfl, h3, h256, ?_⟩
    refine ⟨_, rfl, _, rfl, b, a, u, rfl, h3, h256, ha, hd, hz, hh, hl, fun H1 s1 => ⟨_, _, rfl, fun _ => ?_, fun z => by cases z⟩⟩
    refine ⟨_, rfl, a, zV u, rfl, SqT.of (s1 _ _ ha), fun D hD => lc_it walk_enumT (fun i H' => Same H1 H' ∧ H' D = some (.lst (zV (nZ (mks (b - 1) 0 (u.take i)))))) ⟨same_new hD, upd_same⟩ (fun i H' _ q => SqT.of (q.1 _ _ (s1 _ _ ha))) ?_ ?_⟩
    · rintro i x H2 H3 hi ⟨s2, e2⟩ ⟨Tp, y, z, rfl, hT, rfl, hy, hz1⟩
      cases (Option.some.inj hy)
      obtain ⟨d, rfl, hd1⟩ := zV_at hz1
      have hD2 : D ≠ Tp := ne_of_none e2 hT
      refine ⟨Tp, _, rfl, SqT.of upd_same, rfl, _, _, rfl, _, _, rfl, rfl, rfl, ?_⟩
      refine ⟨_, rfl, _, rfl, _, _, rfl, rfl, rfl, _, rfl, ?_⟩
      rw [gates_dec]
      have hil : i < u.length := (List.getElem?_eq_some_iff.mp hd1).1
      have hti : (u.take i).length = i := by
        rw [List.length_take]
        omega
      have em : mks (b - 1) 0 (u.take (i + 1)) = mks (b - 1) 0 (u.take i) ++ (if d = b - 1 then [i] else []) := by rw [take_snoc hd1, mks_snoc, hti]
      have s3 : Same H1 (upd H2 Tp (.tup [.int (i : Nat), .int d])) := fun c o e => same_new hT _ _ (s2 _ _ e)
      have e3 : (upd H2 Tp (.tup [.int (i : Nat), .int d])) D = some (.lst (zV (nZ (mks (b - 1) 0 (u.take i))))) := by rw [upd_ne hD2]; exact e2
      by_cases hm : d = b - 1
      · rw [decide_eq_true hm]
        refine iteT ?_
        refine ⟨_, rfl, _, e3, ?_, same_upd s3 hD, ?_⟩
        · have h1 := mks_count (b - 1) (u.take i) 0
          rw [hti] at h1
          unfold zV nZ
          rw [List.length_map, List.length_map]
          exact line5000 (by omega)
        · rw [upd_same, em, if_pos hm]
          unfold zV nZ
          rw [List.map_append, List.map_append]
          rfl
      · rw [decide_eq_false hm]
        refine iteF ?_
        refine ⟨s3, ?_⟩
        rw [e3, em, if_neg hm, List.append_nil]
    · rintro H2 ⟨s2, e2⟩
      rw [zV_len, List.take_length] at e2
      exact ⟨D, _, rfl, .inl ⟨SqL.of e2, fun r hrn => k r _ (fun c o e => same_new hrn _ _ (s2 _ _ (s1 _ _ e))) upd_same⟩⟩
end
end K76
/-! The law's draws. -/
namespace K76
open PySem PySem.Spec PyProof.Rows L2
/-! ### data -/
theorem dpAll_zV {K : PySem.W.Frag} {H : Hp} : ∀ ns : List Int, DpAll K H (zV ns) (ns.map PyData.int)
  | [] => .nil
  | n :: r => .cons (.int n) (dpAll_zV r)
theorem lay_ints : ∀ ns : List Int, PyData.canLayAll0 (ns.map PyData.int) = true
  | [] => by simp only [List.map_nil, PyData.canLayAll0]
  | n :: r => by
    rw [List.map_cons, PyData.canLayAll0, lay_ints r]
    simp only [PyData.canLay0, Bool.and_self]
theorem depth_ints : ∀ ns : List Int, PyData.depthAll (ns.map PyData.int) = 0
  | [] => by simp only [List.map_nil, PyData.depthAll]
  | n :: r => by
    rw [List.map_cons, PyData.depthAll, depth_ints r]
    simp only [PyData.depth, Nat.max_self]
theorem shaped_list (ns : List Int) : SeqAt.shaped (.list (ns.map PyData.int)) = true := by
  unfold SeqAt.shaped
  rw [PyData.canLay0, lay_ints, PyData.depth, depth_ints]
  rfl
theorem eqv_nil (ns : List Int) : PyData.eqv (.list (ns.map PyData.int)) (.list []) = ns.isEmpty := by
  cases ns <;> simp [PyData.eqv, PyData.eqvAll]
/-- a list of ints is not [] -/
theorem ne_nil {K : PySem.W.Frag} {H : Hp} {a l : Addr} {ns : List Int} {Q : VK} (h : H a = some (.lst (zV ns))) (hl : H l = some (.lst [])) (q : Q (.bl (!ns.isEmpty)) H) : rNeD K (.ref a) (.ref l) H Q :=
  ⟨_, _, .lst (SqL.of h) (dpAll_zV ns), .lst (SqL.of hl) .nil, shaped_list ns, shaped_list [], by rw [eqv_nil]; exact q⟩
theorem eq_nil {K : PySem.W.Frag} {H : Hp} {a l : Addr} {ns : List Int} {Q : VK} (h : H a = some (.lst (zV ns))) (hl : H l = some (.lst [])) (q : Q (.bl ns.isEmpty) H) : rEqD K (.ref a) (.ref l) H Q :=
  ⟨_, _, .lst (SqL.of h) (dpAll_zV ns), .lst (SqL.of hl) .nil, shaped_list ns, shaped_list [], by rw [eqv_nil]; exact q⟩

/-! ### the feed -/
def fkv (m : Int) (g : Addr) (n : Int) : List (Key × V) := [(Sum.inr "mixed", .int m), (Sum.inr "great", .ref g), (Sum.inr "left", .int n)]
section
variable {m n x : Int} {g g' : Addr}
theorem val_mixed : valV (fkv m g n) (Sum.inr "mixed" : Key) = some (.int m) := by kernel_rfl
theorem val_great : valV (fkv m g n) (Sum.inr "great" : Key) = some (.ref g) := by kernel_rfl
theorem val_left : valV (fkv m g n) (Sum.inr "left" : Key) = some (.int n) := by kernel_rfl
theorem putK_mixed : putK (fkv m g n) (Sum.inr "mixed" : Key) (.int x) = fkv x g n := by kernel_rfl
theorem putK_great : putK (fkv m g n) (Sum.inr "great" : Key) (.ref g') = fkv m g' n := by kernel_rfl
theorem putK_left : putK (fkv m g n) (Sum.inr "left" : Key) (.int x) = fkv m g x := by kernel_rfl
theorem merge_fkv : mergeK [] (fkv m g n) = fkv m g n := by kernel_rfl
end
structure FeedAt (H : Hp) (d : Addr) (A : List Addr) : Prop where
  ex : ∃ (m n : Int) (g : Addr) (gs : List Int), A = [d, g] ∧ H d = some (.dK (fkv m g n)) ∧ H g = some (.lst (zV gs)) ∧ 0 ≤ m ∧ m < 2147483587 ∧ 0 ≤ n ∧ ∀ x ∈ gs, 0 ≤ x
theorem feed_same {H H' : Hp} {d : Addr} {A : List Addr} (s : Same H H') (F : FeedAt H d A) : FeedAt H' d A := by
  obtain ⟨m, n, g, gs, h1, h2, h3, r⟩ := F.ex
  exact ⟨m, n, g, gs, h1, s _ _ h2, s _ _ h3, r⟩
theorem feed_dom {H : Hp} {d : Addr} {A : List Addr} (F : FeedAt H d A) : ∀ c ∈ A, H c ≠ none := by
  obtain ⟨m, n, g, gs, rfl, h2, h3, _⟩ := F.ex
  intro c hc z
  rcases List.mem_cons.mp hc with e | hc
  · rw [e, h2] at z
    cases z
  · rw [List.mem_singleton.mp hc, h3] at z
    cases z
/-- one that stands for many: what is owned has moved on -/
def Step (A : List Addr) (H : Hp) (d : Addr) (A' : List Addr) (H' : Hp) : Prop := Out A H H' ∧ Grow A A' H ∧ FeedAt H' d A'
def spDraw : Sp := fun vs H Q _ => ∃ (d : Addr) (A : List Addr) (n : Int), vs = [.ref d, .int n] ∧ FeedAt H d A ∧ 1 ≤ n ∧ n ≤ 2000 ∧ ∀ r H' A', 0 ≤ r → r < n → Out A H H' → Grow A A' H → FeedAt H' d A' → Q (.int r) H'
def spAny : Sp := fun vs H Q _ => ∃ (d : Addr) (A : List Addr) (a : Addr) (xs : List V), vs = [.ref d, .ref a] ∧ FeedAt H d A ∧ H a = some (.lst xs) ∧ a ∉ A ∧ xs ≠ [] ∧ xs.length ≤ 100 ∧
  ∀ x ∈ xs, ∀ H' A', Out A H H' → Grow A A' H → FeedAt H' d A' → Q x H'
def gMax : Int := 8 * 1000 ^ 20
def spGround : Sp := fun vs H Q _ => ∃ (d : Addr) (A : List Addr), vs = [.ref d] ∧ FeedAt H d A ∧ ∀ x H' A', 0 ≤ x → x < gMax → Out A H H' → Grow A A' H → FeedAt H' d A' → Q (.int x) H'
def spLFeed (K : PySem.W.Frag) : Sp := fun vs H Q _ => ∃ (a : Addr) (ns : List Int), vs = [.ref a] ∧ SqL K H a (zV ns) ∧ ns.length ≤ 63 ∧ ∀ d H' A', Same H H' → (∀ c ∈ A', H c = none) → FeedAt H' d A' → Q (.ref d) H'
section
variable {P : Program} {w : World} {K : PySem.W.Frag} {mg : Str → Option Value} {base : Heap}
theorem grow_of {A A' : List Addr} {H H1 : Hp} (h : ∀ c ∈ A', c ∈ A ∨ H1 c = none) (s : Out A H H1) : Grow A A' H := fun c hc => by
  rcases h c hc with z | z
  · exact .inl z
  · exact place_of s z
theorem scDraw : FnScope ["_law_feed_here", "_law_many", "_law_figure"] ["_law_feed_here", "_law_many"] (defScope sLDraw) := ⟨rfl, rfl, rfl, by decide +kernel, rfl, by decide +kernel, by decide +kernel⟩
theorem ok_draw (D : Df K mg "_law_draw" sLDraw) (T : Bt mg) : Cal P w K mg base CX0 1 "_law_draw" ["_law_feed_here", "_law_many"] spDraw := by
  obtain ⟨f, fd, F, g⟩ := D.ex
  refine ⟨f, fd, F.ok scDraw (fun vs H Q E h => ?_) (fun cdv A outer s H vs Q E hr h => ?_), g, F.kp, F.binds fun _ _ _ _ _ _ us hl => match us, hl with | [_, _], _ => rfl⟩
  · obtain ⟨d, A, n, rfl, _⟩ := h
    rfl
  · rename Around => Ar
    obtain ⟨d, A, n, rfl, FA, n1, n2, k⟩ := h
    have hu := hu_of hr
    refine ⟨_, C8.pss_cut (ps_if (PW.pt (pw_and (pt_cmpR op_lt (pe_dget hu (pv 0) pe_str (fun _ _ => rfl)) (pv 1) (nomark _)) (pw_and1 (pt_cmpR (op_neD hr.units) (pe_dget hu (pv 0) pe_str (fun _ _ => rfl)) (pe_lst pa_nil) (nomark _)))))
        (pss_cons (ps_dput hu (pv 0) pe_str (pe_ix ix_list (pe_dget hu (pv 0) pe_str (fun _ _ => rfl)) pe_int (fun _ _ => rfl)) rfl)
        (pss_one (ps_dput hu (pv 0) pe_str (pe_slice sl_list (pe_dget hu (pv 0) pe_str (fun _ _ => rfl)) (po_some pe_int) po_none) rfl))) pss_nil)
      (pss_cons (ps_if (pt_cmpR op_ge (pe_dget hu (pv 0) pe_str (fun _ _ => rfl)) (pv 1) (nomark _))
        (pss_cons (ps_set (i := 2) scDraw.nd rfl (Or.inl rfl) (pe_op op_mod (pe_callTy call_int1 (by rfl) T.int (by decide +kernel) (pa_cons (pe_dget hu (pv 0) pe_str (fun _ _ => rfl)) pa_nil)) (pv 1)))
        (pss_cons (ps_dput hu (pv 0) pe_str (pe_op op_fdiv (pe_dget hu (pv 0) pe_str (fun _ _ => rfl)) (pv 1)) rfl)
        (pss_one (ps_ret (pv 2))))) pss_nil)
      (pss_cons (ps_dput hu (pv 0) pe_str (pe_op op_mod (pe_callTy call_int1 (by rfl) T.int (by decide +kernel) (pa_cons (pe_op op_add (pe_op op_mul (pe_dget hu (pv 0) pe_str (fun _ _ => rfl)) pe_int) pe_int) pa_nil)) pe_int) rfl)
      (pss_one (ps_ret (pe_op op_mod (pe_callTy call_int1 (by rfl) T.int (by decide +kernel) (pa_cons (pe_op op_fdiv
        (pe_op op_mod (pe_callTy call_int1 (by rfl) T.int (by decide +kernel) (pa_cons (pe_op op_add (pe_op op_mul (pe_dget hu (pv 0) pe_str (fun _ _ => rfl)) (pe_dget hu (pv 0) pe_str (fun _ _ => rfl))) pe_int) pa_nil)) pe_int) pe_int) pa_nil)) (pv 1)))))), ?_⟩
    refine ⟨fun σ' H' => σ' = [some (.ref d), some (.int n), none] ∧ ∃ A', Step A H d A' H', ?_, ?_⟩
    · obtain ⟨m, lf, g, gs, rfl, hd, hg, m0, m1, l0, hgs⟩ := id FA.ex
      have gd : ∀ {H' : Hp}, Same H H' → DGet H' d (.str "left") (some (.int lf)) := fun {H'} s => by
        have z := DGet.k (k := (Sum.inr "left" : Key)) (s _ _ hd)
        rw [val_left] at z
        exact z
      have gg : ∀ {H' : Hp}, Same H H' → DGet H' d (.str "great") (some (.ref g)) := fun {H'} s => by
        have z := DGet.k (k := (Sum.inr "great" : Key)) (s _ _ hd)
        rw [val_great] at z
        exact z
      refine ⟨_, rfl, d, _, rfl, gd (Same.refl H), _, rfl, _, _, rfl, rfl, _, rfl, ?_⟩
      refine ite2 (fun _ => ?_) (fun _ => ?_)
      · refine ⟨_, rfl, d, _, rfl, gg (Same.refl H), Nat.zero_le _, fun l hl => ?_⟩
        have s1 := same_new (o := .lst []) hl
        refine ne_nil (s1 _ _ hg) upd_same ⟨_, rfl, ?_⟩
        cases gs with
        | nil =>
          refine iteF ?_
          exact ⟨rfl, _, same_out s1, Grow.refl _ _, feed_same s1 FA⟩
        | cons x r =>
          refine iteT ?_
          refine ⟨_, rfl, d, _, rfl, gg s1, g, _, 0, _, rfl, rfl, SqL.of (s1 _ _ hg), atI_nat (j := 0) rfl, ?_⟩
          refine ⟨_, rfl, d, _, rfl, DPut.k (k := (Sum.inr "left" : Key)) (s1 _ _ hd) (by show 3 < sizeLine; decide), ?_⟩
          rw [putK_left]
          have hgd : g ≠ d := ne_of hg hd (by intro z; cases z)
          refine ⟨_, rfl, d, .ref g, rfl, ?_, 1, rfl, g, zV (x :: r), rfl, SqL.of ?_, fun p hp => ?_⟩
          · have z := DGet.k (k := (Sum.inr "great" : Key)) (H := upd (upd H l (.lst [])) d (.dK (fkv m g x))) (a := d) upd_same
            rw [val_great] at z
            exact z
          · rw [upd_ne hgd]
            exact s1 _ _ hg
          · have hpd : d ≠ p := fun z => by
              rw [← z, upd_same] at hp
              cases hp
            have hpl : H p = none := by
              rw [upd_ne hpd.symm] at hp
              exact Same.free s1 hp
            refine ⟨_, rfl, d, _, rfl, DPut.k (k := (Sum.inr "great" : Key)) (by rw [upd_ne hpd]; exact upd_same) (by show 3 < sizeLine; decide), ?_⟩
            rw [putK_great]
            refine ⟨rfl, [d, p], ?_, ?_, ⟨m, x, p, r, rfl, upd_same, ?_, m0, m1, hgs x List.mem_cons_self, fun y hy => hgs y (List.mem_cons_of_mem _ hy)⟩⟩
            · exact (((same_out s1).upd (.inl List.mem_cons_self)).upd (.inr hpl)).upd (.inl List.mem_cons_self)
            · intro c hc
              rcases List.mem_cons.mp hc with z | hc
              · exact .inl (by rw [z]; exact List.mem_cons_self)
              · exact .inr (by rw [List.mem_singleton.mp hc]; exact hpl)
            · rw [upd_ne hpd.symm, upd_same]
              have e : cutV (zV (x :: r)) (some 1) none = zV r := by
                unfold cutV
                rw [show (some (1 : Int)) = some ((1 : Nat) : Int) from rfl, HT.sIx_nat, HT.sIx_none]
                simp only [zV, List.map_cons, List.length_cons, Nat.min_def]
                rw [if_pos (by omega), List.drop_succ_cons, List.drop_zero, List.take_of_length_le (by simp)]
              exact congrArg (fun z => some (HO.lst z)) e
      · refine iteF ?_
        exact ⟨rfl, _, Out.refl _ _, Grow.refl _ _, FA⟩
    · rintro σ' H1 ⟨rfl, A1, o1, gr1, FA1⟩
      obtain ⟨m, lf, g, gs, rfl, hd, hg, m0, m1, l0, hgs⟩ := id FA1.ex
      have gd : DGet H1 d (.str "left") (some (.int lf)) := by
        have z := DGet.k (k := (Sum.inr "left" : Key)) hd
        rw [val_left] at z
        exact z
      have gm : DGet H1 d (.str "mixed") (some (.int m)) := by
        have z := DGet.k (k := (Sum.inr "mixed" : Key)) hd
        rw [val_mixed] at z
        exact z
      have hgd : g ≠ d := ne_of hg hd (by intro z; cases z)
      refine ⟨_, rfl, d, _, rfl, gd, _, rfl, _, _, rfl, rfl, _, rfl, ?_⟩
      refine ite2 (fun _ => ?_) (fun _ => ?_)
      · refine ⟨_, rfl, d, _, rfl, gd, .inl ⟨_, rfl, _, rfl, _, _, rfl, rfl, (by show 0 < n; omega), ?_⟩⟩
        refine ⟨_, rfl, d, _, rfl, gd, _, rfl, _, _, rfl, rfl, ⟨by omega, by omega⟩, ?_⟩
        refine ⟨_, rfl, d, _, rfl, DPut.k (k := (Sum.inr "left" : Key)) hd (by show 3 < sizeLine; decide), ?_⟩
        rw [putK_left]
        refine ⟨_, rfl, ?_⟩
        refine k (lf % n) _ [d, g] (Int.emod_nonneg _ (by omega)) (Int.emod_lt_of_pos _ (by omega)) (o1.trans gr1 ((Out.refl _ _).upd (.inl List.mem_cons_self))) gr1 ⟨m, lf / n, g, gs, rfl, upd_same, by rw [upd_ne hgd]; exact hg, m0, m1, Int.ediv_nonneg l0 (by omega), hgs⟩
      · refine ⟨_, rfl, d, _, rfl, gm, _, _, rfl, rfl, .inl ⟨by omega, by omega⟩, _, _, rfl, rfl, .inl ⟨_, rfl, _, _, rfl, rfl, (by show (0 : Int) < 2147483587; decide), ?_⟩⟩
        refine ⟨_, rfl, d, _, rfl, DPut.k (k := (Sum.inr "mixed" : Key)) hd (by show 3 < sizeLine; decide), ?_⟩
        rw [putK_mixed]
        have q0 : 0 ≤ (m * 44101 + 3511) % 2147483587 := Int.emod_nonneg _ (by decide)
        have q1 : (m * 44101 + 3511) % 2147483587 < 2147483587 := Int.emod_lt_of_pos _ (by decide)
        generalize (m * 44101 + 3511) % 2147483587 = m' at q0 q1
        have gm' : DGet (upd H1 d (.dK (fkv m' g lf))) d (.str "mixed") (some (.int m')) := by
          have z := DGet.k (k := (Sum.inr "mixed" : Key)) (H := upd H1 d (.dK (fkv m' g lf))) (a := d) upd_same
          rw [val_mixed] at z
          exact z
        refine ⟨_, rfl, d, _, rfl, gm', _, rfl, d, _, rfl, gm', _, _, rfl, rfl, .inl ⟨by omega, by omega⟩, _, _, rfl, rfl, .inl ⟨_, rfl, _, _, rfl, rfl, (by show (0 : Int) < 2147483579; decide), ?_⟩⟩
        refine ⟨_, _, rfl, rfl, ⟨by decide, by decide⟩, .inl ⟨_, rfl, _, rfl, _, _, rfl, rfl, (by show 0 < n; omega), ?_⟩⟩
        exact k _ _ [d, g] (Int.emod_nonneg _ (by omega)) (Int.emod_lt_of_pos _ (by omega)) (o1.trans gr1 ((Out.refl _ _).upd (.inl List.mem_cons_self))) gr1 ⟨m', lf, g, gs, rfl, upd_same, by rw [upd_ne hgd]; exact hg, q0, q1, l0, hgs⟩
end
end K76
/-! The law's draws: one of a list, a ground; the feed itself. -/
namespace K76
open PySem PySem.Spec PyProof.Rows L2
theorem step_trans {A A1 A2 : List Addr} {d : Addr} {H H1 H2 : Hp} (a : Step A H d A1 H1) (o : Out A1 H1 H2) (g : Grow A1 A2 H1) (F : FeedAt H2 d A2) : Step A H d A2 H2 := by
  refine ⟨a.1.trans a.2.1 o, fun c hc => ?_, F⟩
  rcases g c hc with z | z
  · exact a.2.1 c z
  · exact place_of a.1 z
theorem step_refl {A : List Addr} {d : Addr} {H : Hp} (F : FeedAt H d A) : Step A H d A H := ⟨Out.refl _ _, Grow.refl _ _, F⟩
theorem step_same {A A1 : List Addr} {d : Addr} {H H1 H2 : Hp} (a : Step A H d A1 H1) (s : Same H1 H2) : Step A H d A1 H2 := ⟨a.1.same s, a.2.1, feed_same s a.2.2⟩
theorem cutV_to {ns : List Int} {k : Nat} (h : ns.length ≤ k) : cutV (zV ns) none (some (k : Int)) = zV ns := by
  unfold cutV
  rw [HT.sIx_nat, HT.sIx_none, zV_len, Nat.min_eq_right h, List.drop_zero, Nat.sub_zero, List.take_of_length_le (by rw [zV_len]; exact Nat.le_refl _)]
section
variable {P : Program} {w : World} {K : PySem.W.Frag} {mg : Str → Option Value} {base : Heap}
theorem scAny : FnScope ["_law_feed_here", "_law_some"] ["_law_feed_here", "_law_some"] (defScope sLAny) := ⟨rfl, rfl, rfl, by decide +kernel, rfl, by decide +kernel, by decide +kernel⟩
theorem ok_any (D : Df K mg "_law_any" sLAny) (T : Bt mg) (GD : Cal P w K mg base CX0 1 "_law_draw" ["_law_feed_here", "_law_many"] spDraw) : Cal P w K mg base CX0 2 "_law_any" ["_law_feed_here", "_law_some"] spAny := by
  obtain ⟨f, fd, F, g⟩ := D.ex
  refine ⟨f, fd, F.ok scAny (fun vs H Q E h => ?_) (fun cdv A outer s H vs Q E hr h => ?_), g, F.kp, F.binds fun _ _ _ _ _ _ us hl => match us, hl with | [_, _], _ => rfl⟩
  · obtain ⟨d, A, a, xs, rfl, _⟩ := h
    rfl
  · rename Around => Ar
    obtain ⟨d, A, a, xs, rfl, FA, ha, hn, hne, hz, k⟩ := h
    refine ⟨_, pss_one (ps_ret (pe_ix ix_list (pv 1) (pe_cl GD hr pass0 (pa_cons (pv 0) (pa_cons (pe_callB call_len_seq (by rfl) T.len PySem.boot_len (pa_cons (pv 1) pa_nil)) pa_nil))) (fun _ _ => rfl))), ?_⟩
    have hpos : 0 < xs.length := List.length_pos_iff.mpr hne
    refine ⟨_, rfl, _, rfl, _, rfl, a, xs, rfl, .inl (SqL.of ha), ?_⟩
    refine ⟨d, A, _, rfl, FA, by omega, by omega, fun r H1 A1 r0 r1 o1 g1 F1 => ?_⟩
    obtain ⟨j, rfl⟩ := Int.eq_ofNat_of_zero_le r0
    have hj : j < xs.length := by omega
    exact ⟨a, xs, j, xs[j], rfl, rfl, SqL.of (o1 _ _ ha hn), atI_nat (List.getElem?_eq_getElem hj), k _ (List.getElem_mem hj) H1 A1 o1 g1 F1⟩
theorem scGround : FnScope ["_law_feed_here", "_law_total", "_law_k"] ["_law_feed_here"] (defScope sLGround) := ⟨rfl, rfl, rfl, by decide +kernel, rfl, by decide +kernel, by decide +kernel⟩
theorem ok_ground (D : Df K mg "_law_ground" sLGround) (T : Bt mg) (GD : Cal P w K mg base CX0 1 "_law_draw" ["_law_feed_here", "_law_many"] spDraw) (GA : Cal P w K mg base CX0 2 "_law_any" ["_law_feed_here", "_law_some"] spAny) :
    Cal P w K mg base CX0 3 "_law_ground" ["_law_feed_here"] spGround := by
  obtain ⟨f, fd, F, g⟩ := D.ex
  refine ⟨f, fd, F.ok scGround (fun vs H Q E h => ?_) (fun cdv A outer s H vs Q E hr h => ?_), g, F.kp, F.binds fun _ _ _ _ _ _ us hl => match us, hl with | [_], _ => rfl⟩
  · obtain ⟨d, A, rfl, _⟩ := h
    rfl
  · rename Around => Ar
    obtain ⟨d, A, rfl, FA, k⟩ := h
    refine ⟨_, pss_cons (ps_set (i := 1) scGround.nd rfl (Or.inl rfl) pe_int)
      (pss_cons (ps_for PassesOwn.never rfl (pi_range1 rfl T.range (pa_cons pe_int pa_nil)) (pg_name (i := 2) scGround.nd rfl (Or.inl rfl))
        (pss_one (ps_set (i := 1) scGround.nd rfl (Or.inl rfl) (pe_op op_add (pe_op op_mul (pv 1) pe_int) (pe_cl GD (hr.mono (by decide)) pass0 (pa_cons (pv 0) (pa_cons pe_int pa_nil)))))))
      (pss_one (ps_ret (pe_cl GA hr pass0 (pa_cons (pv 0) (pa_cons (pe_lst (pa_cons pe_int (pa_cons pe_int
        (pa_cons (pe_op op_mod (pe_callTy call_int1 (by rfl) T.int (by decide +kernel) (pa_cons (pv 1) pa_nil)) pe_int)
        (pa_cons (pe_op op_mod (pe_callTy call_int1 (by rfl) T.int (by decide +kernel) (pa_cons (pv 1) pa_nil)) pe_int) (pa_cons (pv 1) pa_nil)))))) pa_nil)))))), ?_⟩
    refine ⟨20, rfl, by decide, by decide, for_range (n := 20) (fun i σ H' => ∃ (z : Int) (o : Option V) (A' : List Addr), σ = [some (.ref d), some (.int z), o] ∧ 0 ≤ z ∧ z + 1 ≤ 8 * 1000 ^ i ∧ Step A H d A' H') ⟨7, none, A, rfl, by decide, by decide, step_refl FA⟩ ?_ ?_⟩
    · rintro i σ H1 hi ⟨z, o, A1, rfl, z0, z1, S1⟩
      refine ⟨_, rfl, _, _, rfl, rfl, .inr ⟨by decide, by decide⟩, _, rfl, d, A1, 1000, rfl, S1.2.2, by decide, by decide, fun r H2 A2 r0 r1 o2 g2 F2 => ?_⟩
      refine ⟨_, _, rfl, rfl, z * 1000 + r, some (.int (0 + (i : Int))), A2, rfl, by omega, ?_, step_trans S1 o2 g2 F2⟩
      rw [Int.pow_succ]
      omega
    · rintro σ H1 ⟨z, o, A1, rfl, z0, z1, S1⟩
      refine ⟨_, rfl, _, rfl, .inl ⟨_, rfl, _, _, rfl, rfl, (by show (0 : Int) < 41; decide), _, rfl, .inl ⟨_, rfl, _, _, rfl, rfl, (by show (0 : Int) < 100003; decide), _, rfl, (by show 5 ≤ sizeLine; decide), fun l hl => ?_⟩⟩⟩
      have hlA : l ∉ A1 := fun z => feed_dom S1.2.2 l z hl
      refine ⟨d, A1, l, _, rfl, feed_same (same_new hl) S1.2.2, upd_same, hlA, by simp, (by show 5 ≤ 100; decide), fun x hx H2 A2 o2 g2 F2 => ?_⟩
      have S2 := step_trans (step_same S1 (same_new (o := .lst [V.int 0, V.int 1, V.int (z % 41), V.int (z % 100003), V.int z]) hl)) o2 g2 F2
      have fin : ∀ y : Int, x = .int y → 0 ≤ y → y < gMax → Q x H2 := fun y e y0 y1 => by
        rw [e]
        exact k y H2 A2 y0 y1 S2.1 S2.2.1 S2.2.2
      have hg : gMax = 8 * 1000 ^ 20 := rfl
      have hb : (100003 : Int) < gMax := by decide
      have m1 := Int.emod_nonneg z (show (41 : Int) ≠ 0 by decide)
      have m2 := Int.emod_lt_of_pos z (show (0 : Int) < 41 by decide)
      have m3 := Int.emod_nonneg z (show (100003 : Int) ≠ 0 by decide)
      have m4 := Int.emod_lt_of_pos z (show (0 : Int) < 100003 by decide)
      simp only [List.mem_cons, List.not_mem_nil, or_false] at hx
      rcases hx with e | e | e | e | e
      · exact fin 0 e (by decide) (by decide)
      · exact fin 1 e (by decide) (by decide)
      · exact fin _ e m1 (by omega)
      · exact fin _ e m3 (by omega)
      · exact fin z e z0 (by rw [hg]; omega)
theorem scLFeed : FnScope ["_law_script", "_law_mixed", "_law_cell"] ["_law_script"] (defScope sLFeed) := ⟨rfl, rfl, rfl, by decide +kernel, rfl, by decide +kernel, by decide +kernel⟩
theorem ok_lfeed (D : Df K mg "_law_feed" sLFeed) (T : Bt mg) : Cal P w K mg base CX0 1 "_law_feed" ["_law_script"] (spLFeed K) := by
  obtain ⟨f, fd, F, g⟩ := D.ex
  refine ⟨f, fd, F.ok scLFeed (fun vs H Q E h => ?_) (fun cdv A outer s H vs Q E hr h => ?_), g, F.kp, F.binds fun _ _ _ _ _ _ us hl => match us, hl with | [_], _ => rfl⟩
  · obtain ⟨a, ns, rfl, _⟩ := h
    rfl
  · rename Around => Ar
    obtain ⟨a, ns, rfl, ha, hz, k⟩ := h
    refine ⟨_, pss_cons (ps_set (i := 1) scLFeed.nd rfl (Or.inl rfl) pe_int)
      (pss_cons (ps_for PassesOwn.never rfl (pi_list (pe_slice sl_list (pv 0) po_none (po_some pe_int))) (pg_name (i := 2) scLFeed.nd rfl (Or.inl rfl))
        (pss_one (ps_set (i := 1) scLFeed.nd rfl (Or.inl rfl) (pe_op op_mod (pe_callTy call_int1 (by rfl) T.int (by decide +kernel) (pa_cons (pe_op op_add (pe_op op_add (pe_op op_mul (pv 1) pe_int)
          (pe_callTy call_int1 (by rfl) T.int (by decide +kernel) (pa_cons (pe_op op_mod (pe_callTy call_int1 (by rfl) T.int (by decide +kernel) (pa_cons (pv 2) pa_nil)) pe_int) pa_nil))) pe_int) pa_nil)) pe_int))))
      (pss_one (ps_ret (pe_disp (pps_cons pe_str (pv 1) (pps_cons pe_str
        (pe_lc (own := [("_law_cell", 2)]) (g := gName 2) rfl scLFeed.nd (pi_list (pe_slice sl_list (pv 0) po_none (po_some pe_int))) (blkOk_by (own := [("_law_cell", 2)]) (N := ["_law_script", "_law_mixed", "_law_cell"]) (sc := defScope sLFeed) (by decide +kernel))
          (fun _ _ _ _ _ => pg_name (i := 2) scLFeed.nd rfl (Or.inl rfl))
          (fun _ _ _ _ _ => pts_one (pt_cmpR op_ge (pe_callTy call_int1 (by rfl) T.int (by decide +kernel) (pa_cons (pv 2) pa_nil)) (pe_op op_pow pe_int pe_int) (nomark _)))
          (fun _ _ _ _ _ => pe_callTy call_int1 (by rfl) T.int (by decide +kernel) (pa_cons (pv 2) pa_nil))) (pps_cons pe_str pe_int pps_nil))) (by rfl) (by rfl) (fun z => by cases z) (by decide))))), ?_⟩
    have hcut : cutV (zV ns) none (some 63) = zV ns := cutV_to (k := 63) hz
    refine ⟨_, rfl, _, rfl, a, _, rfl, ha, fun l hl => ?_⟩
    rw [hcut]
    refine ⟨l, rfl, ⟨_, SqL.of upd_same⟩, for_list (K := K) (a := l) (xs := zV ns) (fun i σ H' => ∃ (m : Int) (o : Option V), σ = [some (.ref a), some (.int m), o] ∧ 0 ≤ m ∧ m < 2147483587 ∧ H' = upd H l (.lst (zV ns))) ⟨61057, none, rfl, by decide, by decide, rfl⟩
      (fun i σ H' _ q => by obtain ⟨_, _, _, _, _, rfl⟩ := q; exact SqL.of upd_same) ?_ ?_⟩
    · rintro i x σ H' hi ⟨m, o, rfl, m0, m1, rfl⟩
      obtain ⟨z, rfl, hz1⟩ := zV_at hi
      refine ⟨_, rfl, _, _, rfl, rfl, .inl ⟨by omega, by omega⟩, _, rfl, .inl ⟨_, rfl, _, _, rfl, rfl, (by show (0 : Int) < 999999893; decide), .inl ⟨_, rfl, _, _, rfl, rfl, _, _, rfl, rfl, .inl ⟨_, rfl, _, _, rfl, rfl, (by show (0 : Int) < 2147483587; decide), ?_⟩⟩⟩⟩
      exact ⟨_, some (.int z), rfl, Int.emod_nonneg _ (by decide), Int.emod_lt_of_pos _ (by decide), rfl⟩
    · rintro σ H' ⟨m, o, rfl, m0, m1, rfl⟩
      have s1 : Same H (upd H l (.lst (zV ns))) := same_new hl
      generalize hH1 : upd H l (.lst (zV ns)) = H1 at s1
      refine fun p hp => ?_
      have hp0 : H p = none := Same.free s1 hp
      have s2 : Same H (upd H1 p (.dK [])) := same_upd s1 hp0
      refine ⟨_, rfl, ?_⟩
      refine ⟨_, rfl, _, rfl, a, _, rfl, s2.seq ha, fun l2 hl2 => ?_⟩
      have hl20 : H l2 = none := Same.free s2 hl2
      have hpl : p ≠ l2 := fun z => by
        rw [← z, upd_same] at hl2
        cases hl2
      rw [hcut]
      have s3 : Same H (upd (upd H1 p (.dK [])) l2 (.lst (zV ns))) := same_upd s2 hl20
      have e3 : (upd (upd H1 p (.dK [])) l2 (.lst (zV ns))) p = some (.dK []) := by rw [upd_ne hpl, upd_same]
      have e4 : (upd (upd H1 p (.dK [])) l2 (.lst (zV ns))) l2 = some (.lst (zV ns)) := upd_same
      generalize upd (upd H1 p (.dK [])) l2 (.lst (zV ns)) = H3 at s3 e3 e4
      refine ⟨l2, rfl, ⟨_, SqL.of e4⟩, fun D hD => lc_list (K := K) (a := l2) (xs := zV ns) (fun i H' => Same H3 H' ∧ ∃ gs : List Int, gs.length ≤ i ∧ (∀ x ∈ gs, 0 ≤ x) ∧ H' D = some (.lst (zV gs))) ⟨same_new hD, [], Nat.le_refl _, (fun x hx => by cases hx), upd_same⟩
        (fun i H' _ q => SqL.of (q.1 _ _ e4)) ?_ ?_⟩
      · rintro i x H' hi ⟨s4, gs, g1, g2, g3⟩
        obtain ⟨z, rfl, hz1⟩ := zV_at hi
        have hil : i < ns.length := (List.getElem?_eq_some_iff.mp hz1).1
        refine ⟨rfl, _, rfl, .inl ⟨_, rfl, _, _, rfl, rfl, ⟨by decide, by decide, by decide⟩, _, _, rfl, rfl, _, rfl, ?_⟩⟩
        refine ite2 (fun hc => ?_) (fun _ => ?_)
        · have hc' := of_decide_eq_true hc
          refine ⟨_, rfl, .inl ⟨_, rfl, _, g3, ?_, same_upd s4 hD, gs ++ [z], ?_, ?_, ?_⟩⟩
          · rw [zV_len]
            exact line5000 (by omega)
          · rw [List.length_append, List.length_singleton]
            omega
          · intro y hy
            rcases List.mem_append.mp hy with q | q
            · exact g2 y q
            · rw [List.mem_singleton.mp q]
              exact Int.le_trans (by decide) hc'
          · rw [upd_same, zV_snoc]
        · exact ⟨s4, gs, Nat.le_succ_of_le g1, g2, g3⟩
      · rintro H' ⟨s4, gs, g1, g2, g3⟩
        refine ⟨s4 _ _ e3, fkv m D 0, rfl, (by show 3 ≤ 15; decide), ?_⟩
        rw [merge_fkv]
        have hD0 : H D = none := Same.free s3 hD
        have hDp : D ≠ p := fun z => by
          rw [z, e3] at hD
          cases hD
        refine k p _ [p, D] (same_upd (s3.trans s4) hp0) (fun c hc => ?_) ⟨m, 0, D, gs, rfl, upd_same, by rw [upd_ne hDp]; exact g3, m0, m1, Int.le_refl _, g2⟩
        rcases List.mem_cons.mp hc with z | hc
        · rw [z]
          exact hp0
        · rw [List.mem_singleton.mp hc]
          exact hD0
end
end K76
/-! The law's rows, worths and streams. -/
namespace K76
open PySem PySem.Spec PyProof.Rows L2
/-- the bound of what is drawn, as a power -/
def bigB : Int := (gMax * 65536) ^ 2 * 256
theorem pow_two_le {c : Int} (hc : 2 ≤ c) : ∀ n : Nat, (2 : Int) ^ n ≤ c ^ n
  | 0 => by
    rw [Int.pow_zero, Int.pow_zero]
    exact Int.le_refl _
  | n + 1 => by
    rw [Int.pow_succ, Int.pow_succ]
    exact Int.mul_le_mul (pow_two_le hc n) hc (by decide) (pow_nn (by omega) n)
theorem two_lt {n k : Nat} (h : (2 : Int) ^ n < 2 ^ k) : n < k := by
  have h' : ((2 ^ n : Nat) : Int) < ((2 ^ k : Nat) : Int) := by
    rw [Int.natCast_pow, Int.natCast_pow]
    exact h
  exact (Nat.pow_lt_pow_iff_right (by decide)).mp (Int.ofNat_lt.mp h')
/-- a drawn scrap's rows: digits of the base, so many -/
structure Sc (b : Int) (l : List Int) : Prop where
  dg : Dg b l
  pw : (b - 1) ^ l.length ≤ bigB
theorem Sc.len {b : Int} {l : List Int} (h : Sc b l) (hb : 3 ≤ b) : l.length ≤ 470 := by
  have h1 := Int.le_trans (pow_two_le (show 2 ≤ b - 1 by omega) l.length) h.pw
  have h2 : bigB < 2 ^ 470 := by decide +kernel
  have := two_lt (Int.lt_of_le_of_lt h1 h2)
  omega
theorem pow_mono {c : Int} (hc : 1 ≤ c) {n k : Nat} (h : n ≤ k) : c ^ n ≤ c ^ k := by
  obtain ⟨d, rfl⟩ := Nat.exists_eq_add_of_le h
  induction d with
  | zero => exact Int.le_refl _
  | succ d ih =>
    rw [← Nat.add_assoc, Int.pow_succ]
    have h0 := ih (by omega)
    have := Int.mul_le_mul_of_nonneg_left hc (pow_nn (show 0 ≤ c by omega) (n + d))
    omega
theorem Sc.part {b : Int} {l u : List Int} (h : Sc b l) (hb : 3 ≤ b) (hs : ∀ d ∈ u, d ∈ l) (hl : u.length ≤ l.length) : Sc b u :=
  ⟨fun d hd => h.dg d (hs d hd), Int.le_trans (pow_mono (by omega) hl) h.pw⟩
section
variable {K : PySem.W.Frag} {H : Hp} {a b : Addr} {xs ys : List Int} {Q : VK}
theorem cat_to (ha : H a = some (.tup (zV xs))) (hb : H b = some (.tup (zV ys))) (hz : xs.length + ys.length ≤ 20000) (q : ∀ r H', Same H H' → H' r = some (.tup (zV (xs ++ ys))) → Q (.ref r) H') : rCatA K (.ref a) (.ref b) H Q := by
  refine ⟨a, b, _, _, rfl, rfl, SqT.of ha, SqT.of hb, by rw [zV_len, zV_len]; exact line2000 hz, fun e => ?_, fun _ e => ?_, fun _ _ p hp => ?_⟩
  · have e' : xs = [] := List.map_eq_nil_iff.mp e
    exact q b H (Same.refl H) (by rw [hb, e', List.nil_append])
  · have e' : ys = [] := List.map_eq_nil_iff.mp e
    exact q a H (Same.refl H) (by rw [ha, e', List.append_nil])
  · exact q p _ (same_new hp) (by rw [upd_same, zV_append])
theorem cut_to {lo hi : Option Int} (ha : H a = some (.tup (zV xs))) (hc : cutV (zV xs) lo hi = zV ys) (q : ∀ r H', Same H H' → H' r = some (.tup (zV ys)) → Q (.ref r) H') : rSlA K (.ref a) lo hi H Q := by
  refine ⟨a, _, rfl, SqT.of ha, fun ⟨e1, e2⟩ => ?_, fun _ p hp => q p _ (same_new hp) (by rw [upd_same, hc])⟩
  refine q a H (Same.refl H) ?_
  rw [← hc]
  unfold cutV
  rw [e1, e2, List.drop_zero, Nat.sub_zero, List.take_length]
  exact ha
end
def muS (s : Int) : L2.St → Hp → Nat := fun σ _ => match (σ : List (Option V))[(3 : Nat)]? with
  | some (some (.int z)) => (s - z).toNat
  | _ => 0
def spLRow : Sp := fun vs H Q _ => ∃ c s : Int, vs = [.int c, .int s] ∧ 2 ≤ c ∧ c ≤ 255 ∧ 0 ≤ s ∧ s < gMax ∧ ∀ r H' ds, Same H H' → H' r = some (.tup (zV ds)) → Dg c ds → c ^ ds.length ≤ gMax * c → Q (.ref r) H'
def spLStack : Sp := fun vs H Q _ => ∃ (c : Int) (a : Addr) (w : List Int), vs = [.int c, .ref a] ∧ 2 ≤ c ∧ c ≤ 255 ∧ H a = some (.tup (zV w)) ∧ ∀ H', Same H H' → Q (.int (stk c w)) H'
def spLStream : Sp := fun vs H Q _ => ∃ (b s1 s2 : Int) (a : Addr), vs = [.int b, .ref a] ∧ 3 ≤ b ∧ b ≤ 256 ∧ H a = some (.lst [.int s1, .int s2]) ∧ 0 ≤ s1 ∧ s1 < gMax ∧ 0 ≤ s2 ∧ s2 < gMax ∧ ∀ r H' ds, Same H H' → H' r = some (.tup (zV ds)) → Sc b ds → Q (.ref r) H'
section
variable {P : Program} {w : World} {K : PySem.W.Frag} {mg : Str → Option Value} {base : Heap}
theorem scLRow : FnScope ["_law_base", "_law_stack_here", "_law_size", "_law_first", "_law_block", "_law_digits", "_law_left", "_law_k"] ["_law_base", "_law_stack_here"] (defScope sLRow) := ⟨rfl, rfl, rfl, by decide +kernel, rfl, by decide +kernel, by decide +kernel⟩
theorem ok_lrow (D : Df K mg "_law_row" sLRow) (T : Bt mg) : Cal P w K mg base CX0 1 "_law_row" ["_law_base", "_law_stack_here"] spLRow := by
  obtain ⟨f, fd, F, g⟩ := D.ex
  refine ⟨f, fd, F.ok scLRow (fun vs H Q E h => ?_) (fun cdv A outer s H vs Q E hr h => ?_), g, F.kp, F.binds fun _ _ _ _ _ _ us hl => match us, hl with | [_, _], _ => rfl⟩
  · obtain ⟨c, s, rfl, _⟩ := h
    rfl
  · rename Shared => s0
    obtain ⟨c, s, rfl, c2, c5, s1, s2, k⟩ := h
    refine ⟨_, pss_cons (ps_asg (pe_tup (pa_cons pe_int (pa_cons pe_int (pa_cons pe_int pa_nil)))) (pg_tup rfl (pgs_cons (pg_name (i := 2) scLRow.nd rfl (Or.inl rfl)) (pgs_cons (pg_name (i := 3) scLRow.nd rfl (Or.inl rfl)) (pgs_cons (pg_name (i := 4) scLRow.nd rfl (Or.inl rfl)) pgs_nil)))))
      (pss_cons (ps_while PassesOwn.never (pt_cmpR op_ge (pv 1) (pe_op op_add (pv 3) (pv 4)) (nomark _))
        (pss_one (ps_par3 (by rfl) scLRow.nd (i := 2) (j := 3) (l := 4) rfl rfl rfl (by decide) (by decide) (by decide) rfl rfl rfl (pa_cons (pe_op op_add (pv 2) pe_int) (pa_cons (pe_op op_add (pv 3) (pv 4)) (pa_cons (pe_op op_mul (pv 4) (pv 0)) pa_nil))) (by rfl))))
      (pss_cons (ps_par (by rfl) scLRow.nd (i := 5) (j := 6) rfl rfl (by decide) rfl rfl (pa_cons (pe_tup pa_nil) (pa_cons (pe_op op_sub (pv 1) (pv 3)) pa_nil)) (by rfl))
      (pss_cons (ps_for PassesOwn.never rfl (pi_range1 rfl T.range (pa_cons (pv 2) pa_nil)) (pg_name (i := 7) scLRow.nd rfl (Or.inl rfl))
        (pss_one (ps_par (by rfl) scLRow.nd (i := 5) (j := 6) rfl rfl (by decide) rfl rfl
          (pa_cons (pe_op op_catA (pe_tup (pa_cons (pe_op op_mod (pe_callTy call_int1 (by rfl) T.int (by decide +kernel) (pa_cons (pv 6) pa_nil)) (pv 0)) pa_nil)) (pv 5)) (pa_cons (pe_op op_fdiv (pv 6) (pv 0)) pa_nil)) (by rfl))))
      (pss_one (ps_ret (pv 5)))))), ?_⟩
    refine ⟨(by show 3 ≤ sizeLine; decide), fun p0 hp0 => ⟨p0, _, rfl, SqT.of upd_same, rfl, _, _, rfl, _, _, rfl, _, _, rfl, rfl, ?_⟩⟩
    refine while_by (fun σ H' => Same H H' ∧ ∃ (n : Nat) (fs : Int), σ = [some (.int c), some (.int s), some (.int (n : Int)), some (.int fs), some (.int (c ^ n)), none, none, none] ∧ 0 ≤ fs ∧ fs ≤ s ∧ fs * (c - 1) + 1 = c ^ n) (muS s) ⟨same_new hp0, 0, 0, (by rw [Int.pow_zero]; rfl), Int.le_refl _, s1, by rw [Int.zero_mul, Int.pow_zero]; rfl⟩ ?_ (fun σ H' Q1 Q2 m ⟨v, e, q⟩ => ?_)
    · rintro σ H1 ⟨sm0, n, fs, rfl, f0, f1, f2⟩
      refine ⟨_, rfl, _, rfl, _, rfl, _, _, rfl, rfl, _, _, rfl, rfl, _, rfl, ?_⟩
      have hp : 1 ≤ c ^ n := by
        have := Int.mul_nonneg f0 (show 0 ≤ c - 1 by omega)
        omega
      refine ite2 (fun hc => ?_) (fun hc => ?_)
      · have hc' := of_decide_eq_true hc
        refine ⟨_, rfl, _, _, rfl, rfl, _, rfl, _, rfl, _, _, rfl, rfl, _, rfl, _, rfl, _, _, rfl, rfl, .inr ⟨by omega, by omega⟩, _, _, _, rfl, ?_⟩
        refine ⟨⟨sm0, n + 1, fs + c ^ n, ?_, by omega, hc', ?_⟩, ?_⟩
        · rw [Int.pow_succ]
          rfl
        · have e1 : c ^ n * (c - 1) = c ^ n * c - c ^ n := by rw [Int.mul_sub, Int.mul_one]
          rw [Int.pow_succ, Int.add_mul]
          omega
        · show (s - (fs + c ^ n)).toNat < (s - fs).toNat
          omega
      · refine ⟨Nat.zero_le _, fun r hr0 => ⟨_, rfl, _, rfl, _, _, rfl, rfl, _, _, rfl, ?_⟩⟩
        have hpw : c ^ n ≤ gMax * c := by
          have h1 := Int.mul_le_mul_of_nonneg_right (show fs ≤ gMax - 1 by omega) (show 0 ≤ c - 1 by omega)
          have h2 : (gMax - 1) * (c - 1) = gMax * c - gMax - (c - 1) := by
            rw [Int.sub_mul, Int.mul_sub, Int.mul_one, Int.one_mul]
          have h3 : (1 : Int) ≤ gMax := by decide
          omega
        have hn : n < 250 := by
          have h1 := Int.le_trans (pow_two_le c2 n) hpw
          have h2 : gMax * c ≤ gMax * 255 := Int.mul_le_mul_of_nonneg_left c5 (by decide)
          have h3 : gMax * 255 < 2 ^ 250 := by decide +kernel
          exact two_lt (by omega)
        refine ⟨_, rfl, _, rfl, by omega, by omega, for_range (n := n) (fun i σ H' => ∃ (r : Addr) (ds : List Int) (lv : Int) (o : Option V), σ = [some (.int c), some (.int s), some (.int (n : Int)), some (.int fs), some (.int (c ^ n)), some (.ref r), some (.int lv), o] ∧ ds.length = i ∧ Dg c ds ∧ 0 ≤ lv ∧ Same H1 H' ∧ H' r = some (.tup (zV ds)))
          ⟨r, [], s - fs, none, rfl, rfl, Dg.nil, by omega, same_new hr0, upd_same⟩ ?_ ?_⟩
        · rintro i σ H2 hi ⟨r1, ds, lv, o, rfl, d1, d2, l0, sm, e1⟩
          refine ⟨_, rfl, .inl ⟨_, rfl, _, rfl, _, _, rfl, rfl, (by show 0 < c; omega), (by show 1 ≤ sizeLine; decide), fun t ht => ?_⟩⟩
          have ht1 : r1 ≠ t := ne_of_none e1 ht
          refine ⟨_, rfl, cat_to (xs := [lv % c]) upd_same (by rw [upd_ne ht1]; exact e1) (by rw [List.length_singleton]; omega) fun r2 H3 s3 e3 => ?_⟩
          refine ⟨_, rfl, _, rfl, _, _, rfl, rfl, ⟨by omega, by omega⟩, _, _, rfl, r2, _, _, _, rfl, ?_, fun d hd => ?_, Int.ediv_nonneg l0 (by omega), sm.trans ((same_new ht).trans s3), e3⟩
          · show ds.length + 1 = i + 1
            rw [d1]
          · rcases List.mem_cons.mp hd with z | z
            · rw [z]
              exact ⟨Int.emod_nonneg _ (by omega), Int.emod_lt_of_pos _ (by omega)⟩
            · exact d2 d z
        · rintro σ H2 ⟨r1, ds, lv, o, rfl, d1, d2, l0, sm, e1⟩
          exact ⟨_, rfl, k r1 H2 ds (sm0.trans sm) e1 d2 (by rw [d1]; exact hpw)⟩
    · obtain ⟨x1, y1, x2, y2, x3, x4, y3, y4, z1, z2, z3, z4, b, y5, q⟩ := q
      exact ⟨v, e, x1, y1, x2, y2, x3, x4, y3, y4, z1, z2, z3, z4, b, y5, m _ _ q⟩
theorem scLStack : FnScope ["_law_base", "_law_digits", "_law_first", "_law_block", "_law_worth", "_law_digit"] ["_law_base", "_law_digits"] (defScope sLStack) := ⟨rfl, rfl, rfl, by decide +kernel, rfl, by decide +kernel, by decide +kernel⟩
theorem ok_lstack (D : Df K mg "_law_stack" sLStack) : Cal P w K mg base CX0 1 "_law_stack" ["_law_base", "_law_digits"] spLStack := by
  obtain ⟨f, fd, F, g⟩ := D.ex
  refine ⟨f, fd, F.ok scLStack (fun vs H Q E h => ?_) (fun cdv A outer s H vs Q E hr h => ?_), g, F.kp, F.binds fun _ _ _ _ _ _ us hl => match us, hl with | [_, _], _ => rfl⟩
  · obtain ⟨c, a, w, rfl, _⟩ := h
    rfl
  · obtain ⟨c, a, w, rfl, c2, c5, ha, k⟩ := h
    refine ⟨_, pss_cons (ps_asg (pe_tup (pa_cons pe_int (pa_cons pe_int (pa_cons pe_int pa_nil)))) (pg_tup rfl (pgs_cons (pg_name (i := 2) scLStack.nd rfl (Or.inl rfl)) (pgs_cons (pg_name (i := 3) scLStack.nd rfl (Or.inl rfl)) (pgs_cons (pg_name (i := 4) scLStack.nd rfl (Or.inl rfl)) pgs_nil)))))
      (pss_cons (ps_for PassesOwn.never rfl (pi_tup (pv 1)) (pg_name (i := 5) scLStack.nd rfl (Or.inl rfl))
        (pss_one (ps_par3 (by rfl) scLStack.nd (i := 2) (j := 3) (l := 4) rfl rfl rfl (by decide) (by decide) (by decide) rfl rfl rfl (pa_cons (pe_op op_add (pv 2) (pv 3)) (pa_cons (pe_op op_mul (pv 3) (pv 0)) (pa_cons (pe_op op_add (pe_op op_mul (pv 4) (pv 0)) (pv 5)) pa_nil))) (by rfl))))
      (pss_one (ps_ret (pe_op op_add (pv 2) (pv 4))))), ?_⟩
    refine ⟨(by show 3 ≤ sizeLine; decide), fun p0 hp0 => ⟨p0, _, rfl, SqT.of upd_same, rfl, _, _, rfl, _, _, rfl, _, _, rfl, rfl, ?_⟩⟩
    refine ⟨_, rfl, a, rfl, ⟨_, SqT.of (same_new hp0 _ _ ha)⟩, for_tup (K := K) (a := a) (xs := zV w) (fun i σ H' => Same H H' ∧ ∃ (fs wo : Int) (o : Option V), σ = [some (.int c), some (.ref a), some (.int fs), some (.int (fs * (c - 1) + 1)), some (.int wo), o] ∧ fs + wo = stk c (w.take i)) ⟨same_new hp0, 0, 0, none, (by rw [Int.zero_mul]; rfl), rfl⟩
      (fun i σ H' _ q => SqT.of (q.1 _ _ ha)) ?_ ?_⟩
    · rintro i x σ H' hi ⟨sm, fs, wo, o, rfl, e⟩
      obtain ⟨z, rfl, hz1⟩ := zV_at hi
      refine ⟨_, rfl, _, rfl, _, _, rfl, rfl, _, rfl, _, rfl, _, _, rfl, rfl, .inr ⟨by omega, by omega⟩, _, rfl, _, rfl, _, _, rfl, rfl, .inr ⟨by omega, by omega⟩, _, rfl, _, _, rfl, rfl, _, _, _, rfl, ?_⟩
      refine ⟨sm, fs + (fs * (c - 1) + 1), wo * c + z, some (.int z), ?_, ?_⟩
      · have e2 : (fs * (c - 1) + 1) * c = (fs + (fs * (c - 1) + 1)) * (c - 1) + 1 := by
          have q1 : ∀ y : Int, y * c = y * (c - 1) + y := fun y => by
            rw [Int.mul_sub, Int.mul_one]
            omega
          rw [q1, Int.add_mul fs]
          omega
        exact congrArg (fun t => [some (V.int c), some (.ref a), some (.int (fs + (fs * (c - 1) + 1))), some (.int t), some (.int (wo * c + z)), some (.int z)]) e2
      · rw [take_snoc hz1, stk_snoc, ← e, Int.add_mul]
        have : fs * (c - 1) = fs * c - fs := by rw [Int.mul_sub, Int.mul_one]
        omega
    · rintro σ H' ⟨sm, fs, wo, o, rfl, e⟩
      rw [zV_len, List.take_length] at e
      refine ⟨_, rfl, _, rfl, _, _, rfl, rfl, ?_⟩
      show Q (.int (fs + wo)) H'
      rw [e]
      exact k _ sm
end
end K76
/-! The law's streams, marks, frames, stands. -/
namespace K76
open PySem PySem.Spec PyProof.Rows L2
theorem cut_seg {u : List Int} {p q : Nat} (h1 : p < q) (h2 : q ≤ u.length) : cutV (zV u) (some ((p : Int) + 1)) (some (q : Int)) = zV (seg u p q) := by
  unfold cutV seg
  rw [show ((p : Int) + 1) = ((p + 1 : Nat) : Int) from rfl, HT.sIx_nat, HT.sIx_nat, zV_len, Nat.min_eq_left (show p + 1 ≤ u.length by omega), Nat.min_eq_left h2]
  unfold zV
  rw [← List.map_drop, ← List.map_take]
theorem cut_drop {u : List Int} {p : Nat} (h : p ≤ u.length) : cutV (zV u) (some (p : Int)) none = zV (u.drop p) := by
  unfold cutV
  rw [HT.sIx_nat, HT.sIx_none, zV_len, Nat.min_eq_left h]
  unfold zV
  rw [← List.map_drop, List.take_of_length_le (by rw [List.length_map, List.length_drop]; omega)]
theorem cut_take {u : List Int} {p : Nat} (h : p ≤ u.length) : cutV (zV u) none (some (p : Int)) = zV (u.take p) := by
  unfold cutV
  rw [HT.sIx_nat, HT.sIx_none, zV_len, Nat.min_eq_left h, List.drop_zero, Nat.sub_zero]
  unfold zV
  rw [← List.map_take]
theorem cut_both {u : List Int} {p q : Nat} (h1 : p ≤ q) (h2 : q ≤ u.length) : cutV (zV u) (some (p : Int)) (some (q : Int)) = zV ((u.take q).drop p) := by
  unfold cutV
  rw [HT.sIx_nat, HT.sIx_nat, zV_len, Nat.min_eq_left (show p ≤ u.length by omega), Nat.min_eq_left h2]
  unfold zV
  rw [← List.map_drop, ← List.map_take, List.take_drop, show p + (q - p) = q by omega]
theorem nz_at {ms : List Nat} {i q : Nat} (h : ms[i]? = some q) : (zV (nZ ms))[i]? = some (.int (q : Int)) := by
  refine at_zV ?_
  unfold nZ
  rw [List.getElem?_map, h]
  rfl
def spLMarks : Sp := fun vs H Q _ => ∃ (b : Int) (a : Addr) (u : List Int), vs = [.int b, .ref a] ∧ 3 ≤ b ∧ H a = some (.tup (zV u)) ∧ u.length ≤ 470 ∧ ∀ r H', Same H H' → H' r = some (.lst (zV (nZ (mks (b - 1) 0 u)))) → Q (.ref r) H'
def spLFrames : Sp := fun vs H Q _ => ∃ (b : Int) (a : Addr) (u : List Int) (x y : Nat), vs = [.int b, .ref a, .int (x : Int), .int (y : Int)] ∧ 3 ≤ b ∧ b ≤ 256 ∧ H a = some (.tup (zV u)) ∧ u.length ≤ 470 ∧
  ∀ r H', Same H H' → H' r = some (.tup (zV (stks (b - 1) (lf u x y (mks (b - 1) 0 u))))) → Q (.ref r) H'
def wholeB (g : GS) : Bool := decide (g.2.2 = some true ∧ g.2.1 = some [])
def spLStands : Sp := fun vs H Q _ => ∃ (b : Int) (a fr : Addr) (u : List Int), vs = [.int b, .ref a, .ref fr] ∧ 3 ≤ b ∧ H a = some (.tup (zV u)) ∧ u.length ≤ 470 ∧
  ∀ r v H', H r = none → Same H H' → H' r = some (.lst [.ref fr, v, .bl (wholeB (grun (b - 1) g0 u))]) → WV H' (grun (b - 1) g0 u).2.1 v → Q (.ref r) H'
section
variable {P : Program} {w : World} {K : PySem.W.Frag} {mg : Str → Option Value} {base : Heap}
theorem scLStream : FnScope ["_law_base", "_law_stacks", "_law_digits", "_law_one"] ["_law_base", "_law_stacks"] (defScope sLStream) := ⟨rfl, rfl, rfl, by decide +kernel, rfl, by decide +kernel, by decide +kernel⟩
theorem ok_lstream (D : Df K mg "_law_stream" sLStream) (GR : Cal P w K mg base CX0 1 "_law_row" ["_law_base", "_law_stack_here"] spLRow) : Cal P w K mg base CX0 2 "_law_stream" ["_law_base", "_law_stacks"] spLStream := by
  obtain ⟨f, fd, F, g⟩ := D.ex
  refine ⟨f, fd, F.ok scLStream (fun vs H Q E h => ?_) (fun cdv A outer s H vs Q E hr h => ?_), g, F.kp, F.binds fun _ _ _ _ _ _ us hl => match us, hl with | [_, _], _ => rfl⟩
  · obtain ⟨b, s1, s2, a, rfl, _⟩ := h
    rfl
  · obtain ⟨b, s1, s2, a, rfl, b3, b256, ha, s10, s11, s20, s21, k⟩ := h
    refine ⟨_, pss_cons (ps_set (i := 2) scLStream.nd rfl (Or.inl rfl) (pe_tup pa_nil))
      (pss_cons (ps_for PassesOwn.never rfl (pi_list (pv 1)) (pg_name (i := 3) scLStream.nd rfl (Or.inl rfl))
        (pss_one (ps_set (i := 2) scLStream.nd rfl (Or.inl rfl) (pe_op op_catA (pe_op op_catA (pv 2) (pe_tup (pa_cons (pe_op op_sub (pv 0) pe_int) pa_nil))) (pe_cl GR hr pass0 (pa_cons (pe_op op_sub (pv 0) pe_int) (pa_cons (pv 3) pa_nil)))))))
      (pss_one (ps_ret (pe_op op_catA (pv 2) (pe_tup (pa_cons (pe_op op_sub (pv 0) pe_int) pa_nil)))))), ?_⟩
    have c1 : 1 ≤ b - 1 := by omega
    have len_of : ∀ {ds : List Int} {i : Nat}, i ≤ 2 → (b - 1) ^ ds.length ≤ (gMax * 65536) ^ i → ds.length ≤ 470 := fun {ds i} hi h => by
      have h1 := Int.le_trans (pow_two_le (show 2 ≤ b - 1 by omega) ds.length) (Int.le_trans h (pow_mono (show (1 : Int) ≤ gMax * 65536 by decide) hi))
      have h2 : (gMax * 65536) ^ 2 < 2 ^ 470 := by decide +kernel
      have := two_lt (Int.lt_of_le_of_lt h1 h2)
      omega
    refine ⟨Nat.zero_le _, fun r0 hr0 => ?_⟩
    refine ⟨_, rfl, a, rfl, ⟨_, SqL.of (same_new hr0 _ _ ha)⟩, for_list (K := K) (a := a) (xs := [V.int s1, V.int s2]) (fun i σ H' => Same H H' ∧ ∃ (r : Addr) (ds : List Int) (o : Option V), σ = [some (.int b), some (.ref a), some (.ref r), o] ∧ i ≤ 2 ∧ H' r = some (.tup (zV ds)) ∧ Dg b ds ∧ (b - 1) ^ ds.length ≤ (gMax * 65536) ^ i)
      ⟨same_new hr0, r0, [], none, rfl, by decide, upd_same, Dg.nil, by rw [List.length_nil, Int.pow_zero, Int.pow_zero]; exact Int.le_refl _⟩ (fun i σ H' _ q => SqL.of (q.1 _ _ ha)) ?_ ?_⟩
    · rintro i x σ H1 hi ⟨sm, r, ds, o, rfl, i2, e1, d1, p1⟩
      have hs : ∃ s, x = .int s ∧ 0 ≤ s ∧ s < gMax ∧ i < 2 := by
        match i, hi with
        | 0, hi => exact ⟨s1, (Option.some.inj hi).symm, s10, s11, by decide⟩
        | 1, hi => exact ⟨s2, (Option.some.inj hi).symm, s20, s21, by decide⟩
      obtain ⟨s, rfl, z0, z1, hi2⟩ := hs
      have hl := len_of i2 p1
      refine ⟨_, rfl, _, rfl, _, _, rfl, rfl, (by show 1 ≤ sizeLine; decide), fun t ht => ?_⟩
      refine cat_to (ys := [b - 1]) (by rw [upd_ne (ne_of_none e1 ht)]; exact e1) upd_same (by rw [List.length_singleton]; omega) fun r2 H2 s2' e2 => ?_
      refine ⟨_, rfl, _, _, rfl, rfl, _, rfl, b - 1, s, rfl, by omega, by omega, z0, z1, fun r3 H3 ds3 s3 e3 d3 p3 => ?_⟩
      have p4 : (b - 1) ^ (ds ++ [b - 1] ++ ds3).length ≤ (gMax * 65536) ^ (i + 1) := by
        rw [List.length_append, List.length_append, List.length_singleton, Int.pow_add, Int.pow_add, Int.pow_one, Int.pow_succ (gMax * 65536), Int.mul_assoc]
        refine Int.mul_le_mul p1 ?_ (Int.mul_nonneg (by omega) (pow_nn (by omega) _)) (pow_nn (by decide) _)
        refine Int.le_trans (Int.mul_le_mul_of_nonneg_left p3 (by omega)) ?_
        rw [Int.mul_left_comm]
        refine Int.mul_le_mul_of_nonneg_left ?_ (by decide)
        exact Int.le_trans (Int.mul_le_mul (show b - 1 ≤ 255 by omega) (show b - 1 ≤ 255 by omega) (by omega) (by decide)) (by decide)
      have hl2 := len_of (show i + 1 ≤ 2 by omega) p4
      rw [List.length_append] at hl2
      refine cat_to (s3 _ _ e2) e3 (by omega) fun r4 H4 s4 e4 => ?_
      refine ⟨sm.trans ((same_new ht).trans (s2'.trans (s3.trans s4))), r4, _, some (.int s), rfl, by omega, e4, ?_, p4⟩
      exact (d1.append (fun d hd => by rw [List.mem_singleton.mp hd]; omega)).append (d3.mono (by omega))
    · rintro σ H1 ⟨sm, r, ds, o, rfl, i2, e1, d1, p1⟩
      have hl := len_of i2 p1
      refine ⟨_, rfl, _, rfl, _, _, rfl, rfl, (by show 1 ≤ sizeLine; decide), fun t ht => ?_⟩
      refine cat_to (ys := [b - 1]) (by rw [upd_ne (ne_of_none e1 ht)]; exact e1) upd_same (by rw [List.length_singleton]; omega) fun r2 H2 s2' e2 => ?_
      refine k r2 H2 _ (sm.trans ((same_new ht).trans s2')) e2 ⟨d1.append (fun d hd => by rw [List.mem_singleton.mp hd]; omega), ?_⟩
      rw [List.length_append, List.length_singleton, Int.pow_succ]
      exact Int.mul_le_mul p1 (by omega) (by omega) (by decide)
theorem scLMarks : FnScope ["_law_base", "_law_digits", "_law_k"] ["_law_base", "_law_digits"] (defScope sLMarks) := ⟨rfl, rfl, rfl, by decide +kernel, rfl, by decide +kernel, by decide +kernel⟩
theorem ok_lmarks (D : Df K mg "_law_marks" sLMarks) (T : Bt mg) : Cal P w K mg base CX0 1 "_law_marks" ["_law_base", "_law_digits"] spLMarks := by
  obtain ⟨f, fd, F, g⟩ := D.ex
  refine ⟨f, fd, F.ok scLMarks (fun vs H Q E h => ?_) (fun cdv A outer s H vs Q E hr h => ?_), g, F.kp, F.binds fun _ _ _ _ _ _ us hl => match us, hl with | [_, _], _ => rfl⟩
  · obtain ⟨b, a, u, rfl, _⟩ := h
    rfl
  · obtain ⟨b, a, u, rfl, b3, ha, hz, k⟩ := h
    refine ⟨_, pss_one (ps_ret (pe_lc (own := [("_law_k", 2)]) (g := gName 2) rfl scLMarks.nd (pi_range1 rfl T.range (pa_cons (pe_callB call_len_seq (by rfl) T.len PySem.boot_len (pa_cons (pv 1) pa_nil)) pa_nil)) (blkOk_by (own := [("_law_k", 2)]) (N := ["_law_base", "_law_digits", "_law_k"]) (sc := defScope sLMarks) (by decide +kernel))
          (fun _ _ _ _ _ => pg_name (i := 2) scLMarks.nd rfl (Or.inl rfl))
          (fun _ _ _ _ _ => pts_one (pt_cmpR op_eq (pe_ix (r := rIxT K) ix_tup (pv 1) (pv 2) (fun _ _ => rfl)) (pe_op op_sub (pv 0) pe_int) (nomark _))) (fun _ _ _ _ _ => pv 2))), ?_⟩
    refine ⟨_, rfl, a, _, rfl, .inr (SqT.of ha), ?_⟩
    rw [zV_len]
    refine ⟨_, rfl, by omega, by omega, fun D hD => lc_range (n := u.length) (fun i H' => Same H H' ∧ H' D = some (.lst (zV (nZ (mks (b - 1) 0 (u.take i)))))) ⟨same_new hD, upd_same⟩ ?_ ?_⟩
    · rintro i H1 hi ⟨s1, e1⟩
      obtain ⟨z, hz1⟩ : ∃ z, u[i]? = some z := ⟨u[i], List.getElem?_eq_getElem hi⟩
      refine ⟨rfl, _, rfl, _, rfl, a, _, _, _, rfl, rfl, SqT.of (s1 _ _ ha), at_of (j := i) (by omega) (at_zV hz1), _, rfl, _, _, rfl, rfl, rfl, _, rfl, ?_⟩
      rw [gates_dec]
      have hti : (u.take i).length = i := by
        rw [List.length_take]
        omega
      have em : mks (b - 1) 0 (u.take (i + 1)) = mks (b - 1) 0 (u.take i) ++ (if z = b - 1 then [i] else []) := by rw [take_snoc hz1, mks_snoc, hti]
      by_cases hm : z = b - 1
      · rw [decide_eq_true hm]
        refine iteT ?_
        refine ⟨_, rfl, _, e1, ?_, same_upd s1 hD, ?_⟩
        · have h1 := mks_count (b - 1) (u.take i) 0
          rw [hti] at h1
          unfold zV nZ
          rw [List.length_map, List.length_map]
          exact line5000 (by omega)
        · rw [upd_same, em, if_pos hm]
          unfold zV nZ
          rw [List.map_append, List.map_append, Int.zero_add]
          rfl
      · rw [decide_eq_false hm]
        refine iteF ?_
        refine ⟨s1, ?_⟩
        rw [e1, em, if_neg hm, List.append_nil]
    · rintro H1 ⟨s1, e1⟩
      rw [List.take_length] at e1
      exact k D H1 s1 e1
end
end K76
/-! The law's frames, stands; what it asks of a gate. -/
namespace K76
open PySem PySem.Spec PyProof.Rows L2
theorem cut_seg2 {u : List Int} {p q : Nat} (h1 : p < u.length) (h2 : q ≤ u.length) : cutV (zV u) (some ((p : Int) + 1)) (some (q : Int)) = zV (seg u p q) := by
  unfold cutV seg
  rw [show ((p : Int) + 1) = ((p + 1 : Nat) : Int) from rfl, HT.sIx_nat, HT.sIx_nat, zV_len, Nat.min_eq_left (show p + 1 ≤ u.length by omega), Nat.min_eq_left h2]
  unfold zV
  rw [← List.map_drop, ← List.map_take]
theorem lf_take1 {l : List Int} {a b : Nat} : ∀ {ms : List Nat}, lf l a b (ms.take 1) = []
  | [] => rfl
  | [p] => rfl
  | p :: q :: r => rfl
theorem lf_len {l : List Int} {a b : Nat} : ∀ {ms : List Nat}, (lf l a b ms).length ≤ ms.length
  | [] => Nat.le_refl _
  | [p] => Nat.zero_le _
  | p :: q :: r => by
    have h := lf_len (l := l) (a := a) (b := b) (ms := q :: r)
    simp only [lf]
    rw [List.length_append, List.length_cons (a := p)]
    split
    · rw [List.length_singleton]
      omega
    · rw [List.length_nil]
      omega
theorem nz_len (ms : List Nat) : (zV (nZ ms)).length = ms.length := by
  unfold nZ
  rw [zV_len, List.length_map]
def spLAsked (C : Addr) : Sp := fun vs H Q _ => ∃ p A b fnd wait beg, vs = [.ref p] ∧ GateAt C H p A b fnd wait beg ∧ (beg = some true → wait ≠ none) ∧
  ∀ r fr v H', Same H H' → H' r = some (.lst [.ref fr, v, .bl (decide (beg = some true ∧ wait = some []))]) → H' fr = some (.tup (zV fnd)) → WV H' wait v → Q (.ref r) H'
section
variable {P : Program} {w : World} {K : PySem.W.Frag} {mg : Str → Option Value} {base : Heap} {C : Addr}
theorem scLFrames : FnScope ["_law_base", "_law_digits", "_law_first", "_law_behind", "_law_marks_here", "_law_found", "_law_k"] ["_law_base", "_law_digits", "_law_first", "_law_behind"] (defScope sLFrames) := ⟨rfl, rfl, rfl, by decide +kernel, rfl, by decide +kernel, by decide +kernel⟩
theorem ok_lframes (D : Df K mg "_law_frames" sLFrames) (T : Bt mg) (GM : Cal P w K mg base CX0 1 "_law_marks" ["_law_base", "_law_digits"] spLMarks) (GS : Cal P w K mg base CX0 1 "_law_stack" ["_law_base", "_law_digits"] spLStack) :
    Cal P w K mg base CX0 2 "_law_frames" ["_law_base", "_law_digits", "_law_first", "_law_behind"] spLFrames := by
  obtain ⟨f, fd, F, g⟩ := D.ex
  refine ⟨f, fd, F.ok scLFrames (fun vs H Q E h => ?_) (fun cdv A outer s H vs Q E hr h => ?_), g, F.kp, F.binds fun _ _ _ _ _ _ us hl => match us, hl with | [_, _, _, _], _ => rfl⟩
  · obtain ⟨b, a, u, x, y, rfl, _⟩ := h
    rfl
  · obtain ⟨b, a, u, x, y, rfl, b3, b256, ha, hz, k⟩ := h
    refine ⟨_, pss_cons (ps_par (by rfl) scLFrames.nd (i := 4) (j := 5) rfl rfl (by decide) rfl rfl (pa_cons (pe_cl GM hr pass0 (pa_cons (pv 0) (pa_cons (pv 1) pa_nil))) (pa_cons (pe_lst pa_nil) pa_nil)) (by rfl))
      (pss_cons (ps_for PassesOwn.never rfl (pi_range2 rfl T.range (pa_cons pe_int (pa_cons (pe_callB call_len_seq (by rfl) T.len PySem.boot_len (pa_cons (pv 4) pa_nil)) pa_nil))) (pg_name (i := 6) scLFrames.nd rfl (Or.inl rfl))
        (pss_one (ps_if (pt_chain op_le op_lt (pv 2) (pe_ix ix_list (pv 4) (pv 6) (fun _ _ => rfl)) (pv 3))
          (pss_one (ps_expr (pe_bm PySem.F.plainAttrs_list PySem.F.slot_list_append PySem.F.type_list_append mt_append (pv 5) (pa_cons
            (pe_cl GS hr pass0 (pa_cons (pe_op op_sub (pv 0) pe_int) (pa_cons (pe_slice sl_tupA (pv 1) (po_some (pe_op op_add (pe_ix ix_list (pv 4) (pe_op op_sub (pv 6) pe_int) (fun _ _ => rfl)) pe_int)) (po_some (pe_ix ix_list (pv 4) (pv 6) (fun _ _ => rfl)))) pa_nil))) pa_nil)))) pss_nil)))
      (pss_one (ps_ret (pe_callTy call_tuple_of (by rfl) T.tuple (by decide +kernel) (pa_cons (pv 5) pa_nil))))), ?_⟩
    refine ⟨_, rfl, _, rfl, b, a, u, rfl, b3, ha, hz, fun r H1 s1 e1 => ⟨Nat.zero_le _, fun t ht => ⟨_, _, rfl, ?_⟩⟩⟩
    have hmk : ∀ q ∈ mks (b - 1) 0 u, q < u.length := fun q hq => by
      have := mks_lt hq
      omega
    have hcnt := mks_count (b - 1) u 0
    generalize mks (b - 1) 0 u = ms at e1 hmk k hcnt
    refine ⟨_, rfl, r, _, rfl, .inl (SqL.of (same_new ht _ _ e1)), ?_⟩
    rw [nz_len]
    generalize hn : ((ms.length : Int) - 1).toNat = n
    refine ⟨1, (ms.length : Int), rfl, ⟨by decide, by decide, by omega, by omega⟩, ?_⟩
    rw [hn]
    refine for_range (n := n) (fun i σ H' => ∃ o : Option V, σ = [some (.int b), some (.ref a), some (.int (x : Int)), some (.int (y : Int)), some (.ref r), some (.ref t), o] ∧ Same H1 H' ∧ H' t = some (.lst (zV (stks (b - 1) (lf u x y (ms.take (i + 1))))))) ⟨none, rfl, same_new ht, by rw [upd_same, lf_take1]; rfl⟩ ?_ ?_
    · rintro i σ H2 hi ⟨o, rfl, s2, e2⟩
      have hi1 : i + 1 < ms.length := by omega
      obtain ⟨p, hp⟩ : ∃ p, ms[i]? = some p := ⟨ms[i], List.getElem?_eq_getElem (by omega)⟩
      obtain ⟨q, hq⟩ : ∃ q, ms[i + 1]? = some q := ⟨ms[i + 1], List.getElem?_eq_getElem hi1⟩
      have hpl := hmk p (List.mem_of_getElem? hp)
      have hql := hmk q (List.mem_of_getElem? hq)
      have et : lf u x y (ms.take (i + 1 + 1)) = lf u x y (ms.take (i + 1)) ++ (if x ≤ q ∧ q < y then [seg u p q] else []) := by rw [take_snoc hq, take_snoc hp, lf_snoc]
      have atq : atI (zV (nZ ms)) (1 + (i : Int)) = some (.int (q : Int)) := at_of (j := i + 1) (by omega) (nz_at hq)
      have er : H2 r = some (.lst (zV (nZ ms))) := s2 _ _ e1
      refine ⟨_, rfl, _, rfl, _, rfl, r, _, _, _, rfl, rfl, SqL.of er, atq, _, _, rfl, rfl, _, rfl, ?_⟩
      have skip : ¬ (x ≤ q ∧ q < y) → ∃ o : Option V, [some (V.int b), some (.ref a), some (.int (x : Int)), some (.int (y : Int)), some (.ref r), some (.ref t), some (.int (1 + (i : Int)))] = [some (.int b), some (.ref a), some (.int (x : Int)), some (.int (y : Int)), some (.ref r), some (.ref t), o] ∧ Same H1 H2 ∧ H2 t = some (.lst (zV (stks (b - 1) (lf u x y (ms.take (i + 1 + 1)))))) := fun hc =>
        ⟨_, rfl, s2, by rw [et, if_neg hc, List.append_nil]; exact e2⟩
      by_cases h1 : (x : Int) ≤ (q : Int)
      · rw [decide_eq_true h1]
        refine iteT ?_
        refine ⟨_, rfl, _, _, rfl, rfl, _, rfl, ?_⟩
        by_cases h2 : (q : Int) < (y : Int)
        · rw [decide_eq_true h2]
          refine iteT ?_
          refine ⟨_, rfl, .inl ⟨rfl, _, SqL.of e2⟩, _, rfl, _, _, rfl, rfl, _, rfl, _, rfl, _, rfl, _, _, rfl, rfl, r, _, _, _, rfl, rfl, SqL.of er, at_of (j := i) (by omega) (nz_at hp), _, _, rfl, rfl, _, rfl, _, rfl, _, rfl, r, _, _, _, rfl, rfl, SqL.of er, atq, _, rfl, ?_⟩
          refine cut_to (s1 _ _ ha |> s2 _ _) (cut_seg2 hpl (by omega)) fun r2 H3 s3 e3 => ?_
          refine ⟨b - 1, r2, _, rfl, by omega, by omega, e3, fun H4 s4 => ?_⟩
          have s34 := s3.trans s4
          refine ⟨t, _, _, rfl, rfl, s34 _ _ e2, ?_, _, rfl, same_upd (s2.trans s34) ht, ?_⟩
          · rw [stks_len]
            have : (lf u x y (ms.take (i + 1))).length ≤ (ms.take (i + 1)).length := lf_len
            rw [List.length_take] at this
            exact line5000 (by omega)
          · rw [upd_same, et, if_pos ⟨by omega, by omega⟩, ← stks_snoc]
        · rw [decide_eq_false h2]
          refine iteF ?_
          exact skip (by omega)
      · rw [decide_eq_false h1]
        refine iteF ?_
        exact ⟨_, rfl, iteF (skip (by omega))⟩
    · rintro σ H2 ⟨o, rfl, s2, e2⟩
      rw [List.take_of_length_le (by omega)] at e2
      refine ⟨_, rfl, t, _, rfl, .inl ⟨SqL.of e2, fun q hq => ?_⟩⟩
      exact k q _ (s1.trans (s2.trans (same_new hq))) upd_same
end
end K76
/-! The law's stands; what it asks of a gate. -/
namespace K76
open PySem PySem.Spec PyProof.Rows L2
section
variable {P : Program} {w : World} {K : PySem.W.Frag} {mg : Str → Option Value} {base : Heap} {C : Addr}
theorem scLStands : FnScope ["_law_base", "_law_digits", "_law_frames_here", "_law_marks_here", "_law_waits", "_law_is_whole"] ["_law_base", "_law_digits", "_law_frames_here"] (defScope sLStands) := ⟨rfl, rfl, rfl, by decide +kernel, rfl, by decide +kernel, by decide +kernel⟩
theorem ok_lstands (D : Df K mg "_law_stands" sLStands) (T : Bt mg) (GM : Cal P w K mg base CX0 1 "_law_marks" ["_law_base", "_law_digits"] spLMarks) :
    Cal P w K mg base CX0 2 "_law_stands" ["_law_base", "_law_digits", "_law_frames_here"] spLStands := by
  obtain ⟨f, fd, F, g⟩ := D.ex
  refine ⟨f, fd, F.ok scLStands (fun vs H Q E h => ?_) (fun cdv A outer s H vs Q E hr h => ?_), g, F.kp, F.binds fun _ _ _ _ _ _ us hl => match us, hl with | [_, _, _], _ => rfl⟩
  · obtain ⟨b, a, fr, u, rfl, _⟩ := h
    rfl
  · obtain ⟨b, a, fr, u, rfl, b3, ha, hz, k⟩ := h
    have hu := hu_of hr
    refine ⟨_, pss_cons (ps_set (i := 3) scLStands.nd rfl (Or.inl rfl) (pe_cl GM hr pass0 (pa_cons (pv 0) (pa_cons (pv 1) pa_nil))))
      (pss_cons (ps_set (i := 4) scLStands.nd rfl (Or.inl rfl) (pe_ifExp (pt_cmpR (op_neD hr.units) (pv 3) (pe_lst pa_nil) (nomark _))
        (pe_slice sl_tupA (pv 1) (po_some (pe_op op_add (pe_ix ix_list (pv 3) (pe_un un_neg pe_int) (fun _ _ => rfl)) pe_int)) po_none) pe_non))
      (pss_cons (ps_set (i := 5) scLStands.nd rfl (Or.inl rfl) (pe_and (pe_cmpR (op_neD hr.units) (pv 3) (pe_lst pa_nil) (nomark _))
        (pe_and (pe_cmpR op_eq (pe_ix ix_list (pv 3) pe_int (fun _ _ => rfl)) pe_int (nomark _))
          (pe_one (pe_cmpR op_eq (pe_ix ix_list (pv 3) (pe_un un_neg pe_int) (fun _ _ => rfl)) (pe_op op_sub (pe_callB call_len_seq (by rfl) T.len PySem.boot_len (pa_cons (pv 1) pa_nil)) pe_int) (nomark _))))))
      (pss_one (ps_ret (pe_lst (pa_cons (pv 2) (pa_cons (pv 4) (pa_cons (pv 5) pa_nil)))))))), ?_⟩
    refine ⟨_, rfl, _, rfl, b, a, u, rfl, b3, ha, hz, fun r H1 s1 e1 => ?_⟩
    have hW : wholeB (grun (b - 1) g0 u) = decide ((mks (b - 1) 0 u).head? = some 0 ∧ (mks (b - 1) 0 u).getLast? = some (u.length - 1)) := by
      unfold wholeB
      rw [decide_eq_decide]
      exact run_whole (b - 1) u
    have hV := run_wait (b - 1) u
    have hmk : ∀ q ∈ mks (b - 1) 0 u, q < u.length := fun q hq => by
      have := mks_lt hq
      omega
    rw [hW] at k
    rw [hV] at k
    generalize mks (b - 1) 0 u = ms at e1 hmk k hW hV
    refine ⟨_, rfl, Nat.zero_le _, fun l1 hl1 => ?_⟩
    have s2 : Same H1 (upd H1 l1 (.lst [])) := same_new hl1
    refine ne_nil (s2 _ _ e1) upd_same ⟨_, rfl, ?_⟩
    rcases nil_or_snoc ms with hm | ⟨ys, p, hm⟩
    · subst hm
      refine iteF ?_
      refine ⟨_, rfl, Nat.zero_le _, fun l2 hl2 => ?_⟩
      have s3 := same_new (o := .lst []) hl2
      refine ne_nil (s3 _ _ (s2 _ _ e1)) upd_same ⟨_, rfl, ?_⟩
      refine iteF ?_
      refine ⟨_, rfl, _, rfl, _, rfl, (by show 3 ≤ sizeLine; decide), fun l3 hl3 => ?_⟩
      exact k l3 _ _ (Same.free (s1.trans (s2.trans s3)) hl3) (s1.trans (s2.trans (s3.trans (same_new hl3)))) upd_same (.inl ⟨rfl, rfl⟩)
    · have hp := hmk p (by rw [hm]; simp)
      have hne : (!(nZ ms).isEmpty) = true := by
        rw [hm]
        unfold nZ
        simp
      have hlast : atI (zV (nZ ms)) (-1) = some (.int (p : Int)) := by
        rw [hm]
        unfold nZ zV
        rw [List.map_append, List.map_append]
        exact atI_last _ _
      have hgl : ms.getLast? = some p := by rw [hm]; simp
      obtain ⟨m0, h0⟩ : ∃ m0, ms[0]? = some m0 := by
        cases ms with
        | nil => simp at hm
        | cons m0 r => exact ⟨m0, rfl⟩
      have hhd : ms.head? = some m0 := by rw [List.head?_eq_getElem?]; exact h0
      rw [hgl, hhd] at k
      simp only at k
      rw [hne]
      refine iteT ?_
      refine ⟨_, rfl, _, rfl, _, rfl, r, _, _, _, rfl, rfl, SqL.of (s2 _ _ e1), hlast, _, _, rfl, rfl, _, rfl, ?_⟩
      unfold tNoPart
      dsimp only
      refine cut_to (s2 _ _ (s1 _ _ ha)) (lo := some ((p : Int) + 1)) (hi := none) (ys := u.drop (p + 1)) (cut_drop (p := p + 1) (by omega)) fun r2 H2 s3 e2 => ?_
      refine ⟨_, rfl, Nat.zero_le _, fun l2 hl2 => ?_⟩
      have s4 := same_new (o := .lst []) hl2
      have s14 : Same H1 (upd H2 l2 (.lst [])) := s2.trans (s3.trans s4)
      refine ne_nil (s14 _ _ e1) upd_same ⟨_, rfl, ?_⟩
      rw [hne]
      refine iteT ?_
      refine ⟨_, rfl, r, _, 0, _, rfl, rfl, SqL.of (s14 _ _ e1), atI_nat (j := 0) (nz_at h0), rfl, _, rfl, ?_⟩
      have fin : ∀ c : Bool, c = decide (some m0 = some 0 ∧ some p = some (u.length - 1)) → ∀ H3, Same (upd H2 l2 (.lst [])) H3 → 3 ≤ sizeLine ∧ ∀ l3, H3 l3 = none → Q (.ref l3) (upd H3 l3 (.lst [.ref fr, .ref r2, .bl c])) := fun c e H3 s5 => by
        refine ⟨by decide, fun l3 hl3 => ?_⟩
        rw [e]
        refine k l3 _ _ (Same.free (s1.trans (s14.trans s5)) hl3) (s1.trans (s14.trans (s5.trans (same_new hl3)))) upd_same (.inr ⟨_, r2, rfl, rfl, ?_⟩)
        exact same_new hl3 _ _ (s5 _ _ (s4 _ _ e2))
      rw [gates_dec]
      by_cases hm0 : (m0 : Int) = 0
      · rw [decide_eq_true hm0]
        refine iteT ?_
        refine ⟨_, rfl, _, rfl, r, _, _, _, rfl, rfl, SqL.of (s14 _ _ e1), hlast, _, rfl, a, _, rfl, .inr (SqT.of (s14 _ _ (s1 _ _ ha))), _, _, rfl, rfl, rfl, ?_⟩
        refine ⟨_, rfl, _, rfl, _, rfl, ?_⟩
        refine fin _ ?_ _ (Same.refl _)
        rw [zV_len]
        rw [show decide (V.int (p : Int) = V.int ((u.length : Int) - 1)) = decide ((p : Int) = (u.length : Int) - 1) from gates_dec]
        rw [decide_eq_decide]
        constructor
        · intro h
          exact ⟨by rw [show m0 = 0 by omega], by rw [show p = u.length - 1 by omega]⟩
        · intro h
          have := Option.some.inj h.2
          omega
      · rw [decide_eq_false hm0]
        refine iteF ?_
        refine ⟨_, rfl, _, rfl, _, rfl, ?_⟩
        refine fin _ ?_ _ (Same.refl _)
        symm
        refine decide_eq_false fun h => hm0 ?_
        have := Option.some.inj h.1
        omega
theorem scLAsked : FnScope ["_law_gate"] ["_law_gate"] (defScope sLAsked) := ⟨rfl, rfl, rfl, by decide +kernel, rfl, by decide +kernel, by decide +kernel⟩
theorem ok_lasked (D : Df K mg "_law_asked" sLAsked) (X : Gx K mg C) (GF : CalP P w K mg base 1 C "frames_now" (spGFrames C)) (GQ : CalP P w K mg base 1 C "waiting_now" (spGWaiting C)) (GH : CalP P w K mg base 1 C "whole_now" (spGWhole C)) :
    Cal P w K mg base CX0 3 "_law_asked" ["_law_gate"] (spLAsked C) := by
  obtain ⟨f, fd, F, g⟩ := D.ex
  refine ⟨f, fd, F.ok scLAsked (fun vs H Q E h => ?_) (fun cdv A outer s H vs Q E hr h => ?_), g, F.kp, F.binds fun _ _ _ _ _ _ us hl => match us, hl with | [_], _ => rfl⟩
  · obtain ⟨p, A, b, fnd, wait, beg, rfl, _⟩ := h
    rfl
  · rename Around => Ar
    obtain ⟨p, A, b, fnd, wait, beg, rfl, G, hbw, k⟩ := h
    refine ⟨_, pss_one (ps_ret (pe_lst (pa_cons (pe_pr (pv 0) X.cl GF hr rfl) (pa_cons (pe_pr (pv 0) X.cl GQ hr rfl) (pa_cons (pe_pr (pv 0) X.cl GH hr rfl) pa_nil))))), ?_⟩
    obtain ⟨dx, l, w, h1, h2, h3⟩ := id G.ex
    refine ⟨_, rfl, p, dx, _, rfl, h1, p, A, b, fnd, wait, beg, rfl, G, fun fr hfr => ?_⟩
    have s1 := same_new (o := .tup (zV fnd)) hfr
    have e1 : (upd H fr (.tup (zV fnd))) fr = some (.tup (zV fnd)) := upd_same
    generalize upd H fr (.tup (zV fnd)) = H1 at s1 e1
    refine ⟨_, rfl, p, dx, _, rfl, s1 _ _ h1, p, A, b, fnd, wait, beg, rfl, gate_same s1 G, fun v H2 s2 hv => ?_⟩
    refine ⟨_, rfl, p, dx, _, rfl, s2 _ _ (s1 _ _ h1), p, A, b, fnd, wait, beg, rfl, gate_same (s1.trans s2) G, hbw, ?_⟩
    refine ⟨(by show 3 ≤ sizeLine; decide), fun r hr => ?_⟩
    have s3 := same_new (o := .lst [.ref fr, v, .bl (decide (beg = some true ∧ wait = some []))]) hr
    exact k r fr v _ (s1.trans (s2.trans s3)) upd_same (s3 _ _ (s2 _ _ e1)) (hv.same s3)
end
end K76
/-! The law's refusal. -/
namespace K76
open PySem PySem.Spec PyProof.Rows L2
def spLRefused (C : Addr) : Sp := fun vs H Q _ => ∃ p A b fnd wait beg x, vs = [.ref p, x] ∧ GateAt C H p A b fnd wait beg ∧ GOk b fnd wait beg ∧ DigR H b x false ∧ ∀ H', Same H H' → Q (.bl true) H'
theorem nu_word : (nuF "digits").lookup ("word" : Str) = some (.str "digits") := by kernel_rfl
theorem nu_at : (nuF "digits").lookup ("at" : Str) = some (.int (-1)) := by kernel_rfl
def dNU : PyData := .tuple [.str "digits", .int (-1)]
theorem dNU_shaped : SeqAt.shaped dNU = true := by kernel_rfl
theorem dNU_eqv : PyData.eqv dNU dNU = true := by kernel_rfl
section
variable {P : Program} {w : World} {K : PySem.W.Frag} {mg : Str → Option Value} {base : Heap} {C CN : Addr}
def t_suite (K : PySem.W.Frag) (CN : Addr) : Addr → Value → Option Addr → TS := fun a cls d => tRet (tOp (rEqD K) (tTup (tCons (tXf a cls d CN "word" (tVar 2)) (tCons (tXf a cls d CN "at" (tVar 2)) tNil)))
  (tTup (tCons (tC (.str "digits")) (tCons (tUn (rU fun i => V.int (-i)) (tC (.int 1))) tNil))))
theorem scRefused : FnScope ["_law_gate", "_law_digits", "e"] ["_law_gate", "_law_digits"] (defScope sLRefused) := ⟨rfl, rfl, rfl, by decide +kernel, rfl, by decide +kernel, by decide +kernel⟩
theorem ok_refused (D : Df K mg "_law_refused" sLRefused) (X : Gx K mg C) (N : NUx K mg CN) (GB : CalM P w K mg base (L2.CX P w) 5 C "feed" ["self", "digits"] (spGBad C CN)) :
    Cal P w K mg base CX0 6 "_law_refused" ["_law_gate", "_law_digits"] (spLRefused C) := by
  obtain ⟨f, fd, F, g⟩ := D.ex
  obtain ⟨fF, fdF, FF, mF, bF⟩ := GB.ex
  refine ⟨f, fd, F.ok scRefused (fun vs H Q E h => ?_) (fun cdv A outer s H vs Q E hr h => ?_), g, F.kp, F.binds fun _ _ _ _ _ _ us hl => match us, hl with | [_, _], _ => rfl⟩
  · obtain ⟨p, A, b, fnd, wait, beg, x, rfl, _⟩ := h
    rfl
  · rename Around => Ar
    obtain ⟨p, A, b, fnd, wait, beg, x, rfl, G, O, hd, k⟩ := h
    refine ⟨_, pss_cons (ps_try_as (i := 2) (tb := fun W => tDrop (tMethS C "feed" (spGBad C CN) (WE W) (tVar 0) (tCons (tVar 1) tNil))) (ts := t_suite K CN) (Wout := fun _ _ _ _ => False) rfl rfl scRefused.nd rfl rfl ⟨rfl, by decide, Or.inl N.gC⟩ L2.takes0
        (fun W pn xe tk _ => pss_one (ps_expr (by exact (pe_methSD (pv 0) X.cl mF FF hr bF (fun σ => L2.passAt tk σ) (by exact (pa_cons (pv 1) pa_nil))))))
        (fun a oe cls d pn hz hf => pss_one (ps_ret (pe_cmpR (op_eqD hr.units) (pe_tup (pa_cons (pe_xf N.xf N.nW hz hf (pv 2)) (pa_cons (pe_xf N.xf N.nA hz hf (pv 2)) pa_nil))) (pe_tup (pa_cons pe_str (pa_cons (pe_un un_neg pe_int) pa_nil))) (nomark _)))))
      (pss_one (ps_ret pe_bl)), ?_⟩
    obtain ⟨dx, l, w, h1, h2, h3⟩ := id G.ex
    refine ⟨_, rfl, p, dx, _, rfl, h1, lk_feed, _, rfl, p, A, b, fnd, wait, beg, x, rfl, G, O, hd, fun d H1 s1 e1 => ?_⟩
    refine ⟨true, N.te, fun _ a ha => ?_, fun q => Bool.noConfusion q⟩
    refine ⟨_, rfl, rfl, rfl, d, _, _, rfl, e1, nu_word, _, rfl, rfl, rfl, d, _, _, rfl, e1, nu_at, (by show 2 ≤ sizeLine; decide), fun t1 ht1 => ?_⟩
    refine ⟨_, rfl, (by show 2 ≤ sizeLine; decide), fun t2 ht2 => ?_⟩
    have ht : t1 ≠ t2 := ne_of_none (o := .tup [.str "digits", .int (-1)]) upd_same ht2
    refine ⟨dNU, dNU, .tup (SqT.of (xs := [.str "digits", .int (-1)]) (by rw [upd_ne ht]; exact upd_same)) (.cons (.str _) (.cons (.int _) .nil)), .tup (SqT.of (xs := [.str "digits", .int (-1)]) upd_same) (.cons (.str _) (.cons (.int _) .nil)), dNU_shaped, dNU_shaped, ?_⟩
    rw [dNU_eqv]
    exact k _ (s1.trans ((same_new ht1).trans (same_new ht2)))
end
end K76
/-! The law's scraps and parts. -/
namespace K76
open PySem PySem.Spec PyProof.Rows L2
theorem feed_upd {H : Hp} {d D : Addr} {A : List Addr} {o : HO} (F : FeedAt H d A) (h : D ∉ A) : FeedAt (upd H D o) d A := by
  obtain ⟨m, n, g, gs, rfl, h2, h3, r⟩ := F.ex
  have e1 : d ≠ D := fun z => h (by rw [← z]; exact List.mem_cons_self)
  have e2 : g ≠ D := fun z => h (by rw [← z]; exact List.mem_cons_of_mem _ List.mem_cons_self)
  exact ⟨m, n, g, gs, rfl, by rw [upd_ne e1]; exact h2, by rw [upd_ne e2]; exact h3, r⟩
theorem tup_nf {H : Hp} {d r : Addr} {A : List Addr} {xs : List V} (F : FeedAt H d A) (h : H r = some (.tup xs)) : r ∉ A := by
  obtain ⟨m, n, g, gs, rfl, h2, h3, _⟩ := F.ex
  intro z
  rcases List.mem_cons.mp z with e | z
  · exact ne_of h h2 (by intro z; cases z) e
  · exact ne_of h h3 (by intro z; cases z) (List.mem_singleton.mp z)
theorem not_grow {A A' : List Addr} {H : Hp} {D : Addr} {o : HO} (g : Grow A A' H) (h : H D = some o) (n : D ∉ A) : D ∉ A' := fun z => by
  rcases g D z with q | q
  · exact n q
  · rw [h] at q
    cases q
theorem step_upd {A A1 : List Addr} {d D : Addr} {H H1 : Hp} {o : HO} (a : Step A H d A1 H1) (h : H D = none) (n : D ∉ A1) : Step A H d A1 (upd H1 D o) := ⟨a.1.upd (.inr h), a.2.1, feed_upd a.2.2 n⟩
theorem pow_base {a c : Int} (ha : 0 ≤ a) (hc : a ≤ c) : ∀ n : Nat, a ^ n ≤ c ^ n
  | 0 => by
    rw [Int.pow_zero, Int.pow_zero]
    exact Int.le_refl _
  | n + 1 => by
    rw [Int.pow_succ, Int.pow_succ]
    exact Int.mul_le_mul (pow_base ha hc n) hc ha (pow_nn (by omega) n)
theorem cut_from {u : List Int} (p : Nat) : cutV (zV u) (some (p : Int)) none = zV (u.drop p) := by
  by_cases h : p ≤ u.length
  · exact cut_drop h
  · unfold cutV
    rw [HT.sIx_nat, HT.sIx_none, zV_len, Nat.min_eq_right (by omega), List.drop_of_length_le (by rw [zV_len]; exact Nat.le_refl _), List.drop_of_length_le (by omega), List.take_nil]
    rfl
theorem nz_sorted {ns : List Int} {cs : List Nat} (h : ns.Perm (nZ cs)) (hp : ns.Pairwise (· ≤ ·)) : ∃ cs' : List Nat, ns = nZ cs' ∧ cs'.Perm cs ∧ cs'.Pairwise (· ≤ ·) := by
  have h1 : (ns.map Int.toNat).Perm cs := by
    have := h.map Int.toNat
    unfold nZ at this
    rw [List.map_map] at this
    rwa [show (Int.toNat ∘ fun (n : Nat) => (n : Int)) = id from funext fun n => rfl, List.map_id] at this
  have h2 : nZ (ns.map Int.toNat) = ns := by
    unfold nZ
    rw [List.map_map]
    refine Eq.trans (List.map_congr_left (g := id) fun z hz => ?_) (List.map_id _)
    have : z ∈ nZ cs := h.mem_iff.mp hz
    obtain ⟨n, _, rfl⟩ := List.mem_map.mp this
    rfl
  refine ⟨ns.map Int.toNat, h2.symm, h1, ?_⟩
  rw [← h2] at hp
  unfold nZ at hp
  rw [List.pairwise_map] at hp
  exact hp.imp fun h => Int.ofNat_le.mp h
theorem sorted_last {cs cs' : List Nat} {n : Nat} (h : cs'.Perm (cs ++ [n])) (hp : cs'.Pairwise (· ≤ ·)) (hm : ∀ c ∈ cs ++ [n], c ≤ n) : cs'.getLast? = some n := by
  rcases nil_or_snoc cs' with rfl | ⟨u, x, rfl⟩
  · have := h.length_eq
    simp at this
  · rw [List.getLast?_append, List.getLast?_singleton]
    have h1 : x ≤ n := hm x (h.mem_iff.mp (by simp))
    have h2 : n ∈ u ++ [x] := h.mem_iff.mpr (by simp)
    have h3 : n ≤ x := by
      rcases List.mem_append.mp h2 with z | z
      · exact (List.pairwise_append.mp hp).2.2 n z x (by simp)
      · rw [List.mem_singleton.mp z]
        exact Nat.le_refl _
    rw [show x = n by omega]
    rfl
def rLn (K : PySem.W.Frag) : List V → Hp → VK → Prop := fun xs H Q => ∃ (p : Addr) (ys : List V), xs = [V.ref p] ∧ (SqL K H p ys ∨ SqT K H p ys) ∧ Q (V.int (ys.length : Int)) H
def spLScrap : Sp := fun vs H Q _ => ∃ (d : Addr) (A : List Addr) (b : Int), vs = [.ref d, .int b] ∧ FeedAt H d A ∧ 3 ≤ b ∧ b ≤ 256 ∧ ∀ r H' A' u, Step A H d A' H' → H' r = some (.tup (zV u)) → Sc b u → Q (.ref r) H'
def spLParts : Sp := fun vs H Q _ => ∃ (d : Addr) (A : List Addr) (a : Addr) (u : List Int), vs = [.ref d, .ref a] ∧ FeedAt H d A ∧ H a = some (.tup (zV u)) ∧ u.length ≤ 470 ∧
  ∀ r H' A' cs, Step A H d A' H' → H' r = some (.lst (zV (nZ cs))) → r ∉ A' → (r ∈ A ∨ H r = none) → cs.Pairwise (· ≤ ·) → cs.getLast? = some u.length → cs.length ≤ 5 → Q (.ref r) H'
section
variable {P : Program} {w : World} {K : PySem.W.Frag} {mg : Str → Option Value} {base : Heap} {C : Addr}
theorem scScrap : FnScope ["_law_feed_here", "_law_base", "_law_many", "_law_k"] ["_law_feed_here", "_law_base"] (defScope sLScrap) := ⟨rfl, rfl, rfl, by decide +kernel, rfl, by decide +kernel, by decide +kernel⟩
theorem ok_scrap (D : Df K mg "_law_scrap" sLScrap) (T : Bt mg) (GD : Cal P w K mg base CX0 1 "_law_draw" ["_law_feed_here", "_law_many"] spDraw) (GA : Cal P w K mg base CX0 2 "_law_any" ["_law_feed_here", "_law_some"] spAny)
    (GG : Cal P w K mg base CX0 3 "_law_ground" ["_law_feed_here"] spGround) (GS : Cal P w K mg base CX0 2 "_law_stream" ["_law_base", "_law_stacks"] spLStream) : Cal P w K mg base CX0 4 "_law_scrap" ["_law_feed_here", "_law_base"] spLScrap := by
  obtain ⟨f, fd, F, g⟩ := D.ex
  refine ⟨f, fd, F.ok scScrap (fun vs H Q E h => ?_) (fun cdv A outer s H vs Q E hr h => ?_), g, F.kp, F.binds fun _ _ _ _ _ _ us hl => match us, hl with | [_, _], _ => rfl⟩
  · obtain ⟨d, A, b, rfl, _⟩ := h
    rfl
  · rename Around => Ar
    obtain ⟨d, A, b, rfl, FA, b3, b256, k⟩ := h
    refine ⟨_, pss_cons (ps_if (pt_cmpR op_eq (pe_cl GD (hr.mono (by decide)) pass0 (pa_cons (pv 0) (pa_cons pe_int pa_nil))) pe_int (nomark _))
        (pss_one (ps_ret (pe_slice sl_tupA (pe_cl GS (hr.mono (by decide)) pass0 (pa_cons (pv 1) (pa_cons (pe_lst (pa_cons (pe_cl GG hr pass0 (pa_cons (pv 0) pa_nil)) (pa_cons (pe_cl GG hr pass0 (pa_cons (pv 0) pa_nil)) pa_nil))) pa_nil)))
          (po_some (pe_cl GD (hr.mono (by decide)) pass0 (pa_cons (pv 0) (pa_cons pe_int pa_nil)))) po_none))) pss_nil)
      (pss_cons (ps_set (i := 2) scScrap.nd rfl (Or.inl rfl) (pe_cl GA (hr.mono (by decide)) pass0 (pa_cons (pv 0) (pa_cons (pe_lst (pa_cons pe_int (pa_cons pe_int (pa_cons pe_int (pa_cons pe_int (pa_cons pe_int (pa_cons pe_int (pa_cons pe_int pa_nil)))))))) pa_nil))))
      (pss_one (ps_ret (pe_callTy call_tuple_of (by rfl) T.tuple (by decide +kernel) (pa_cons
        (pe_lc (own := [("_law_k", 3)]) (g := gName 3) (tt := tYes) rfl scScrap.nd (pi_range1 rfl T.range (pa_cons (pv 2) pa_nil)) (blkOk_by (own := [("_law_k", 3)]) (N := ["_law_feed_here", "_law_base", "_law_many", "_law_k"]) (sc := defScope sLScrap) (by decide +kernel))
          (fun _ _ _ _ _ => pg_name (i := 3) scScrap.nd rfl (Or.inl rfl)) (fun _ _ _ _ _ => pts_nil)
          (fun _ _ _ _ _ => pe_cl GA (hr.mono (by decide)) pass0 (pa_cons (pv 0) (pa_cons (pe_lst (pa_cons (pe_op op_sub (pv 1) pe_int)
            (pa_cons (pe_cl GD (hr.mono (by decide)) pass0 (pa_cons (pv 0) (pa_cons (pv 1) pa_nil))) (pa_cons (pe_cl GD (hr.mono (by decide)) pass0 (pa_cons (pv 0) (pa_cons pe_int pa_nil))) pa_nil)))) pa_nil)))) pa_nil))))), ?_⟩
    refine ⟨_, rfl, d, A, 5, rfl, FA, by decide, by decide, fun r H1 A1 r0 r1 o1 g1 F1 => ?_⟩
    have S1 : Step A H d A1 H1 := ⟨o1, g1, F1⟩
    refine ⟨rfl, _, rfl, ite2 (fun _ => ?_) (fun _ => ?_)⟩
    · refine ⟨_, rfl, _, rfl, d, A1, rfl, F1, fun x1 H2 A2 x10 x11 o2 g2 F2 => ?_⟩
      have S2 := step_trans S1 o2 g2 F2
      refine ⟨_, rfl, d, A2, rfl, F2, fun x2 H3 A3 x20 x21 o3 g3 F3 => ?_⟩
      have S3 := step_trans S2 o3 g3 F3
      refine ⟨(by show 2 ≤ sizeLine; decide), fun l hl => ?_⟩
      refine ⟨b, x1, x2, l, rfl, b3, b256, upd_same, x10, x11, x20, x21, fun q H4 ds s4 e4 hsc => ?_⟩
      have S4 := step_same (step_same S3 (same_new (o := .lst [.int x1, .int x2]) hl)) s4
      refine ⟨_, rfl, d, A3, 2, rfl, S4.2.2, by decide, by decide, fun r' H5 A5 r'0 r'1 o5 g5 F5 => ?_⟩
      have S5 := step_trans S4 o5 g5 F5
      have e5 := o5 _ _ e4 (tup_nf S4.2.2 e4)
      obtain ⟨j, rfl⟩ := Int.eq_ofNat_of_zero_le r'0
      refine ⟨_, rfl, ?_⟩
      unfold tNoPart
      refine cut_to e5 (cut_from j) fun q2 H6 s6 e6 => ?_
      refine k q2 H6 A5 _ (step_same S5 s6) e6 (hsc.part b3 (fun z hz => List.mem_of_mem_drop hz) (by rw [List.length_drop]; omega))
    · refine ⟨_, rfl, (by show 7 ≤ sizeLine; decide), fun l hl => ?_⟩
      have s2 := same_new (o := .lst [V.int 0, .int 1, .int 2, .int 5, .int 9, .int 14, .int 20]) hl
      refine ⟨d, A1, l, _, rfl, feed_same s2 F1, upd_same, (fun z => feed_dom F1 l z hl), by simp, (by show 7 ≤ 100; decide), fun x hx H3 A3 o3 g3 F3 => ?_⟩
      have S3 := step_trans (step_same S1 s2) o3 g3 F3
      have hx' : ∃ n : Nat, x = .int (n : Int) ∧ n ≤ 20 := by
        simp only [List.mem_cons, List.not_mem_nil, or_false] at hx
        rcases hx with e | e | e | e | e | e | e <;> rw [e]
        · exact ⟨0, rfl, by decide⟩
        · exact ⟨1, rfl, by decide⟩
        · exact ⟨2, rfl, by decide⟩
        · exact ⟨5, rfl, by decide⟩
        · exact ⟨9, rfl, by decide⟩
        · exact ⟨14, rfl, by decide⟩
        · exact ⟨20, rfl, by decide⟩
      obtain ⟨n, rfl, hn⟩ := hx'
      refine ⟨_, rfl, (n : Int), rfl, by omega, by omega, fun D hD => lc_range (n := n) (fun i H' => ∃ A' us, Step A3 H3 d A' H' ∧ H' D = some (.lst (zV us)) ∧ D ∉ A' ∧ us.length = i ∧ Dg b us)
        ⟨A3, [], step_same (step_refl F3) (same_new hD), upd_same, (fun z => feed_dom F3 D z hD), rfl, Dg.nil⟩ ?_ ?_⟩
      · rintro i H4 hi ⟨A4, us, S4, e4, n4, l4, d4⟩
        refine ⟨rfl, ?_⟩
        refine ⟨_, rfl, _, rfl, _, _, rfl, rfl, _, rfl, _, rfl, d, A4, b, rfl, S4.2.2, by omega, by omega, fun y1 H5 A5 y10 y11 o5 g5 F5 => ?_⟩
        have S5 := step_trans S4 o5 g5 F5
        have e5 := o5 _ _ e4 n4
        have n5 := not_grow g5 e4 n4
        refine ⟨_, rfl, d, A5, 2, rfl, F5, by decide, by decide, fun y2 H6 A6 y20 y21 o6 g6 F6 => ?_⟩
        have S6 := step_trans S5 o6 g6 F6
        have e6 := o6 _ _ e5 n5
        have n6 := not_grow g6 e5 n5
        refine ⟨(by show 3 ≤ sizeLine; decide), fun m hm => ?_⟩
        have s7 := same_new (o := .lst [V.int (b - 1), .int y1, .int y2]) hm
        have S7 := step_same S6 s7
        refine ⟨d, A6, m, _, rfl, S7.2.2, upd_same, (fun z => feed_dom F6 m z hm), by simp, (by show 3 ≤ 100; decide), fun x hx H8 A8 o8 g8 F8 => ?_⟩
        have S8 := step_trans S7 o8 g8 F8
        have e8 := o8 _ _ (s7 _ _ e6) n6
        have n8 := not_grow g8 (s7 _ _ e6) n6
        have hx' : ∃ z : Int, x = .int z ∧ 0 ≤ z ∧ z < b := by
          simp only [List.mem_cons, List.not_mem_nil, or_false] at hx
          rcases hx with e | e | e <;> rw [e]
          · exact ⟨_, rfl, by omega, by omega⟩
          · exact ⟨_, rfl, y10, y11⟩
          · exact ⟨_, rfl, y20, by omega⟩
        obtain ⟨z, rfl, z0, z1⟩ := hx'
        refine ⟨_, e8, ?_, A8, us ++ [z], step_upd S8 hD n8, by rw [upd_same, zV_snoc], n8, by rw [List.length_append, List.length_singleton, l4], d4.snoc z0 z1⟩
        rw [zV_len]
        exact line5000 (by omega)
      · rintro H4 ⟨A4, us, S4, e4, n4, l4, d4⟩
        refine ⟨D, _, rfl, .inl ⟨SqL.of e4, fun q hq => ?_⟩⟩
        refine k q _ A4 us (step_same (step_trans S3 S4.1 S4.2.1 S4.2.2) (same_new hq)) upd_same ⟨d4, ?_⟩
        refine Int.le_trans (pow_base (by omega) (show b - 1 ≤ 255 by omega) _) (Int.le_trans (pow_mono (by decide) (show us.length ≤ 20 by omega)) (by decide +kernel))
theorem scParts : FnScope ["_law_feed_here", "_law_digits", "_law_cuts", "_law_k"] ["_law_feed_here", "_law_digits"] (defScope sLParts) := ⟨rfl, rfl, rfl, by decide +kernel, rfl, by decide +kernel, by decide +kernel⟩
theorem ok_parts (D : Df K mg "_law_parts" sLParts) (T : Bt mg) (GD : Cal P w K mg base CX0 1 "_law_draw" ["_law_feed_here", "_law_many"] spDraw) : Cal P w K mg base CX0 2 "_law_parts" ["_law_feed_here", "_law_digits"] spLParts := by
  obtain ⟨f, fd, F, g⟩ := D.ex
  refine ⟨f, fd, F.ok scParts (fun vs H Q E h => ?_) (fun cdv A outer s H vs Q E hr h => ?_), g, F.kp, F.binds fun _ _ _ _ _ _ us hl => match us, hl with | [_, _], _ => rfl⟩
  · obtain ⟨d, A, a, u, rfl, _⟩ := h
    rfl
  · rename Around => Ar
    obtain ⟨d, A, a, u, rfl, FA, ha, hz, k⟩ := h
    refine ⟨_, pss_cons (ps_setLc (i := 2) (own := [("_law_k", 3)]) (g := gName 3) (tt := tYes) rfl scParts.nd rfl rfl (sw_true rfl rfl rfl (by decide +kernel)) (pi_range1 rfl T.range (pa_cons (pe_cl GD hr pass0 (pa_cons (pv 0) (pa_cons pe_int pa_nil))) pa_nil)) (blkOk_by (own := [("_law_k", 3)]) (N := ["_law_feed_here", "_law_digits", "_law_cuts", "_law_k"]) (sc := defScope sLParts) (by decide +kernel))
          (fun _ _ _ _ _ => pg_name (i := 3) scParts.nd rfl (Or.inl rfl)) (fun _ _ _ _ _ => pts_nil)
          (fun _ _ _ _ _ => pe_cl GD hr pass0 (pa_cons (pv 0) (pa_cons (pe_op op_add (pe_callB (r := rLn K) call_len_seq (by rfl) T.len PySem.boot_len (pa_cons (pv 1) pa_nil)) pe_int) pa_nil))))
      (pss_one (ps_ret (pe_callB cr_sorted (by rfl) T.sorted (by decide +kernel) (pa_cons (pe_op op_cat (pv 2) (pe_lst (pa_cons (pe_callB call_len_seq (by rfl) T.len PySem.boot_len (pa_cons (pv 1) pa_nil)) pa_nil))) pa_nil)))), ?_⟩
    refine ⟨_, rfl, d, A, 5, rfl, FA, by decide, by decide, fun r H1 A1 r0 r1 o1 g1 F1 => ?_⟩
    have S1 : Step A H d A1 H1 := ⟨o1, g1, F1⟩
    have ha1 := o1 _ _ ha (tup_nf FA ha)
    obtain ⟨n, rfl⟩ := Int.eq_ofNat_of_zero_le r0
    refine ⟨(n : Int), rfl, by omega, by omega, fun D hD => lc_range (n := n) (fun i H' => ∃ A' cs, Step A1 H1 d A' H' ∧ H' D = some (.lst (zV (nZ cs))) ∧ D ∉ A' ∧ cs.length = i ∧ ∀ c ∈ cs, c ≤ u.length)
        ⟨A1, [], step_same (step_refl F1) (same_new hD), upd_same, (fun z => feed_dom F1 D z hD), rfl, (fun c hc => by cases hc)⟩ ?_ ?_⟩
    · rintro i H4 hi ⟨A4, cs, S4, e4, n4, l4, d4⟩
      have ha4 := S4.1 _ _ ha1 (tup_nf F1 ha1)
      refine ⟨rfl, ?_⟩
      refine ⟨_, rfl, _, rfl, a, _, rfl, .inr (SqT.of ha4), _, _, rfl, rfl, d, A4, _, rfl, S4.2.2, ?_, ?_, fun y H5 A5 y0 y1 o5 g5 F5 => ?_⟩
      · omega
      · rw [zV_len]
        omega
      · rw [zV_len] at y1
        have S5 := step_trans S4 o5 g5 F5
        have e5 := o5 _ _ e4 n4
        have n5 := not_grow g5 e4 n4
        obtain ⟨c, rfl⟩ := Int.eq_ofNat_of_zero_le y0
        refine ⟨_, e5, ?_, A5, cs ++ [c], step_upd S5 hD n5, ?_, n5, by rw [List.length_append, List.length_singleton, l4], fun z hz => ?_⟩
        · rw [nz_len]
          exact line5000 (by omega)
        · rw [upd_same]
          unfold nZ zV
          rw [List.map_append, List.map_append]
          rfl
        · rcases List.mem_append.mp hz with q | q
          · exact d4 z q
          · rw [List.mem_singleton.mp q]
            omega
    · rintro H4 ⟨A4, cs, S4, e4, n4, l4, d4⟩
      have ha4 := S4.1 _ _ ha1 (tup_nf F1 ha1)
      refine ⟨_, rfl, _, rfl, a, _, rfl, .inr (SqT.of ha4), (by show 1 ≤ sizeLine; decide), fun l hl => ?_⟩
      have s5 := same_new (o := .lst [V.int ((zV u).length : Int)]) hl
      refine ⟨D, l, _, _, rfl, rfl, s5 _ _ e4, upd_same, ?_, fun q hq => ?_⟩
      · rw [nz_len, List.length_singleton]
        exact line2000 (by omega)
      · have s6 := same_new (o := .lst (zV (nZ cs) ++ [V.int ((zV u).length : Int)])) hq
        have eq : zV (nZ cs) ++ [V.int ((zV u).length : Int)] = (nZ (cs ++ [u.length])).map V.int := by
          rw [zV_len]
          unfold nZ zV
          rw [List.map_append, List.map_append]
          rfl
        refine ⟨q, nZ (cs ++ [u.length]), rfl, SqL.of (by rw [upd_same, eq]), ?_, fun ns' p hperm hpw hp => ?_⟩
        · unfold nZ
          rw [List.length_map, List.length_append, List.length_singleton]
          omega
        · have S7 := step_trans S1 S4.1 S4.2.1 S4.2.2
          have S8 := step_same (step_same S7 s5) s6
          obtain ⟨cs', rfl, hp', hpw'⟩ := nz_sorted hperm hpw
          refine k p _ A4 cs' (step_same S8 (same_new hp)) upd_same (fun z => feed_dom S8.2.2 p z hp) (place_of S8.1 hp) hpw' (sorted_last hp' hpw' fun c hc => ?_) ?_
          · rcases List.mem_append.mp hc with z | z
            · exact d4 c z
            · rw [List.mem_singleton.mp z]
              exact Nat.le_refl _
          · rw [hp'.length_eq, List.length_append, List.length_singleton]
            omega
end
end K76
set_option exponentiation.threshold 2000
/-! Data that repr shows; the state of the two gates and the feed. -/
namespace K76
open PySem PySem.Spec PyProof.Rows L2
/-! ### data that repr shows -/
structure Nice (m k : Nat) (d : PyData) : Prop where
  sh : d.showable = true
  nd : d.hasDict = false
  dp : d.depth ≤ k
  ln : d.shown.length ≤ m
theorem Nice.mono {m k m' k' : Nat} {d : PyData} (h : Nice m k d) (a : m ≤ m') (b : k ≤ k') : Nice m' k' d := ⟨h.sh, h.nd, Nat.le_trans h.dp b, Nat.le_trans h.ln a⟩
theorem nice_all {m k : Nat} : ∀ {ds : List PyData}, (∀ d ∈ ds, Nice m k d) → PyData.showableAll ds = true ∧ PyData.hasDictAll ds = false ∧ PyData.depthAll ds ≤ k ∧ ((PyData.shownAll ds).map (·.length)).sum ≤ ds.length * m ∧ (PyData.shownAll ds).length = ds.length
  | [], _ => by simp [PyData.showableAll, PyData.hasDictAll, PyData.depthAll, PyData.shownAll]
  | d :: ds, h => by
    have h1 := h d List.mem_cons_self
    obtain ⟨a, b, c, e, f⟩ := nice_all (ds := ds) fun x hx => h x (List.mem_cons_of_mem _ hx)
    refine ⟨by simp only [PyData.showableAll, h1.sh, a, Bool.and_self], by simp only [PyData.hasDictAll, h1.nd, b, Bool.or_self], ?_, ?_, ?_⟩
    · simp only [PyData.depthAll]
      exact Nat.max_le.mpr ⟨h1.dp, c⟩
    · simp only [PyData.shownAll, List.map_cons, List.sum_cons, List.length_cons]
      rw [Nat.add_mul, Nat.one_mul]
      have := h1.ln
      omega
    · simp only [PyData.shownAll, List.length_cons, f]
theorem nice_list {m k : Nat} {ds : List PyData} (h : ∀ d ∈ ds, Nice m k d) : Nice (ds.length * (m + 2) + 3) (k + 1) (.list ds) := by
  obtain ⟨a, b, c, e, f⟩ := nice_all h
  refine ⟨by simp only [PyData.showable, a], by simp only [PyData.hasDict, b], by simp only [PyData.depth]; omega, ?_⟩
  have := listText_len_le (PyData.shownAll ds)
  rw [f] at this
  simp only [PyData.shown]
  rw [Nat.mul_add]
  omega
theorem nice_tuple {m k : Nat} {ds : List PyData} (h : ∀ d ∈ ds, Nice m k d) : Nice (ds.length * (m + 2) + 3) (k + 1) (.tuple ds) := by
  obtain ⟨a, b, c, e, f⟩ := nice_all h
  refine ⟨by simp only [PyData.showable, a], by simp only [PyData.hasDict, b], by simp only [PyData.depth]; omega, ?_⟩
  have := tupleText_len_le (PyData.shownAll ds)
  rw [f] at this
  simp only [PyData.shown]
  rw [Nat.mul_add]
  omega
/-- what a repr of a row may hold -/
def Big (z : Int) : Prop := 0 ≤ z ∧ z < 2 ^ 448
theorem nice_int {z : Int} (h : Big z) : Nice 449 0 (.int z) := by
  obtain ⟨n, rfl⟩ := Int.eq_ofNat_of_zero_le h.1
  have h2 : n < 2 ^ 448 := by
    have := h.2
    have e : ((2 : Int) ^ 448) = ((2 ^ 448 : Nat) : Int) := by rw [Int.natCast_pow]; rfl
    rw [e] at this
    exact Int.ofNat_lt.mp this
  have h3 : (n : Int).natAbs.log2 < 448 := by
    rw [Int.natAbs_natCast]
    by_cases h0 : n = 0
    · rw [h0]
      decide
    · exact (Nat.log2_lt h0).mpr h2
  refine ⟨?_, by simp only [PyData.hasDict], by simp only [PyData.depth]; exact Nat.le_refl _, ?_⟩
  · simp only [PyData.showable]
    exact decide_eq_true (Nat.lt_trans h3 (by decide))
  · have := int_text_length_le (a := (n : Int)) (k := 448) (by decide) h3
    simp only [PyData.shown]
    rw [PySem.ofString_length]
    exact this
def dT (ns : List Int) : PyData := .tuple (ns.map PyData.int)
def dW : Option (List Int) → PyData
  | none => .none
  | some ws => dT ws
def dS (fr : List Int) (w : Option (List Int)) (b : Bool) : PyData := .list [dT fr, dW w, .bool b]
def BigL (ns : List Int) : Prop := ns.length ≤ 4000 ∧ ∀ z ∈ ns, Big z
theorem nice_ints {ns : List Int} (h : BigL ns) : ∀ d ∈ ns.map PyData.int, Nice 449 0 d := fun d hd => by
  obtain ⟨z, hz, rfl⟩ := List.mem_map.mp hd
  exact nice_int (h.2 z hz)
theorem nice_dT {ns : List Int} (h : BigL ns) : Nice 1804003 1 (dT ns) := by
  have h1 := nice_tuple (nice_ints h)
  refine h1.mono ?_ (Nat.le_refl _)
  rw [List.length_map]
  have := h.1
  omega
theorem nice_lst {ns : List Int} (h : BigL ns) : Nice 1804003 1 (.list (ns.map PyData.int)) := by
  have h1 := nice_list (nice_ints h)
  refine h1.mono ?_ (Nat.le_refl _)
  rw [List.length_map]
  have := h.1
  omega
theorem nice_dW {w : Option (List Int)} (h : ∀ ws, w = some ws → BigL ws) : Nice 1804003 1 (dW w) := by
  cases w with
  | none => exact ⟨by simp only [dW, PyData.showable], by simp only [dW, PyData.hasDict], by simp only [dW, PyData.depth]; omega, by simp only [dW]; exact Nat.le_trans (m := 4) (Nat.le_of_eq rfl) (by decide)⟩
  | some ws => exact nice_dT (h ws rfl)
theorem nice_bool (b : Bool) : Nice 1804003 1 (.bool b) :=
  ⟨by simp only [PyData.showable], by simp only [PyData.hasDict], by simp only [PyData.depth]; omega, by cases b <;> exact Nat.le_trans (m := 5) (by decide) (by decide)⟩
theorem nice_none : Nice 1804003 1 PyData.none := nice_dW (w := none) fun ws z => by cases z
theorem nice_dS {fr : List Int} {w : Option (List Int)} {b : Bool} (h : BigL fr) (hw : ∀ ws, w = some ws → BigL ws) : Nice 5412018 2 (dS fr w b) := by
  refine (nice_list (m := 1804003) (k := 1) (ds := [dT fr, dW w, .bool b]) fun d hd => ?_).mono (by show 3 * (1804003 + 2) + 3 ≤ 5412018; decide) (Nat.le_refl _)
  simp only [List.mem_cons, List.not_mem_nil, or_false] at hd
  rcases hd with e | e | e <;> rw [e]
  · exact nice_dT h
  · exact nice_dW hw
  · exact nice_bool b
section
variable {K : PySem.W.Frag} {H : Hp}
theorem dp_T {r : Addr} {ns : List Int} (h : H r = some (.tup (zV ns))) : Dp K H (.ref r) (dT ns) := .tup (SqT.of h) (dpAll_zV ns)
theorem dp_L {r : Addr} {ns : List Int} (h : H r = some (.lst (zV ns))) : Dp K H (.ref r) (.list (ns.map PyData.int)) := .lst (SqL.of h) (dpAll_zV ns)
theorem dp_W {w : Option (List Int)} {v : V} (h : WV H w v) : Dp K H v (dW w) := by
  rcases h with ⟨rfl, rfl⟩ | ⟨ws, r, rfl, rfl, h⟩
  · exact .non
  · exact dp_T h
theorem dp_S {l fr : Addr} {v : V} {ns : List Int} {w : Option (List Int)} {b : Bool} (h : H l = some (.lst [.ref fr, v, .bl b])) (hf : H fr = some (.tup (zV ns))) (hw : WV H w v) : Dp K H (.ref l) (dS ns w b) :=
  .lst (SqL.of h) (.cons (dp_T hf) (.cons (dp_W hw) (.cons (.bl b) .nil)))
end
def spLSame (K : PySem.W.Frag) : Sp := fun vs H Q _ => ∃ (x y : Addr) (d : PyData), vs = [.ref x, .ref y] ∧ Dp K H (.ref x) d ∧ Dp K H (.ref y) d ∧ Nice sizeLine 60 d ∧ Q (.bl true) H
section
variable {P : Program} {w : World} {K : PySem.W.Frag} {mg : Str → Option Value} {base : Heap}
theorem scSame : FnScope ["_law_told", "_law_due"] ["_law_told", "_law_due"] (defScope sLSame) := ⟨rfl, rfl, rfl, by decide +kernel, rfl, by decide +kernel, by decide +kernel⟩
theorem ok_same (D : Df K mg "_law_same" sLSame) (T : Bt mg) : CalG P w K mg base 1 "_law_same" ["_law_told", "_law_due"] (spLSame K) := by
  obtain ⟨f, fd, F, g⟩ := D.ex
  refine ⟨f, fd, okG F scSame (fun vs H Q E h => ?_) (fun cdv A outer s H vs Q E hgd hr h => ?_), g, F.kp, F.binds fun _ _ _ _ _ _ us hl => match us, hl with | [_, _], _ => rfl⟩
  · obtain ⟨x, y, d, rfl, _⟩ := h
    rfl
  · obtain ⟨x, y, d, rfl, hx, hy, hn, k⟩ := h
    refine ⟨_, pss_one (ps_ret (pe_cmpR op_eq (pe_callB (r := rRepr K) (call_reprD hgd hr.units) (by rfl) T.repr (by decide +kernel) (pa_cons (pv 0) pa_nil))
      (pe_callB (r := rRepr K) (call_reprD hgd hr.units) (by rfl) T.repr (by decide +kernel) (pa_cons (pv 1) pa_nil)) (nomark _))), ?_⟩
    refine ⟨_, rfl, x, d, rfl, hx, hn.sh, hn.nd, hn.dp, hn.ln, _, rfl, y, d, rfl, hy, hn.sh, hn.nd, hn.dp, hn.ln, rfl, ?_⟩
    rw [decide_eq_true rfl]
    exact k
end
end K76
set_option exponentiation.threshold 2000
/-! The state of the two gates and the feed; a part of a scrap. -/
namespace K76
open PySem PySem.Spec PyProof.Rows L2
/-- every tuple that stands goes on standing -/
def Tps (H H' : Hp) : Prop := ∀ r xs, H r = some (.tup xs) → H' r = some (.tup xs)
theorem Tps.refl (H : Hp) : Tps H H := fun _ _ h => h
theorem Tps.trans {H H1 H2 : Hp} (a : Tps H H1) (b : Tps H1 H2) : Tps H H2 := fun r xs h => b r xs (a r xs h)
theorem Tps.of {H H' : Hp} (s : Same H H') : Tps H H' := fun r xs h => s _ _ h
theorem gate_dom {C : Addr} {H : Hp} {p : Addr} {A : List Addr} {b : Int} {fnd : List Int} {wait : Option (List Int)} {beg : Option Bool} (G : GateAt C H p A b fnd wait beg) : ∀ c ∈ A, H c ≠ none := by
  obtain ⟨dx, l, w, h1, h2, h3⟩ := G.ex
  intro c hc z
  rcases h3 with ⟨_, _, rfl⟩ | ⟨q, ws, _, _, h4, _, rfl⟩
  · simp only [List.mem_cons, List.not_mem_nil, or_false] at hc
    rcases hc with e | e <;> rw [e] at z
    · rw [h1] at z
      cases z
    · rw [h2] at z
      cases z
  · simp only [List.mem_cons, List.not_mem_nil, or_false] at hc
    rcases hc with e | e | e <;> rw [e] at z
    · rw [h1] at z
      cases z
    · rw [h2] at z
      cases z
    · rw [h4] at z
      cases z
theorem tup_ng {C : Addr} {H : Hp} {p r : Addr} {xs : List V} {A : List Addr} {b : Int} {fnd : List Int} {wait : Option (List Int)} {beg : Option Bool} (G : GateAt C H p A b fnd wait beg) (h : H r = some (.tup xs)) : r ∉ A := by
  obtain ⟨dx, l, w, h1, h2, h3⟩ := G.ex
  intro hc
  have e1 : r ≠ p := ne_of h h1 (by intro z; cases z)
  have e2 : r ≠ l := ne_of h h2 (by intro z; cases z)
  rcases h3 with ⟨_, _, rfl⟩ | ⟨q, ws, _, _, h4, _, rfl⟩
  · simp only [List.mem_cons, List.not_mem_nil, or_false] at hc
    rcases hc with e | e
    · exact e1 e
    · exact e2 e
  · have e3 : r ≠ q := ne_of h h4 (by intro z; cases z)
    simp only [List.mem_cons, List.not_mem_nil, or_false] at hc
    rcases hc with e | e | e
    · exact e1 e
    · exact e2 e
    · exact e3 e
theorem gate_out {C : Addr} {H H' : Hp} {p : Addr} {A B : List Addr} {b : Int} {fnd : List Int} {wait : Option (List Int)} {beg : Option Bool} (G : GateAt C H p A b fnd wait beg) (o : Out B H H') (n : ∀ c ∈ A, c ∉ B) : GateAt C H' p A b fnd wait beg := by
  obtain ⟨dx, l, w, h1, h2, h3⟩ := G.ex
  rcases h3 with ⟨e1, e2, rfl⟩ | ⟨q, ws, e1, e2, h4, h5, rfl⟩
  · exact ⟨dx, l, w, o _ _ h1 (n _ (by simp)), o _ _ h2 (n _ (by simp)), .inl ⟨e1, e2, rfl⟩⟩
  · exact ⟨dx, l, w, o _ _ h1 (n _ (by simp)), o _ _ h2 (n _ (by simp)), .inr ⟨q, ws, e1, e2, o _ _ h4 (n _ (by simp)), h5, rfl⟩⟩
theorem feed_out {H H' : Hp} {d : Addr} {A B : List Addr} (F : FeedAt H d A) (o : Out B H H') (n : ∀ c ∈ A, c ∉ B) : FeedAt H' d A := by
  obtain ⟨m, k, g, gs, rfl, h2, h3, r⟩ := F.ex
  exact ⟨m, k, g, gs, rfl, o _ _ h2 (n _ (by simp)), o _ _ h3 (n _ (by simp)), r⟩
/-- a gate's state: found, waiting, begun -/
abbrev GF : Type := List Int × Option (List Int) × Option Bool
/-- two gates, the feed, lists that stay -/
structure Wst (C : Addr) (b : Int) (H : Hp) (p q d : Addr) (A B D : List Addr) (s t : GF) (ls : List (Addr × List V)) : Prop where
  g0 : GateAt C H p A b s.1 s.2.1 s.2.2
  g1 : GateAt C H q B b t.1 t.2.1 t.2.2
  fd : FeedAt H d D
  ls : ∀ x ∈ ls, H x.1 = some (.lst x.2) ∧ x.1 ∉ A ∧ x.1 ∉ B ∧ x.1 ∉ D
  ab : ∀ c ∈ A, c ∉ B
  ad : ∀ c ∈ A, c ∉ D
  bd : ∀ c ∈ B, c ∉ D
section
variable {C : Addr} {b : Int} {H H' H1 : Hp} {p q d : Addr} {A B D : List Addr} {s t : GF} {ls : List (Addr × List V)}
theorem Wst.swap (W : Wst C b H p q d A B D s t ls) : Wst C b H q p d B A D t s ls :=
  ⟨W.g1, W.g0, W.fd, fun x hx => ⟨(W.ls x hx).1, (W.ls x hx).2.2.1, (W.ls x hx).2.1, (W.ls x hx).2.2.2⟩, fun c hc z => W.ab c z hc, W.bd, W.ad⟩
theorem Wst.same (W : Wst C b H p q d A B D s t ls) (S : Same H H') : Wst C b H' p q d A B D s t ls :=
  ⟨gate_same S W.g0, gate_same S W.g1, feed_same S W.fd, fun x hx => ⟨S _ _ (W.ls x hx).1, (W.ls x hx).2⟩, W.ab, W.ad, W.bd⟩
theorem grow_apart {A A' B : List Addr} (g : Grow A A' H) (n : ∀ c ∈ A, c ∉ B) (h : ∀ c ∈ B, H c ≠ none) : ∀ c ∈ A', c ∉ B := fun c hc z => by
  rcases g c hc with e | e
  · exact n c e z
  · exact h c z e
theorem Wst.gate (W : Wst C b H p q d A B D s t ls) {A' : List Addr} {s' : GF} (o : Out A H H') (g : Grow A A' H) (G : GateAt C H' p A' b s'.1 s'.2.1 s'.2.2) : Wst C b H' p q d A' B D s' t ls := by
  have hB := gate_dom W.g1
  have hD := feed_dom W.fd
  have n1 : ∀ c ∈ B, c ∉ A := fun c hc z => W.ab c z hc
  have n2 : ∀ c ∈ D, c ∉ A := fun c hc z => W.ad c z hc
  refine ⟨G, gate_out W.g1 o n1, feed_out W.fd o n2, fun x hx => ?_, grow_apart g W.ab hB, grow_apart g W.ad hD, W.bd⟩
  obtain ⟨h1, h2, h3, h4⟩ := W.ls x hx
  exact ⟨o _ _ h1 h2, not_grow g h1 h2, h3, h4⟩
theorem Wst.feed (W : Wst C b H p q d A B D s t ls) {D' : List Addr} (o : Out D H H') (g : Grow D D' H) (F : FeedAt H' d D') : Wst C b H' p q d A B D' s t ls := by
  have hA := gate_dom W.g0
  have hB := gate_dom W.g1
  refine ⟨gate_out W.g0 o W.ad, gate_out W.g1 o W.bd, F, fun x hx => ?_, W.ab, fun c hc z => ?_, fun c hc z => ?_⟩
  · obtain ⟨h1, h2, h3, h4⟩ := W.ls x hx
    exact ⟨o _ _ h1 h4, h2, h3, not_grow g h1 h4⟩
  · exact grow_apart g (fun c hc z => W.ad c z hc) hA c z hc
  · exact grow_apart g (fun c hc z => W.bd c z hc) hB c z hc
theorem Wst.tG (W : Wst C b H p q d A B D s t ls) (o : Out A H H') : Tps H H' := fun r xs h => o _ _ h (tup_ng W.g0 h)
theorem Wst.tF (W : Wst C b H p q d A B D s t ls) (o : Out D H H') : Tps H H' := fun r xs h => o _ _ h (tup_nf W.fd h)
theorem Wst.fresh (W : Wst C b H p q d A B D s t ls) {l : Addr} (h : H l = none) : l ∉ A ∧ l ∉ B ∧ l ∉ D := ⟨fun z => gate_dom W.g0 l z h, fun z => gate_dom W.g1 l z h, fun z => feed_dom W.fd l z h⟩
theorem Wst.add (W : Wst C b H p q d A B D s t ls) {l : Addr} {xs : List V} (h : H l = some (.lst xs)) (n : l ∉ A ∧ l ∉ B ∧ l ∉ D) : Wst C b H p q d A B D s t ((l, xs) :: ls) :=
  ⟨W.g0, W.g1, W.fd, fun x hx => by
    rcases List.mem_cons.mp hx with e | hx
    · rw [e]
      exact ⟨h, n.1, n.2.1, n.2.2⟩
    · exact W.ls x hx, W.ab, W.ad, W.bd⟩
theorem Wst.sub (W : Wst C b H p q d A B D s t ls) {ms : List (Addr × List V)} (h : ∀ x ∈ ms, x ∈ ls) : Wst C b H p q d A B D s t ms := ⟨W.g0, W.g1, W.fd, fun x hx => W.ls x (h x hx), W.ab, W.ad, W.bd⟩
end
/-! ### the plain law of a part -/
theorem part_run (m : Int) (u : List Int) {x y : Nat} (hx : x ≤ y) (hy : y ≤ u.length) :
    (grun m ([], (grun m g0 (u.take x)).2.1, (grun m g0 (u.take x)).2.2) ((u.take y).drop x)).1 = lf u x y (mks m 0 u) ∧
    grun m g0 (u.take y) = ((grun m g0 (u.take x)).1 ++ (grun m ([], (grun m g0 (u.take x)).2.1, (grun m g0 (u.take x)).2.2) ((u.take y).drop x)).1, (grun m ([], (grun m g0 (u.take x)).2.1, (grun m g0 (u.take x)).2.2) ((u.take y).drop x)).2) := by
  have e1 : grun m g0 (u.take y) = grun m (grun m g0 (u.take x)) ((u.take y).drop x) := by
    rw [← grun_append]
    congr 1
    have : u.take x = (u.take y).take x := by rw [List.take_take, Nat.min_eq_left hx]
    rw [this, List.take_append_drop]
  have e2 := run_frames m u x y hx hy
  generalize grun m g0 (u.take x) = g at *
  obtain ⟨bs, w, k⟩ := g
  rw [grun_told0 m _ bs w k] at e1
  simp only at e1 e2 ⊢
  refine ⟨?_, e1⟩
  rw [e1] at e2
  exact List.append_cancel_left e2
theorem stks_append (m : Int) (a c : List (List Int)) : stks m (a ++ c) = stks m a ++ stks m c := List.map_append ..
/-- what the frames of a scrap may be -/
theorem sc_big {b : Int} {u : List Int} (h : Sc b u) (hb : 3 ≤ b) {w : List Int} (hd : Dg (b - 1) w) (hl : w.length ≤ u.length) : Big (stk (b - 1) w) := by
  refine ⟨stk_nn (by omega) hd, ?_⟩
  have h1 := stk_le (show 2 ≤ b - 1 by omega) hd
  have h2 := Int.le_trans (pow_mono (show 1 ≤ b - 1 by omega) hl) h.pw
  have h3 : 2 * bigB < 2 ^ 448 := by decide +kernel
  omega
theorem sc_bigs {b : Int} {u : List Int} (h : Sc b u) (hb : 3 ≤ b) {y : Nat} : ∀ z ∈ stks (b - 1) (grun (b - 1) g0 (u.take y)).1, Big z := fun z hz => by
  obtain ⟨w, hw, rfl⟩ := List.mem_map.mp hz
  have RO := runOk (m := b - 1) (l := u.take y) (by rw [show b - 1 + 1 = b by omega]; exact h.dg.take y)
  obtain ⟨d1, d2⟩ := RO.dg w hw
  refine sc_big h hb d1 (Nat.le_trans d2 ?_)
  rw [List.length_take]
  omega
theorem big_dig {b : Int} (hb : b ≤ 256) {z : Int} (h0 : 0 ≤ z) (h1 : z < b) : Big z := ⟨h0, Int.lt_of_lt_of_le (show z < 256 by omega) (by decide +kernel)⟩
theorem big_dg {b : Int} (hb : b ≤ 256) {u : List Int} (h : Dg b u) (hl : u.length ≤ 4000) : BigL u := ⟨hl, fun z hz => big_dig hb (h z hz).1 (h z hz).2⟩
end K76
set_option exponentiation.threshold 2000
/-! A gate's state by the place in the scrap. -/
namespace K76
open PySem PySem.Spec PyProof.Rows L2
/-- the state of a gate that has read so much of a scrap -/
def St (b : Int) (u fnd : List Int) (k : Nat) : GF := (fnd ++ stks (b - 1) (grun (b - 1) g0 (u.take k)).1, (grun (b - 1) g0 (u.take k)).2.1, (grun (b - 1) g0 (u.take k)).2.2)
theorem St_zero (b : Int) (u fnd : List Int) : St b u fnd 0 = (fnd, none, none) := by
  unfold St
  rw [List.take_zero, grun_nil]
  show (fnd ++ [], none, none) = _
  rw [List.append_nil]
theorem run_bw (m : Int) (l : List Int) : (grun m g0 l).2.2 = some true → (grun m g0 l).2.1 ≠ none := by
  induction l using snoc_ind with
  | h0 => intro h; cases h
  | h1 l x ih =>
    rw [grun_snoc]
    generalize grun m g0 l = g at ih ⊢
    obtain ⟨bs, w, k⟩ := g
    unfold gst
    simp only at ih ⊢
    intro h
    by_cases hx : x = m
    · rw [if_pos hx]
      intro z
      cases z
    · rw [if_neg hx]
      cases k with
      | none =>
        simp only at h
        rw [decide_eq_false hx] at h
        cases h
      | some k =>
        have := ih h
        cases w with
        | none => exact absurd rfl this
        | some ws =>
          intro z
          cases z
theorem St_step {b : Int} {u fnd : List Int} {k k' : Nat} (h : k ≤ k') (h' : k' ≤ u.length) :
    (grun (b - 1) ([], (St b u fnd k).2.1, (St b u fnd k).2.2) ((u.take k').drop k)).1 = lf u k k' (mks (b - 1) 0 u) ∧
    (St b u fnd k).1 ++ stks (b - 1) (lf u k k' (mks (b - 1) 0 u)) = (St b u fnd k').1 ∧
    (grun (b - 1) ([], (St b u fnd k).2.1, (St b u fnd k).2.2) ((u.take k').drop k)).2 = (St b u fnd k').2 := by
  obtain ⟨e1, e2⟩ := part_run (b - 1) u h h'
  refine ⟨e1, ?_, ?_⟩
  · unfold St
    simp only
    rw [e2, e1, stks_append, List.append_assoc]
  · unfold St
    simp only
    rw [e2]
theorem lf_add {b : Int} {u : List Int} {x k k' : Nat} (h1 : x ≤ k) (h2 : k ≤ k') (h3 : k' ≤ u.length) : lf u x k' (mks (b - 1) 0 u) = lf u x k (mks (b - 1) 0 u) ++ lf u k k' (mks (b - 1) 0 u) := by
  have e1 := run_frames (b - 1) u x k' (by omega) h3
  have e2 := run_frames (b - 1) u x k h1 (by omega)
  have e3 := run_frames (b - 1) u k k' h2 h3
  rw [e2, e1, List.append_assoc] at e3
  exact List.append_cancel_left e3
/-- what holds of a scrap and what was found before it -/
structure Sk (b : Int) (u fnd : List Int) : Prop where
  sc : Sc b u
  b3 : 3 ≤ b
  b256 : b ≤ 256
  fl : fnd.length + u.length ≤ 4000
  bg : ∀ z ∈ fnd, Big z
section
variable {b : Int} {u fnd : List Int} {k k' : Nat}
theorem Sk.run (S : Sk b u fnd) (k : Nat) : RunOk (b - 1) (u.take k).length (grun (b - 1) g0 (u.take k)) := runOk (by rw [show b - 1 + 1 = b by omega]; exact S.sc.dg.take k)
theorem Sk.tl (u : List Int) (k : Nat) : (u.take k).length ≤ u.length := by
  rw [List.length_take]
  omega
theorem Sk.len (S : Sk b u fnd) : u.length ≤ 470 := S.sc.len S.b3
theorem Sk.wait (S : Sk b u fnd) (k : Nat) : ∀ w, (St b u fnd k).2.1 = some w → Dg (b - 1) w ∧ w.length ≤ 470 := fun w hw => by
  obtain ⟨h1, h2⟩ := (S.run k).wt w hw
  have := S.len
  have := Sk.tl u k
  exact ⟨h1, by omega⟩
theorem Sk.bw (k : Nat) : (St b u fnd k).2.2 = some true → (St b u fnd k).2.1 ≠ none := run_bw _ _
theorem Sk.gok (S : Sk b u fnd) (k : Nat) : GOk b (St b u fnd k).1 (St b u fnd k).2.1 (St b u fnd k).2.2 := by
  refine ⟨S.b3, S.b256, ?_, S.wait k, Sk.bw k⟩
  have h1 := (S.run k).len
  have h2 := Sk.tl u k
  have h3 := S.fl
  unfold St stks
  simp only
  rw [List.length_append, List.length_map]
  omega
theorem Sk.big (S : Sk b u fnd) (k : Nat) : BigL (St b u fnd k).1 := by
  refine ⟨(S.gok k).fl, fun z hz => ?_⟩
  rcases List.mem_append.mp hz with q | q
  · exact S.bg z q
  · exact sc_bigs S.sc S.b3 z q
theorem Sk.bigW (S : Sk b u fnd) (k : Nat) : ∀ ws, (St b u fnd k).2.1 = some ws → BigL ws := fun ws h => by
  obtain ⟨h1, h2⟩ := S.wait k ws h
  have := S.b256
  exact big_dg (b := b - 1) (by omega) h1 (by omega)
theorem Sk.lfb (S : Sk b u fnd) (h : k ≤ k') (h' : k' ≤ u.length) : BigL (stks (b - 1) (lf u k k' (mks (b - 1) 0 u))) := by
  refine ⟨?_, fun z hz => ?_⟩
  · unfold stks
    rw [List.length_map]
    have h1 := lf_len (l := u) (a := k) (b := k') (ms := mks (b - 1) 0 u)
    have h2 := mks_count (b - 1) u 0
    have := S.len
    omega
  · refine (S.big k').2 z ?_
    rw [← (St_step (fnd := fnd) (b := b) h h').2.1]
    exact List.mem_append_right _ hz
end
def spFeedU (C : Addr) : Sp := fun vs H Q _ => ∃ p A b u fnd k k' a, vs = [.ref p, .ref a] ∧ GateAt C H p A b (St b u fnd k).1 (St b u fnd k).2.1 (St b u fnd k).2.2 ∧ Sk b u fnd ∧ k ≤ k' ∧ k' ≤ u.length ∧ H a = some (.tup (zV ((u.take k').drop k))) ∧
  ∀ r H' A', Out A H H' → Grow A A' H → GateAt C H' p A' b (St b u fnd k').1 (St b u fnd k').2.1 (St b u fnd k').2.2 → H' r = some (.tup (zV (stks (b - 1) (lf u k k' (mks (b - 1) 0 u))))) → Q (.ref r) H'
theorem feedU (C : Addr) : ∀ vs H Q E, spFeedU C vs H Q E → spGFeed C vs H Q E := by
  rintro vs H Q E ⟨p, A, b, u, fnd, k, k', a, rfl, G, S, h1, h2, ha, q⟩
  obtain ⟨e1, e2, e3⟩ := St_step (fnd := fnd) (b := b) h1 h2
  refine ⟨p, A, b, _, _, _, a, _, rfl, G, S.gok k, ha, (S.sc.dg.take k').drop k, ?_, fun r H' A' o g G' er => ?_⟩
  · have := S.len
    rw [List.length_drop, List.length_take]
    omega
  · rw [e1] at er G'
    rw [e2, e3] at G'
    exact q r H' A' o g G' er
def wh (s : GF) : Bool := decide (s.2.2 = some true ∧ s.2.1 = some [])
theorem wh_whole (b : Int) (u fnd : List Int) (k : Nat) : wholeB (grun (b - 1) g0 (u.take k)) = wh (St b u fnd k) := rfl
/-- what stands at the list of a gate's row -/
structure Row (H : Hp) (r : Addr) (s : GF) (fr : Addr) (v : V) : Prop where
  l : H r = some (.lst [.ref fr, v, .bl (wh s)])
  f : H fr = some (.tup (zV s.1))
  w : WV H s.2.1 v
theorem Row.same {H H' : Hp} {r fr : Addr} {s : GF} {v : V} (R : Row H r s fr v) (S : Same H H') : Row H' r s fr v := ⟨S _ _ R.l, S _ _ R.f, R.w.same S⟩
theorem Row.dp {K : PySem.W.Frag} {H : Hp} {r fr : Addr} {s : GF} {v : V} (R : Row H r s fr v) : Dp K H (.ref r) (dS s.1 s.2.1 (wh s)) := dp_S R.l R.f R.w
theorem Wst.gateL {C : Addr} {b : Int} {H : Hp} {p q d : Addr} {A B D : List Addr} {s t : GF} {ls : List (Addr × List V)} (W : Wst C b H p q d A B D s t ls) {l : Addr} {xs : List V} (h : (l, xs) ∈ ls) : H l = some (.lst xs) := (W.ls _ h).1
def spAskU (C : Addr) : Sp := fun vs H Q _ => ∃ p A b s, vs = [.ref p] ∧ GateAt C H p A b s.1 s.2.1 s.2.2 ∧ (s.2.2 = some true → s.2.1 ≠ none) ∧ ∀ r fr v H', Same H H' → Row H' r s fr v → Q (.ref r) H'
theorem askU (C : Addr) : ∀ vs H Q E, spAskU C vs H Q E → spLAsked C vs H Q E := by
  rintro vs H Q E ⟨p, A, b, s, rfl, G, hb, k⟩
  exact ⟨p, A, b, _, _, _, rfl, G, hb, fun r fr v H' S h1 h2 h3 => k r fr v H' S ⟨h1, h2, h3⟩⟩
theorem nice_three {a c e : PyData} (ha : Nice 5412018 2 a) (hc : Nice 5412018 2 c) (he : Nice 5412018 2 e) : Nice sizeLine 60 (.list [a, c, e]) := by
  refine (nice_list (m := 5412018) (k := 2) (ds := [a, c, e]) fun d hd => ?_).mono (by show 3 * (5412018 + 2) + 3 ≤ sizeLine; decide) (by decide)
  simp only [List.mem_cons, List.not_mem_nil, or_false] at hd
  rcases hd with z | z | z <;> rw [z] <;> assumption
theorem nice_two {a c : PyData} (ha : Nice 5412018 2 a) (hc : Nice 5412018 2 c) : Nice sizeLine 60 (.list [a, c]) := by
  refine (nice_list (m := 5412018) (k := 2) (ds := [a, c]) fun d hd => ?_).mono (by show 2 * (5412018 + 2) + 3 ≤ sizeLine; decide) (by decide)
  simp only [List.mem_cons, List.not_mem_nil, or_false] at hd
  rcases hd with z | z <;> rw [z] <;> assumption
theorem Nice.up {d : PyData} (h : Nice 1804003 1 d) : Nice 5412018 2 d := h.mono (by decide) (by decide)
theorem Nice.top {d : PyData} (h : Nice 5412018 2 d) : Nice sizeLine 60 d := h.mono (by decide) (by decide)
end K76
set_option exponentiation.threshold 2000
/-! The law's feeding of the two gates. -/
namespace K76
open PySem PySem.Spec PyProof.Rows L2
/-- the place before the part i -/
def pvC (cs : List Nat) : Nat → Nat
  | 0 => 0
  | i + 1 => cs.getD i 0
theorem le_lastN {cs : List Nat} {n : Nat} (hp : cs.Pairwise (· ≤ ·)) (h : cs.getLast? = some n) : ∀ c ∈ cs, c ≤ n := by
  rcases nil_or_snoc cs with rfl | ⟨w, x, rfl⟩
  · cases h
  · rw [List.getLast?_append, List.getLast?_singleton] at h
    have e : x = n := Option.some.inj h
    intro c hc
    rcases List.mem_append.mp hc with z | z
    · rw [← e]
      exact (List.pairwise_append.mp hp).2.2 c z x (by simp)
    · rw [List.mem_singleton.mp z, e]
      exact Nat.le_refl _
theorem pvC_le {cs : List Nat} (hp : cs.Pairwise (· ≤ ·)) {i c : Nat} (h : cs[i]? = some c) : pvC cs i ≤ c := by
  cases i with
  | zero => exact Nat.zero_le _
  | succ i =>
    obtain ⟨h1, h2⟩ := List.getElem?_eq_some_iff.mp h
    have := (List.pairwise_iff_getElem.mp hp) i (i + 1) (by omega) h1 (by omega)
    show cs.getD i 0 ≤ c
    rw [List.getD_eq_getElem?_getD, List.getElem?_eq_getElem (by omega : i < cs.length)]
    rw [h2] at this
    exact this
theorem nz_mem {cs : List Nat} {i : Nat} {x : V} (h : (zV (nZ cs))[i]? = some x) : ∃ c : Nat, x = .int (c : Int) ∧ cs[i]? = some c := by
  obtain ⟨z, rfl, hz⟩ := zV_at h
  unfold nZ at hz
  rw [List.getElem?_map] at hz
  cases e : cs[i]? with
  | none =>
    rw [e] at hz
    cases hz
  | some c =>
    rw [e] at hz
    exact ⟨c, by rw [← Option.some.inj hz], rfl⟩
theorem drop_at {u : List Int} {x y j : Nat} {z : Int} (hy : y ≤ u.length) (h : ((u.take y).drop x)[j]? = some z) : x + j < y ∧ (u.take (x + j + 1)).drop (x + j) = [z] := by
  rw [List.getElem?_drop] at h
  obtain ⟨h1, h2⟩ := List.getElem?_eq_some_iff.mp h
  rw [List.length_take] at h1
  have hu : u[x + j]? = some z := by
    rw [List.getElem?_take] at h
    split at h
    · exact h
    · cases h
  refine ⟨by omega, ?_⟩
  rw [take_snoc hu, List.drop_append_of_le_length (by rw [List.length_take]; omega), List.drop_of_length_le (by rw [List.length_take]; omega), List.nil_append]
theorem new_of {H : Hp} {o : HO} {Q : VK} (h : ∀ p H', H p = none → Same H H' → H' p = some o → Q (.ref p) H') : ∀ p, H p = none → Q (.ref p) (upd H p o) := fun p hp => h p _ hp (same_new hp) upd_same
theorem WV.tps {H H' : Hp} {wait : Option (List Int)} {v : V} (s : Tps H H') (h : WV H wait v) : WV H' wait v := by
  rcases h with h | ⟨ws, r, h1, h2, h3⟩
  · exact .inl h
  · exact .inr ⟨ws, r, h1, h2, s _ _ h3⟩
/-- within a lap, behind so many parts -/
def FedI (C : Addr) (b : Int) (u fnd : List Int) (d gl dg p q : Addr) (H0 : Hp) (cs : List Nat) (ls1 : List (Addr × List V)) (i : Nat) (σ : L2.St) (H : Hp) : Prop :=
  ∃ (A B D : List Addr) (fr : Addr) (x : Nat) (o6 o7 o8 o9 o10 : Option V) (ls : List (Addr × List V)), σ = [some (.ref d), some (.int b), some (.ref gl), some (.ref dg), some (.ref fr), some (.int (x : Int)), o6, o7, o8, o9, o10, none] ∧
    Wst C b H p q d A B D (St b u fnd x) (St b u fnd x) ls ∧ (∀ z ∈ ls1, z ∈ ls) ∧ Tps H0 H ∧ H fr = some (.tup (zV (St b u fnd x).1)) ∧ x = pvC cs i ∧ x ≤ u.length ∧
    (i = 0 ∨ ∃ l v, o10 = some (.ref l) ∧ (l, [.ref fr, v, .bl (wh (St b u fnd x))]) ∈ ls ∧ WV H (St b u fnd x).2.1 v)
/-- within a part, behind so many of its digits -/
def FedJ (C : Addr) (b : Int) (u fnd : List Int) (d gl dg p q fr en : Addr) (A D : List Addr) (x y : Nat) (o10 : Option V) (H0 : Hp) (ls : List (Addr × List V)) (j : Nat) (σ : L2.St) (H : Hp) : Prop :=
  ∃ (B : List Addr) (sg : Addr) (o9 : Option V), σ = [some (.ref d), some (.int b), some (.ref gl), some (.ref dg), some (.ref fr), some (.int (x : Int)), some (.int (y : Int)), some (.ref en), some (.ref sg), o9, o10, none] ∧
    Wst C b H p q d A B D (St b u fnd y) (St b u fnd (x + j)) ls ∧ Tps H0 H ∧ H sg = some (.tup (zV (stks (b - 1) (lf u x (x + j) (mks (b - 1) 0 u))))) ∧ x + j ≤ y
/-- what a fed lap asks and leaves -/
def spLFed (C : Addr) : Sp := fun vs H Q _ => ∃ (d gl dg fr p q : Addr) (A B D : List Addr) (b : Int) (u fnd : List Int), vs = [.ref d, .int b, .ref gl, .ref dg, .ref fr] ∧
  Wst C b H p q d A B D (fnd, none, none) (fnd, none, none) [(gl, [.ref p, .ref q])] ∧ Sk b u fnd ∧ H dg = some (.tup (zV u)) ∧ H fr = some (.tup (zV fnd)) ∧
  ∀ H' A' B' D', Wst C b H' p q d A' B' D' ((St b u fnd u.length).1, none, none) ((St b u fnd u.length).1, none, none) [(gl, [.ref p, .ref q])] → Tps H H' → Q (.bl true) H'
section
variable {P : Program} {w : World} {K : PySem.W.Frag} {mg : Str → Option Value} {base : Heap} {C : Addr}
theorem scFed : FnScope ["_law_feed_here", "_law_base", "_law_gates", "_law_digits", "_law_frames_here", "_law_first", "_law_behind", "_law_ended", "_law_singly", "_law_digit", "_law_stands_here", "_law_bad"] ["_law_feed_here", "_law_base", "_law_gates", "_law_digits", "_law_frames_here"] (defScope sLFed) := ⟨rfl, rfl, rfl, by decide +kernel, rfl, by decide +kernel, by decide +kernel⟩
theorem bad_dig {H : Hp} {b : Int} {a : Addr} {xs : List V} (h : H a = some (.tup xs)) (hp : ∀ y ∈ xs, Pl H y) (hl : xs.length ≤ 5000) (hb : xs.all (digB b) = false) : DigR H b (.ref a) false := .inr ⟨a, xs, rfl, h, hp, hl, hb.symm⟩
theorem ok_fed (D : Df K mg "_law_fed" sLFed) (T : Bt mg) (X : Gx K mg C) (GS : CalG P w K mg base 1 "_law_same" ["_law_told", "_law_due"] (spLSame K)) (GP : Cal P w K mg base CX0 2 "_law_parts" ["_law_feed_here", "_law_digits"] spLParts)
    (GF : Cal P w K mg base CX0 2 "_law_frames" ["_law_base", "_law_digits", "_law_first", "_law_behind"] spLFrames) (GV : CalM P w K mg base CX0 7 C "feed" ["self", "digits"] (spGFeed C)) (GT : Cal P w K mg base CX0 2 "_law_stands" ["_law_base", "_law_digits", "_law_frames_here"] spLStands)
    (GK : Cal P w K mg base CX0 3 "_law_asked" ["_law_gate"] (spLAsked C)) (GA : Cal P w K mg base CX0 2 "_law_any" ["_law_feed_here", "_law_some"] spAny) (GR : Cal P w K mg base CX0 6 "_law_refused" ["_law_gate", "_law_digits"] (spLRefused C))
    (GG : CalM P w K mg base CX0 3 C "gap" ["self"] (spGGap C)) (GD : Cal P w K mg base CX0 1 "_law_draw" ["_law_feed_here", "_law_many"] spDraw) :
    CalG P w K mg base 8 "_law_fed" ["_law_feed_here", "_law_base", "_law_gates", "_law_digits", "_law_frames_here"] (spLFed C) := by
  obtain ⟨f, fd, F, g⟩ := D.ex
  have GV' : CalM P w K mg base CX0 7 C "feed" ["self", "digits"] (spFeedU C) := by
    obtain ⟨f, fd, F, r⟩ := GV.ex
    exact ⟨f, fd, F.imp (feedU C), r⟩
  have GK' := GK.imp (askU C)
  refine ⟨f, fd, okG F scFed (fun vs H Q E h => ?_) (fun cdv Ar outer s H vs Q E hgd hr h => ?_), g, F.kp, F.binds fun _ _ _ _ _ _ us hl => match us, hl with | [_, _, _, _, _], _ => rfl⟩
  · obtain ⟨d, gl, dg, fr, p, q, A, B, D, b, u, fnd, rfl, _⟩ := h
    rfl
  · obtain ⟨d, gl, dg, fr, p, q, A, B, D, b, u, fnd, rfl, W0, S, hdg, hfr, k⟩ := h
    refine ⟨_, pss_cons (ps_set (i := 5) scFed.nd rfl (Or.inl rfl) pe_int)
      (pss_cons (ps_for PassesOwn.never rfl (pi_list (pe_cl GP (hr.mono (by decide)) pass0 (pa_cons (pv 0) (pa_cons (pv 3) pa_nil)))) (pg_name (i := 6) scFed.nd rfl (Or.inl rfl))
        (pss_cons (ps_set (i := 7) scFed.nd rfl (Or.inl rfl) (pe_cl GF (hr.mono (by decide)) pass0 (pa_cons (pv 1) (pa_cons (pv 3) (pa_cons (pv 5) (pa_cons (pv 6) pa_nil))))))
        (pss_cons (ps_if (pt_not (pt_val (pe_clG hgd GS (hr.mono (by decide)) (pa_cons (pe_mt (pe_ix ix_list (pv 2) pe_int (fun _ _ => rfl)) X.cl GV' hr pass0 (pa_cons (pe_slice sl_tupA (pv 3) (po_some (pv 5)) (po_some (pv 6))) pa_nil)) (pa_cons (pv 7) pa_nil))))) (pss_one (ps_ret pe_bl)) pss_nil)
        (pss_cons (ps_set (i := 8) scFed.nd rfl (Or.inl rfl) (pe_tup pa_nil))
        (pss_cons (ps_for PassesOwn.never rfl (pi_tup (pe_slice sl_tupA (pv 3) (po_some (pv 5)) (po_some (pv 6)))) (pg_name (i := 9) scFed.nd rfl (Or.inl rfl))
          (pss_one (ps_set (i := 8) scFed.nd rfl (Or.inl rfl) (pe_op op_catA (pv 8) (pe_mt (pe_ix ix_list (pv 2) pe_int (fun _ _ => rfl)) X.cl GV' hr pass0 (pa_cons (pe_tup (pa_cons (pv 9) pa_nil)) pa_nil))))))
        (pss_cons (ps_par (by rfl) scFed.nd (i := 4) (j := 5) rfl rfl (by decide) rfl rfl (pa_cons (pe_op op_catA (pv 4) (pv 7)) (pa_cons (pv 6) pa_nil)) (by rfl))
        (pss_cons (ps_set (i := 10) scFed.nd rfl (Or.inl rfl) (pe_cl GT (hr.mono (by decide)) pass0 (pa_cons (pv 1) (pa_cons (pe_slice sl_tupA (pv 3) po_none (po_some (pv 6))) (pa_cons (pv 4) pa_nil)))))
        (pss_one (ps_if (pt_not (pt_val (pe_clG hgd GS (hr.mono (by decide)) (pa_cons
          (pe_lst (pa_cons (pv 8) (pa_cons (pe_cl GK' (hr.mono (by decide)) pass0 (pa_cons (pe_ix ix_list (pv 2) pe_int (fun _ _ => rfl)) pa_nil)) (pa_cons (pe_cl GK' (hr.mono (by decide)) pass0 (pa_cons (pe_ix ix_list (pv 2) pe_int (fun _ _ => rfl)) pa_nil)) pa_nil))))
          (pa_cons (pe_lst (pa_cons (pv 7) (pa_cons (pv 10) (pa_cons (pv 10) pa_nil)))) pa_nil))))) (pss_one (ps_ret pe_bl)) pss_nil)))))))))
      (pss_cons (ps_set (i := 11) scFed.nd rfl (Or.inl rfl) (pe_cl GA (hr.mono (by decide)) pass0 (pa_cons (pv 0) (pa_cons (pe_lst (pa_cons (pe_tup (pa_cons pe_int (pa_cons (pv 1) pa_nil))) (pa_cons (pe_lst (pa_cons pe_int pa_nil)) (pa_cons (pe_tup (pa_cons pe_bl pa_nil)) (pa_cons pe_non
          (pa_cons (pe_tup (pa_cons pe_int (pa_cons (pe_un un_neg pe_int) pa_nil))) (pa_cons pe_str (pa_cons pe_int (pa_cons (pe_tup (pa_cons (pe_tup (pa_cons pe_int pa_nil)) pa_nil)) pa_nil))))))))) pa_nil))))
      (pss_cons (ps_if (PW.pt (pw_or (pt_not (pt_val (pe_cl GR (hr.mono (by decide)) pass0 (pa_cons (pe_ix ix_list (pv 2) pe_int (fun _ _ => rfl)) (pa_cons (pv 11) pa_nil)))))
          (pw_or1 (pt_not (pt_val (pe_clG hgd GS (hr.mono (by decide)) (pa_cons (pe_cl GK' (hr.mono (by decide)) pass0 (pa_cons (pe_ix ix_list (pv 2) pe_int (fun _ _ => rfl)) pa_nil)) (pa_cons (pv 10) pa_nil)))))))) (pss_one (ps_ret pe_bl)) pss_nil)
      (pss_cons (ps_if (pt_not (pt_val (pe_clG hgd GS (hr.mono (by decide)) (pa_cons (pe_lst (pa_cons (pe_mt0 (pe_ix ix_list (pv 2) pe_int (fun _ _ => rfl)) X.cl GG (hr.mono (by decide)) pass0) (pa_cons (pe_mt0 (pe_ix ix_list (pv 2) pe_int (fun _ _ => rfl)) X.cl GG (hr.mono (by decide)) pass0) pa_nil)))
          (pa_cons (pe_lst (pa_cons (pe_ix ix_list (pv 10) pe_int (fun _ _ => rfl)) (pa_cons (pe_ix ix_list (pv 10) pe_int (fun _ _ => rfl)) pa_nil))) pa_nil))))) (pss_one (ps_ret pe_bl)) pss_nil)
      (C8.pss_cut (ps_if (PW.pt (pw_and (pt_cmpR op_eq (pe_cl GD (hr.mono (by decide)) pass0 (pa_cons (pv 0) (pa_cons pe_int pa_nil))) pe_int (nomark _))
          (pw_and1 (pt_cmpR op_notN (pe_mt0 (pe_ix ix_list (pv 2) pe_int (fun _ _ => rfl)) X.cl GG (hr.mono (by decide)) pass0) pe_non (nomark _))))) (pss_one (ps_ret pe_bl)) pss_nil)
      (pss_one (ps_ret (pe_clG hgd GS (hr.mono (by decide)) (pa_cons (pe_lst (pa_cons (pe_cl GK' (hr.mono (by decide)) pass0 (pa_cons (pe_ix ix_list (pv 2) pe_int (fun _ _ => rfl)) pa_nil)) (pa_cons (pe_cl GK' (hr.mono (by decide)) pass0 (pa_cons (pe_ix ix_list (pv 2) pe_int (fun _ _ => rfl)) pa_nil)) pa_nil)))
        (pa_cons (pe_op op_rep (pe_lst (pa_cons (pe_lst (pa_cons (pv 4) (pa_cons pe_non (pa_cons pe_bl pa_nil)))) pa_nil)) pe_int) pa_nil)))))))))), ?_⟩
    refine ⟨_, rfl, _, rfl, d, D, dg, u, rfl, W0.fd, hdg, S.len, fun r H1 D1 cs S1 e1 n1 n1' hpw hlast hlen => ?_⟩
    have W1 : Wst C b H1 p q d A B D1 (fnd, none, none) (fnd, none, none) [(gl, [.ref p, .ref q])] := W0.feed S1.1 S1.2.1 S1.2.2
    have T1 : Tps H H1 := W0.tF S1.1
    have nA : r ∉ A ∧ r ∉ B ∧ r ∉ D1 := by
      refine ⟨fun z => ?_, fun z => ?_, n1⟩
      · rcases n1' with e | e
        · exact W0.ad r z e
        · exact gate_dom W0.g0 r z e
      · rcases n1' with e | e
        · exact W0.bd r z e
        · exact gate_dom W0.g1 r z e
    have W1' := W1.add e1 nA
    have hcl := le_lastN hpw hlast
    have mgl : (gl, [V.ref p, .ref q]) ∈ (r, zV (nZ cs)) :: [(gl, [V.ref p, .ref q])] := List.mem_cons_of_mem _ List.mem_cons_self
    refine ⟨r, rfl, ⟨_, SqL.of e1⟩, for_list (K := K) (a := r) (xs := zV (nZ cs)) (FedI C b u fnd d gl dg p q H cs ((r, zV (nZ cs)) :: [(gl, [.ref p, .ref q])]))
      ⟨A, B, D1, fr, 0, none, none, none, none, none, _, rfl, by rw [St_zero]; exact W1', fun _ h => h, T1, by rw [St_zero]; exact T1 _ _ hfr, rfl, Nat.zero_le _, .inl rfl⟩ (fun i σ H' _ q => ?_) ?_ ?_⟩
    · obtain ⟨_, _, _, _, _, _, _, _, _, _, _, _, W2, hs2, _⟩ := q
      exact SqL.of (W2.gateL (hs2 _ List.mem_cons_self))
    · rintro i x0 σ H2 hi ⟨A2, B2, D2, fr2, x, o6, o7, o8, o9, o10, ls, rfl, W2, hs2, t2, e2, hx, hxl, _⟩
      obtain ⟨y, rfl, hy⟩ := nz_mem hi
      have hxy : x ≤ y := by
        rw [hx]
        exact pvC_le hpw hy
      have hyl : y ≤ u.length := hcl y (List.mem_of_getElem? hy)
      have mg2 := hs2 _ mgl
      refine ⟨_, rfl, _, rfl, _, rfl, _, rfl, b, dg, u, x, y, rfl, S.b3, S.b256, t2 _ _ hdg, S.len, fun en H3 s3 e3 => ?_⟩
      have W3 := W2.same s3
      obtain ⟨dx, l, wv, g1, g2, g3⟩ := id W3.g0.ex
      refine ⟨_, rfl, gl, _, 0, _, rfl, rfl, SqL.of (W3.gateL mg2), atI_nat (j := 0) rfl, p, dx, _, rfl, g1, lk_feed, _, rfl, _, rfl, _, rfl, _, rfl, _, rfl, ?_⟩
      refine cut_to (s3 _ _ (t2 _ _ hdg)) (cut_both hxy hyl) fun sl H4 s4 e4 => ?_
      refine ⟨p, A2, b, u, fnd, x, y, sl, rfl, (W3.same s4).g0, S, hxy, hyl, e4, fun r5 H5 A5 o5 gr5 G5 e5 => ?_⟩
      have W5 := (W3.same s4).gate (s' := St b u fnd y) o5 gr5 G5
      have t5 : Tps H3 H5 := (Tps.of s4).trans ((W3.same s4).tG o5)
      have en5 := t5 _ _ e3
      refine ⟨_, rfl, r5, en, _, rfl, dp_T e5, dp_T en5, (nice_dT (S.lfb hxy hyl)).up.top, true, rfl, ?_⟩
      refine iteF ?_
      refine ⟨Nat.zero_le _, fun sg hsg => ?_⟩
      have s6 := same_new (o := .tup []) hsg
      have e6 : (upd H5 sg (.tup [])) sg = some (.tup []) := upd_same
      generalize upd H5 sg (.tup []) = H6 at s6 e6 ⊢
      have W6 := W5.same s6
      have t6 : Tps H3 H6 := t5.trans (Tps.of s6)
      refine ⟨_, rfl, _, rfl, _, rfl, _, rfl, _, rfl, ?_⟩
      refine cut_to (t6 _ _ (s3 _ _ (t2 _ _ hdg))) (cut_both hxy hyl) fun sl2 H7 s7 e7 => ?_
      have hln : x + (zV ((u.take y).drop x)).length = y := by
        rw [zV_len, List.length_drop, List.length_take]
        omega
      refine ⟨sl2, rfl, ⟨_, SqT.of e7⟩, for_tup (K := K) (a := sl2) (xs := zV ((u.take y).drop x)) (FedJ C b u fnd d gl dg p q fr2 en A5 D2 x y o10 H7 ls)
        ⟨B2, sg, o9, rfl, W6.same s7, Tps.refl _, ?_, hxy⟩ (fun j σ H' _ q => ?_) ?_ ?_⟩
      · rw [s7 _ _ e6]
        have e : lf u x (x + 0) (mks (b - 1) 0 u) = [] := lf_empty fun c _ => by omega
        rw [e]
        rfl
      · obtain ⟨_, _, _, _, _, t8, _⟩ := q
        exact SqT.of (t8 _ _ e7)
      · rintro j z0 σ H8 hj ⟨B3, sg3, o9, rfl, W8, t8, e8, hj8⟩
        obtain ⟨z, rfl, hz⟩ := zV_at hj
        obtain ⟨hlt, hone⟩ := drop_at hyl hz
        obtain ⟨dx1, l1, wv1, h1, h2, h3⟩ := id W8.g1.ex
        refine ⟨_, rfl, _, rfl, gl, _, 1, _, rfl, rfl, SqL.of (W8.gateL mg2), atI_nat (j := 1) rfl, q, dx1, _, rfl, h1, lk_feed, _, rfl, (by show 1 ≤ sizeLine; decide), fun t ht => ?_⟩
        have s9 := same_new (o := .tup [.int z]) ht
        have e9 : (upd H8 t (.tup [.int z])) t = some (.tup [.int z]) := upd_same
        generalize upd H8 t (.tup [.int z]) = H9 at s9 e9 ⊢
        refine ⟨q, B3, b, u, fnd, x + j, x + j + 1, t, rfl, (W8.same s9).g1, S, by omega, by omega, by rw [hone]; exact e9, fun r9 H10 B9 o9' gr9 G9 e10 => ?_⟩
        have W10 := ((W8.same s9).swap.gate (s' := St b u fnd (x + j + 1)) o9' gr9 G9).swap
        have t10 : Tps H8 H10 := (Tps.of s9).trans ((W8.same s9).swap.tG o9')
        have n1 := (S.lfb (k := x) (k' := x + j) (by omega) (by omega)).1
        have n2 := (S.lfb (k := x + j) (k' := x + j + 1) (by omega) (by omega)).1
        refine cat_to (t10 _ _ e8) e10 (by omega) fun r11 H11 s11 e11 => ?_
        refine ⟨B9, r11, some (.int z), rfl, W10.same s11, t8.trans (t10.trans (Tps.of s11)), ?_, by omega⟩
        rw [e11, ← stks_append, ← lf_add (b := b) (by omega) (by omega) (by omega)]
        rfl
      · rintro σ H8 ⟨B3, sg3, o9, rfl, W8, t8, e8, _⟩
        rw [hln] at W8 e8
        have t38 : Tps H3 H8 := t6.trans ((Tps.of s7).trans t8)
        have en8 := t38 _ _ e3
        have b1 := (S.big x).1
        have b2 := (S.lfb hxy hyl).1
        refine ⟨_, rfl, _, rfl, ?_⟩
        refine cat_to (t38 _ _ (s3 _ _ e2)) en8 (by omega) fun fr9 H9 s9 e9 => ?_
        rw [(St_step hxy hyl).2.1] at e9
        refine ⟨_, rfl, _, _, rfl, ?_⟩
        refine ⟨_, rfl, _, rfl, _, rfl, _, rfl, ?_⟩
        refine cut_to (s9 _ _ (t38 _ _ (s3 _ _ (t2 _ _ hdg)))) (cut_take hyl) fun tk H10 s10 e10 => ?_
        have W10 := (W8.same s9).same s10
        refine ⟨_, rfl, b, tk, fr9, u.take y, rfl, S.b3, e10, Nat.le_trans (Sk.tl u y) S.len, fun st v H11 hst s11 e11 hv => ?_⟩
        have W11 := (W10.same s11).add e11 (W10.fresh hst)
        have mg11 := List.mem_cons_of_mem (st, [V.ref fr9, v, .bl (wholeB (grun (b - 1) g0 (u.take y)))]) mg2
        have RS : Row H11 st (St b u fnd y) fr9 v := ⟨e11, s11 _ _ (s10 _ _ e9), hv⟩
        refine ⟨_, rfl, _, rfl, gl, _, 0, _, rfl, rfl, SqL.of (W11.gateL mg11), atI_nat (j := 0) rfl, p, A5, b, St b u fnd y, rfl, W11.g0, Sk.bw y, fun r0 fr0 v0 H12 s12 R0 => ?_⟩
        have W12 := W11.same s12
        refine ⟨_, rfl, gl, _, 1, _, rfl, rfl, SqL.of (W12.gateL mg11), atI_nat (j := 1) rfl, q, B3, b, St b u fnd y, rfl, W12.g1, Sk.bw y, fun r1 fr1 v1 H13 s13 R1 => ?_⟩
        refine ⟨(by show 3 ≤ sizeLine; decide), fun t1 ht1 => ?_⟩
        have s14 := same_new (o := .lst [.ref sg3, .ref r0, .ref r1]) ht1
        have e14 : (upd H13 t1 (.lst [.ref sg3, .ref r0, .ref r1])) t1 = some (.lst [.ref sg3, .ref r0, .ref r1]) := upd_same
        generalize upd H13 t1 (.lst [.ref sg3, .ref r0, .ref r1]) = H14 at s14 e14 ⊢
        refine ⟨_, rfl, _, rfl, _, rfl, (by show 3 ≤ sizeLine; decide), fun t2' ht2 => ?_⟩
        have s15 := same_new (o := .lst [.ref en, .ref st, .ref st]) ht2
        have e15 : (upd H14 t2' (.lst [.ref en, .ref st, .ref st])) t2' = some (.lst [.ref en, .ref st, .ref st]) := upd_same
        generalize upd H14 t2' (.lst [.ref en, .ref st, .ref st]) = H15 at s15 e15 ⊢
        have s1115 : Same H11 H15 := s12.trans (s13.trans (s14.trans s15))
        have s915 : Same H9 H15 := s10.trans (s11.trans s1115)
        have W15 := W11.same s1115
        refine ⟨t1, t2', .list [dT (stks (b - 1) (lf u x y (mks (b - 1) 0 u))), dS (St b u fnd y).1 (St b u fnd y).2.1 (wh (St b u fnd y)), dS (St b u fnd y).1 (St b u fnd y).2.1 (wh (St b u fnd y))], rfl, ?_, ?_, ?_, true, rfl, ?_⟩
        · exact .lst (SqL.of (s15 _ _ e14)) (.cons (dp_T (s915 _ _ (s9 _ _ e8))) (.cons (R0.same (s13.trans (s14.trans s15))).dp (.cons (R1.same (s14.trans s15)).dp .nil)))
        · exact .lst (SqL.of e15) (.cons (dp_T (s915 _ _ (s9 _ _ en8))) (.cons (RS.same s1115).dp (.cons (RS.same s1115).dp .nil)))
        · exact nice_three (nice_dT (S.lfb hxy hyl)).up (nice_dS (S.big y) (S.bigW y)) (nice_dS (S.big y) (S.bigW y))
        · refine iteF ?_
          refine ⟨A5, B3, D2, fr9, y, some (.int (y : Int)), some (.ref en), some (.ref sg3), o9, some (.ref st), _, rfl, W15, fun z hz => List.mem_cons_of_mem _ (hs2 z hz), ?_, s915 _ _ e9, ?_, hyl, .inr ⟨st, v, rfl, List.mem_cons_self, (RS.same s1115).w⟩⟩
          · exact t2.trans ((Tps.of s3).trans (t38.trans ((Tps.of s9).trans (Tps.of s915))))
          · show y = cs.getD i 0
            rw [List.getD_eq_getElem?_getD, hy]
            rfl
    · rintro σ H2 ⟨A2, B2, D2, fr2, x, o6, o7, o8, o9, o10, ls, rfl, W2, hs2, t2, e2, hx, hxl, h0⟩
      have hcs : ∃ n, cs.length = n + 1 ∧ cs[n]? = some u.length := by
        rcases nil_or_snoc cs with e | ⟨w', c, e⟩
        · rw [e] at hlast
          cases hlast
        · rw [e] at hlast ⊢
          rw [List.getLast?_append, List.getLast?_singleton] at hlast
          refine ⟨w'.length, by rw [List.length_append, List.length_singleton], ?_⟩
          rw [List.getElem?_append_right (Nat.le_refl _), Nat.sub_self]
          exact hlast
      obtain ⟨n, hn1, hn2⟩ := hcs
      have hxu : x = u.length := by
        rw [hx, nz_len, hn1]
        show cs.getD n 0 = u.length
        rw [List.getD_eq_getElem?_getD, hn2]
        rfl
      have hi0 : (zV (nZ cs)).length ≠ 0 := by
        rw [nz_len, hn1]
        omega
      obtain ⟨l, v, rfl, hl, hv⟩ := h0.resolve_left hi0
      clear hx h0
      subst hxu
      have mg2 := hs2 _ mgl
      have hgok := S.gok u.length
      have hbig := S.big u.length
      have hbigW := S.bigW u.length
      have hbw := Sk.bw (b := b) (u := u) (fnd := fnd) u.length
      generalize hst : St b u fnd u.length = s at *
      refine ⟨_, rfl, _, rfl, (by show 2 ≤ sizeLine; decide), fun ta hta => ?_⟩
      have sa := same_new (H := H2) (o := .tup [.int 0, .int b]) hta
      have ea : (upd H2 ta (.tup [.int 0, .int b])) ta = some (.tup [.int 0, .int b]) := upd_same
      generalize upd H2 ta (.tup [.int 0, .int b]) = Ha at sa ea ⊢
      refine ⟨(by show 1 ≤ sizeLine; decide), fun la hla => ?_⟩
      have sb := same_new (H := Ha) (o := .lst [.int 0]) hla
      have eb : (upd Ha la (.lst [.int 0])) la = some (.lst [.int 0]) := upd_same
      generalize upd Ha la (.lst [.int 0]) = Hb at sb eb ⊢
      refine ⟨(by show 1 ≤ sizeLine; decide), fun tb htb => ?_⟩
      have sc := same_new (H := Hb) (o := .tup [.bl true]) htb
      have ec : (upd Hb tb (.tup [.bl true])) tb = some (.tup [.bl true]) := upd_same
      generalize upd Hb tb (.tup [.bl true]) = Hc at sc ec ⊢
      refine ⟨_, rfl, (by show 2 ≤ sizeLine; decide), fun tc htc => ?_⟩
      have sd := same_new (H := Hc) (o := .tup [.int 0, .int (-1)]) htc
      have ed : (upd Hc tc (.tup [.int 0, .int (-1)])) tc = some (.tup [.int 0, .int (-1)]) := upd_same
      generalize upd Hc tc (.tup [.int 0, .int (-1)]) = Hd at sd ed ⊢
      refine ⟨(by show 1 ≤ sizeLine; decide), fun td htd => ?_⟩
      have se := same_new (H := Hd) (o := .tup [.int 0]) htd
      have ee : (upd Hd td (.tup [.int 0])) td = some (.tup [.int 0]) := upd_same
      generalize upd Hd td (.tup [.int 0]) = He at se ee ⊢
      refine ⟨(by show 1 ≤ sizeLine; decide), fun te hte => ?_⟩
      have sf := same_new (H := He) (o := .tup [.ref td]) hte
      have ef : (upd He te (.tup [.ref td])) te = some (.tup [.ref td]) := upd_same
      generalize upd He te (.tup [.ref td]) = Hf at sf ef ⊢
      refine ⟨(by show 8 ≤ sizeLine; decide), fun lb hlb => ?_⟩
      have sg := same_new (H := Hf) (o := .lst [.ref ta, .ref la, .ref tb, .non, .ref tc, .str "0", .int 0, .ref te]) hlb
      have eg : (upd Hf lb (.lst [.ref ta, .ref la, .ref tb, .non, .ref tc, .str "0", .int 0, .ref te])) lb = some (.lst [.ref ta, .ref la, .ref tb, .non, .ref tc, .str "0", .int 0, .ref te]) := upd_same
      generalize upd Hf lb (.lst [.ref ta, .ref la, .ref tb, .non, .ref tc, .str "0", .int 0, .ref te]) = Hg at sg eg ⊢
      have scg : Same Hc Hg := sd.trans (se.trans (sf.trans sg))
      have sag : Same Ha Hg := sb.trans (sc.trans scg)
      have W3g := W2.same (sa.trans sag)
      refine ⟨d, D2, lb, _, rfl, W3g.fd, eg, (fun z => feed_dom (W2.same (sa.trans (sb.trans (sc.trans (sd.trans (se.trans sf)))))).fd lb z hlb), by simp, (by show 8 ≤ 100; decide), fun x hx H3 D3 o3 g3 F3 => ?_⟩
      have W3 := W3g.feed o3 g3 F3
      have tg3 : Tps Hg H3 := W3g.tF o3
      have hdig : DigR H3 b x false := by
        have b3 := S.b3
        simp only [List.mem_cons, List.not_mem_nil, or_false] at hx
        rcases hx with e | e | e | e | e | e | e | e <;> rw [e]
        · refine bad_dig (tg3 _ _ (sag _ _ ea)) (fun y hy => ?_) (by show 2 ≤ 5000; decide) (by simp [digB])
          simp only [List.mem_cons, List.not_mem_nil, or_false] at hy
          rcases hy with e | e <;> rw [e] <;> exact True.intro
        · have h1 : H3 la = some (.lst [.int 0]) := o3 _ _ (sc.trans scg _ _ eb) fun z => feed_dom (W2.same sa).fd la z hla
          refine .inl ⟨.inl ⟨_, h1⟩, fun a xs e2 h2 => ?_, rfl⟩
          cases e2
          rw [h1] at h2
          cases h2
        · refine bad_dig (tg3 _ _ (scg _ _ ec)) (fun y hy => ?_) (by show 1 ≤ 5000; decide) rfl
          rw [List.mem_singleton.mp hy]
          exact True.intro
        · exact .inl ⟨True.intro, (fun a xs e2 => by cases e2), rfl⟩
        · refine bad_dig (tg3 _ _ (se.trans (sf.trans sg) _ _ ed)) (fun y hy => ?_) (by show 2 ≤ 5000; decide) (by simp [digB])
          simp only [List.mem_cons, List.not_mem_nil, or_false] at hy
          rcases hy with e | e <;> rw [e] <;> exact True.intro
        · exact .inl ⟨True.intro, (fun a xs e2 => by cases e2), rfl⟩
        · exact .inl ⟨True.intro, (fun a xs e2 => by cases e2), rfl⟩
        · refine bad_dig (tg3 _ _ (sg _ _ ef)) (fun y hy => ?_) (by show 1 ≤ 5000; decide) rfl
          rw [List.mem_singleton.mp hy]
          exact .inr ⟨_, tg3 _ _ (sf.trans sg _ _ ee)⟩
      refine ⟨_, rfl, gl, _, 0, _, rfl, rfl, SqL.of (W3.gateL mg2), atI_nat (j := 0) rfl, _, rfl, p, A2, b, _, _, _, x, rfl, W3.g0, hgok, hdig, fun H4 s4 => ⟨true, rfl, ?_⟩⟩
      refine iteF ?_
      have W4 := W3.same s4
      have t24 : Tps H2 H4 := (Tps.of (sa.trans sag)).trans (tg3.trans (Tps.of s4))
      have R4 : Row H4 l s fr2 v := ⟨W4.gateL hl, t24 _ _ e2, hv.tps t24⟩
      refine ⟨_, rfl, gl, _, 0, _, rfl, rfl, SqL.of (W4.gateL mg2), atI_nat (j := 0) rfl, p, A2, b, s, rfl, W4.g0, hbw, fun r0 fr0 v0 H5 s5 R0 => ?_⟩
      refine ⟨_, rfl, r0, l, _, rfl, R0.dp, (R4.same s5).dp, (nice_dS hbig hbigW).top, true, rfl, ?_⟩
      refine iteF ?_
      have W5 := W4.same s5
      have R5 := R4.same s5
      obtain ⟨dx, l0, wv, h1, h2, h3⟩ := id W5.g0.ex
      refine ⟨_, rfl, gl, _, 0, _, rfl, rfl, SqL.of (W5.gateL mg2), atI_nat (j := 0) rfl, p, dx, _, rfl, h1, lk_gap, p, A2, b, _, _, _, rfl, W5.g0, fun v6 H6 A6 o6' g6 G6 hv6 => ?_⟩
      have W6 := W5.gate (s' := (s.1, none, none)) o6' g6 G6
      have t56 : Tps H5 H6 := W5.tG o6'
      obtain ⟨dx1, l1, wv1, h11, h12, h13⟩ := id W6.g1.ex
      refine ⟨_, rfl, gl, _, 1, _, rfl, rfl, SqL.of (W6.gateL mg2), atI_nat (j := 1) rfl, q, dx1, _, rfl, h11, lk_gap, q, B2, b, _, _, _, rfl, W6.g1, fun v7 H7 B7 o7' g7 G7 hv7 => ?_⟩
      have W7 := (W6.swap.gate (s' := (s.1, none, none)) o7' g7 G7).swap
      have t67 : Tps H6 H7 := W6.swap.tG o7'
      refine ⟨(by show 2 ≤ sizeLine; decide), fun t6 ht6 => ?_⟩
      have s8 := same_new (H := H7) (o := .lst [v6, v7]) ht6
      have e8 : (upd H7 t6 (.lst [v6, v7])) t6 = some (.lst [v6, v7]) := upd_same
      generalize upd H7 t6 (.lst [v6, v7]) = H8 at s8 e8 ⊢
      have W8 := W7.same s8
      refine ⟨_, rfl, l, _, 1, _, rfl, rfl, SqL.of (W8.gateL hl), atI_nat (j := 1) rfl, _, rfl, l, _, 1, _, rfl, rfl, SqL.of (W8.gateL hl), atI_nat (j := 1) rfl, (by show 2 ≤ sizeLine; decide), fun t7 ht7 => ?_⟩
      have s9 := same_new (H := H8) (o := .lst [v, v]) ht7
      have e9 : (upd H8 t7 (.lst [v, v])) t7 = some (.lst [v, v]) := upd_same
      generalize upd H8 t7 (.lst [v, v]) = H9 at s9 e9 ⊢
      have W9 := W8.same s9
      have s79 : Same H7 H9 := s8.trans s9
      have t59 : Tps H5 H9 := t56.trans (t67.trans (Tps.of s79))
      have hv9 : WV H9 s.2.1 v := R5.w.tps t59
      refine ⟨t6, t7, .list [dW s.2.1, dW s.2.1], rfl, .lst (SqL.of (s9 _ _ e8)) (.cons (dp_W (hv6.tps (t67.trans (Tps.of s79)))) (.cons (dp_W (hv7.same s79)) .nil)), .lst (SqL.of e9) (.cons (dp_W hv9) (.cons (dp_W hv9) .nil)), nice_two (nice_dW hbigW).up (nice_dW hbigW).up, true, rfl, ?_⟩
      refine iteF ?_
      have t29 : Tps H2 H9 := t24.trans ((Tps.of s5).trans t59)
      refine ⟨fun σ' H' => σ' = [some (.ref d), some (.int b), some (.ref gl), some (.ref dg), some (.ref fr2), some (.int (u.length : Int)), o6, o7, o8, o9, some (.ref l), some x] ∧ ∃ A' D', Wst C b H' p q d A' B7 D' (s.1, none, none) (s.1, none, none) [(gl, [.ref p, .ref q])] ∧ Tps H9 H', ?_, ?_⟩
      · refine ⟨_, rfl, d, D3, 3, rfl, W9.fd, by decide, by decide, fun r8 H10 D8 r80 r81 o8' g8 F8 => ?_⟩
        have W10 := W9.feed o8' g8 F8
        have t10 : Tps H9 H10 := W9.tF o8'
        have sb2 : ∀ z ∈ [(gl, [V.ref p, .ref q])], z ∈ ls := fun z hz => by
          rw [List.mem_singleton.mp hz]
          exact mg2
        refine ⟨rfl, _, rfl, ite2 (fun _ => ?_) (fun _ => ?_)⟩
        · obtain ⟨dx2, l2, wv2, h21, h22, h23⟩ := id W10.g0.ex
          refine ⟨_, rfl, gl, _, 0, _, rfl, rfl, SqL.of (W10.gateL mg2), atI_nat (j := 0) rfl, p, dx2, _, rfl, h21, lk_gap, p, A6, b, _, _, _, rfl, W10.g0, fun v9 H11 A9 o9' g9 G9 hv9 => ?_⟩
          rcases hv9 with ⟨_, rfl⟩ | ⟨ws, r', hw, _⟩
          · refine ⟨rfl, _, rfl, ?_⟩
            refine iteF ?_
            exact ⟨rfl, A9, D8, (W10.gate (s' := (s.1, none, none)) o9' g9 G9).sub sb2, t10.trans (W10.tG o9')⟩
          · cases hw
        · refine iteF ?_
          exact ⟨rfl, A6, D8, W10.sub sb2, t10⟩
      · rintro σ' H10 ⟨rfl, A', D', W10, t10⟩
        have mg3 : (gl, [V.ref p, .ref q]) ∈ [(gl, [V.ref p, .ref q])] := List.mem_cons_self
        refine ⟨_, rfl, gl, _, 0, _, rfl, rfl, SqL.of (W10.gateL mg3), atI_nat (j := 0) rfl, p, A', b, (s.1, none, none), rfl, W10.g0, (fun z => by cases z), fun r0 fr0 v0 H11 s11 R0 => ?_⟩
        have W11 := W10.same s11
        refine ⟨_, rfl, gl, _, 1, _, rfl, rfl, SqL.of (W11.gateL mg3), atI_nat (j := 1) rfl, q, B7, b, (s.1, none, none), rfl, W11.g1, (fun z => by cases z), fun r1 fr1 v1 H12 s12 R1 => ?_⟩
        refine ⟨(by show 2 ≤ sizeLine; decide), fun t1 ht1 => ?_⟩
        have s13 := same_new (H := H12) (o := .lst [.ref r0, .ref r1]) ht1
        have e13 : (upd H12 t1 (.lst [.ref r0, .ref r1])) t1 = some (.lst [.ref r0, .ref r1]) := upd_same
        generalize upd H12 t1 (.lst [.ref r0, .ref r1]) = H13 at s13 e13 ⊢
        refine ⟨_, rfl, (by show 3 ≤ sizeLine; decide), fun tz ht2 => ?_⟩
        have s14 := same_new (H := H13) (o := .lst [.ref fr2, .non, .bl false]) ht2
        have e14 : (upd H13 tz (.lst [.ref fr2, .non, .bl false])) tz = some (.lst [.ref fr2, .non, .bl false]) := upd_same
        generalize upd H13 tz (.lst [.ref fr2, .non, .bl false]) = H14 at s14 e14 ⊢
        refine ⟨(by show 1 ≤ sizeLine; decide), fun t3 ht3 => ?_⟩
        have s15 := same_new (H := H14) (o := .lst [.ref tz]) ht3
        have e15 : (upd H14 t3 (.lst [.ref tz])) t3 = some (.lst [.ref tz]) := upd_same
        generalize upd H14 t3 (.lst [.ref tz]) = H15 at s15 e15 ⊢
        refine ⟨t3, 2, _, rfl, rfl, e15, by decide, by decide, (by show 1 * 2 ≤ sizeLine; decide), fun t4 ht4 => ?_⟩
        have s16 := same_new (H := H15) (o := .lst [.ref tz, .ref tz]) ht4
        have e16 : (upd H15 t4 (.lst [.ref tz, .ref tz])) t4 = some (.lst [.ref tz, .ref tz]) := upd_same
        show spLSame K [.ref t1, .ref t4] (upd H15 t4 (.lst [.ref tz, .ref tz])) Q E0
        generalize upd H15 t4 (.lst [.ref tz, .ref tz]) = H16 at s16 e16 ⊢
        have s1216 : Same H12 H16 := s13.trans (s14.trans (s15.trans s16))
        have s1016 : Same H10 H16 := s11.trans (s12.trans s1216)
        have tA : Tps H2 H16 := t29.trans (t10.trans (Tps.of s1016))
        have RF : Row H16 tz (s.1, none, none) fr2 .non := ⟨(s15.trans s16) _ _ e14, tA _ _ e2, .inl ⟨rfl, rfl⟩⟩
        refine ⟨t1, t4, .list [dS s.1 none (wh (s.1, none, none)), dS s.1 none (wh (s.1, none, none))], rfl, ?_, ?_, ?_, ?_⟩
        · exact .lst (SqL.of ((s14.trans (s15.trans s16)) _ _ e13)) (.cons (R0.same (s12.trans s1216)).dp (.cons (R1.same s1216).dp .nil))
        · exact .lst (SqL.of e16) (.cons RF.dp (.cons RF.dp .nil))
        · exact nice_two (nice_dS hbig fun ws z => by cases z) (nice_dS hbig fun ws z => by cases z)
        · exact k H16 A' B7 D' (W10.same s1016) (t2.trans tA)
end
end K76
set_option exponentiation.threshold 2000
/-! The law's reading of a scrap. -/
namespace K76
open PySem PySem.Spec PyProof.Rows L2
def spLIsRead : Sp := fun vs H Q _ => ∃ (b : Int) (dg fr : Addr) (u : List Int), vs = [.int b, .ref dg, .ref fr] ∧ Sk b u [] ∧ H dg = some (.tup (zV u)) ∧ H fr = some (.tup (zV (stks (b - 1) (grun (b - 1) g0 u).1))) ∧ ∀ H', Same H H' → Q (.bl true) H'
theorem stks_big {b : Int} {u : List Int} (S : Sk b u []) : BigL (stks (b - 1) (grun (b - 1) g0 u).1) := by
  have := S.big u.length
  unfold St at this
  rw [List.take_length, List.nil_append] at this
  exact this
theorem nz_big {ms : List Nat} (h : ms.length ≤ 4000) (h2 : ∀ n ∈ ms, n ≤ 4000) : BigL (nZ ms) := by
  refine ⟨by unfold nZ; rw [List.length_map]; exact h, fun z hz => ?_⟩
  obtain ⟨n, hn, rfl⟩ := List.mem_map.mp hz
  have := h2 n hn
  exact ⟨by omega, Int.lt_of_le_of_lt (show (n : Int) ≤ 4000 by omega) (by decide +kernel)⟩
theorem dg_mid {m c : Int} {ws : List (List Int)} (h : Dg c (mid m ws ++ [m])) : True := True.intro
section
variable {P : Program} {w : World} {K : PySem.W.Frag} {mg : Str → Option Value} {base : Heap} {C : Addr}
theorem scIsRead : FnScope ["_law_base", "_law_digits", "_law_frames_here", "_law_marks_here", "_law_inner", "_law_told", "_law_k"] ["_law_base", "_law_digits", "_law_frames_here"] (defScope sLIsRead) := ⟨rfl, rfl, rfl, by decide +kernel, rfl, by decide +kernel, by decide +kernel⟩
theorem ok_isRead (D : Df K mg "_law_is_read" sLIsRead) (T : Bt mg) (GS : CalG P w K mg base 1 "_law_same" ["_law_told", "_law_due"] (spLSame K)) (GM : Cal P w K mg base CX0 1 "_law_marks" ["_law_base", "_law_digits"] spLMarks)
    (GI : Cal P w K mg base CX0 7 "frames_in" ["base", "scrap"] spFramesIn) (GO : Cal P w K mg base CX0 5 "stream_of" ["base", "stacks"] spStreamOf) (GX : Cal P w K mg base CX0 6 "starts_of" ["base", "stream"] spStartsOf) :
    CalG P w K mg base 8 "_law_is_read" ["_law_base", "_law_digits", "_law_frames_here"] spLIsRead := by
  obtain ⟨f, fd, F, g⟩ := D.ex
  refine ⟨f, fd, okG F scIsRead (fun vs H Q E h => ?_) (fun cdv Ar outer s H vs Q E hgd hr h => ?_), g, F.kp, F.binds fun _ _ _ _ _ _ us hl => match us, hl with | [_, _, _], _ => rfl⟩
  · obtain ⟨b, dg, fr, u, rfl, _⟩ := h
    rfl
  · obtain ⟨b, dg, fr, u, rfl, S, hdg, hfr, k⟩ := h
    refine ⟨_, pss_cons (ps_set (i := 3) scIsRead.nd rfl (Or.inr rfl) (pe_cl GM (hr.mono (by decide)) pass0 (pa_cons (pv 0) (pa_cons (pv 1) pa_nil))))
      (pss_cons (ps_if (pt_not (pt_val (pe_clG hgd GS (hr.mono (by decide)) (pa_cons (pe_cl GI hr pass0 (pa_cons (pv 0) (pa_cons (pv 1) pa_nil))) (pa_cons (pe_callTy call_list_of (by rfl) T.list (by decide +kernel) (pa_cons (pv 2) pa_nil)) pa_nil))))) (pss_one (ps_ret pe_bl)) pss_nil)
      (pss_cons (ps_if (pt_cmpR (op_eqD hr.units) (pv 3) (pe_lst pa_nil) (nomark _)) (pss_one (ps_ret pe_bl)) pss_nil)
      (pss_cons (ps_set (i := 4) scIsRead.nd rfl (Or.inl rfl) (pe_slice sl_tupA (pv 1) (po_some (pe_ix ix_list (pv 3) pe_int (fun _ _ => rfl))) (po_some (pe_op op_add (pe_ix ix_list (pv 3) (pe_un un_neg pe_int) (fun _ _ => rfl)) pe_int))))
      (pss_cons (ps_set (i := 5) scIsRead.nd rfl (Or.inl rfl) (pe_lst (pa_cons (pe_cl GO (hr.mono (by decide)) pass0 (pa_cons (pv 0) (pa_cons (pv 2) pa_nil))) (pa_cons (pe_cl GX (hr.mono (by decide)) pass0 (pa_cons (pv 0) (pa_cons (pv 4) pa_nil))) pa_nil))))
      (pss_one (ps_ret (pe_clG hgd GS (hr.mono (by decide)) (pa_cons (pv 5) (pa_cons (pe_lst (pa_cons (pv 4) (pa_cons (pe_callTy call_tuple_of (by rfl) T.tuple (by decide +kernel) (pa_cons
        (pe_lc (own := [("_law_k", 6)]) (g := gName 6) (tt := tYes) rfl scIsRead.nd (pi_list (pv 3)) (blkOk_by (own := [("_law_k", 6)]) (N := ["_law_base", "_law_digits", "_law_frames_here", "_law_marks_here", "_law_inner", "_law_told", "_law_k"]) (sc := defScope sLIsRead) (by decide +kernel))
          (fun _ _ _ _ _ => pg_name (i := 6) scIsRead.nd rfl (Or.inl rfl)) (fun _ _ _ _ _ => pts_nil)
          (fun _ _ _ _ _ => pe_op op_sub (pv 6) (pe_ix (r := rIxL K) ix_list (pv 3) pe_int (fun _ _ => rfl)))) pa_nil)) pa_nil))) pa_nil))))))))), ?_⟩
    have b3 := S.b3
    have b256 := S.b256
    have hlen := S.len
    refine ⟨_, rfl, _, rfl, b, dg, u, rfl, b3, hdg, hlen, fun r H1 s1 e1 => ?_⟩
    refine ⟨_, rfl, _, rfl, b, dg, u, rfl, b3, b256, s1 _ _ hdg, S.sc.dg, hlen, fun r2 H2 s2 e2 => ?_⟩
    have s02 : Same H H2 := s1.trans s2
    refine ⟨_, rfl, fr, _, rfl, .inr (SqT.of (s02 _ _ hfr)), fun l3 hl3 => ?_⟩
    have s3 := same_new (H := H2) (o := .lst (zV (stks (b - 1) (grun (b - 1) g0 u).1))) hl3
    have e3 : (upd H2 l3 (.lst (zV (stks (b - 1) (grun (b - 1) g0 u).1)))) l3 = some (.lst (zV (stks (b - 1) (grun (b - 1) g0 u).1))) := upd_same
    generalize upd H2 l3 (.lst (zV (stks (b - 1) (grun (b - 1) g0 u).1))) = H3 at s3 e3 ⊢
    refine ⟨r2, l3, _, rfl, dp_L (s3 _ _ e2), dp_L e3, (nice_lst (stks_big S)).up.top, true, rfl, ?_⟩
    refine iteF ?_
    have s03 := s02.trans s3
    have e1' : H3 r = some (.lst (zV (nZ (mks (b - 1) 0 u)))) := s3 _ _ (s2 _ _ e1)
    refine ⟨_, rfl, Nat.zero_le _, fun l4 hl4 => ?_⟩
    have s4 := same_new (H := H3) (o := .lst []) hl4
    refine eq_nil (s4 _ _ e1') upd_same ⟨_, rfl, ?_⟩
    generalize upd H3 l4 (.lst []) = H4 at s4 ⊢
    have s04 := s03.trans s4
    rcases parts_of (b - 1) u with ⟨_, _, hno⟩ | ⟨a, z, _, P'⟩
    · rw [mks_none hno]
      refine iteT ?_
      exact k H4 s04
    · have hms := P'.marks
      have hin := P'.inner
      have hml := mid_len P'
      have hmd := mid_dg P' S.sc.dg
      have hfst := P'.first
      have hlst := P'.last
      have RO := runOk (m := b - 1) (l := u) (by rw [show b - 1 + 1 = b by omega]; exact S.sc.dg)
      have hrd := RO.dg
      have hrl := RO.len
      clear RO
      have hbig := stks_big S
      generalize (grun (b - 1) g0 u).1 = ws at *
      generalize hmm : mks (b - 1) 0 u = ms at *
      have hne : ms ≠ [] := by
        intro e
        rw [e] at hfst
        cases hfst
      have hne2 : (nZ ms).isEmpty = false := by
        cases ms with
        | nil => exact absurd rfl hne
        | cons _ _ => rfl
      rw [hne2]
      refine iteF ?_
      have e4 := s4 _ _ e1'
      have h0 : ms[0]? = some a.length := by rw [← List.head?_eq_getElem?]; exact hfst
      have hlast : atI (zV (nZ ms)) (-1) = some (.int ((a.length + (mid (b - 1) ws).length : Nat) : Int)) := by
        rcases nil_or_snoc ms with e | ⟨ys, c, e⟩
        · exact absurd e hne
        · rw [e] at hlst ⊢
          rw [List.getLast?_append, List.getLast?_singleton] at hlst
          rw [show c = a.length + (mid (b - 1) ws).length from Option.some.inj hlst]
          unfold nZ zV
          rw [List.map_append, List.map_append]
          exact atI_last _ _
      refine ⟨_, rfl, _, rfl, r, _, 0, _, rfl, rfl, SqL.of e4, atI_nat (j := 0) (nz_at h0), _, rfl, _, rfl, _, rfl, r, _, _, _, rfl, rfl, SqL.of e4, hlast, _, _, rfl, rfl, _, rfl, ?_⟩
      have hcut : cutV (zV u) (some ((a.length : Nat) : Int)) (some ((a.length + (mid (b - 1) ws).length + 1 : Nat) : Int)) = zV (mid (b - 1) ws ++ [b - 1]) := by
        rw [cut_both (by omega) (by omega), List.drop_take, hin]
      refine cut_to (s04 _ _ hdg) hcut fun ir H5 s5 e5 => ?_
      have s05 := s04.trans s5
      have hmid : (mid (b - 1) ws ++ [b - 1]).length ≤ 470 := by
        rw [List.length_append, List.length_singleton]
        omega
      refine ⟨_, rfl, _, rfl, b, fr, ws, rfl, b3, b256, s05 _ _ hfr, (fun v hv => ⟨(hrd v hv).1, Nat.le_trans (hrd v hv).2 (by omega)⟩), Nat.le_trans hrl (by omega), fun r6 H6 s6 e6 => ?_⟩
      refine ⟨_, rfl, _, rfl, b, ir, mid (b - 1) ws ++ [b - 1], rfl, b3, b256, s6 _ _ e5, hmd, by omega, ?_, ?_, fun r7 H7 s7 e7 => ?_⟩
      · obtain ⟨rr, hrr⟩ := mid_head (b - 1) ws
        rw [hrr]
        rfl
      · rw [List.getLast?_append, List.getLast?_singleton]
        rfl
      · refine ⟨(by show 2 ≤ sizeLine; decide), fun l8 hl8 => ?_⟩
        have s8 := same_new (H := H7) (o := .lst [.ref r6, .ref r7]) hl8
        have e8 : (upd H7 l8 (.lst [.ref r6, .ref r7])) l8 = some (.lst [.ref r6, .ref r7]) := upd_same
        generalize upd H7 l8 (.lst [.ref r6, .ref r7]) = H8 at s8 e8 ⊢
        have s58 : Same H5 H8 := s6.trans (s7.trans s8)
        have r8 : H8 r = some (.lst (zV (nZ ms))) := s58 _ _ (s5 _ _ e4)
        refine ⟨_, rfl, _, rfl, _, rfl, r, rfl, ⟨_, SqL.of r8⟩, fun Dl hDl => lc_list (K := K) (a := r) (xs := zV (nZ ms)) (fun i H' => Same H8 H' ∧ H' Dl = some (.lst (zV (nZ ((mks (b - 1) 0 (mid (b - 1) ws ++ [b - 1])).take i))))) ⟨same_new hDl, upd_same⟩ (fun i H' _ q => SqL.of (q.1 _ _ r8)) ?_ ?_⟩
        · rintro i x H9 hi ⟨s9, e9⟩
          obtain ⟨c, rfl, hc⟩ := nz_mem hi
          rw [hms, List.getElem?_map] at hc
          obtain ⟨c0, hc0⟩ : ∃ c0, (mks (b - 1) 0 (mid (b - 1) ws ++ [b - 1]))[i]? = some c0 := by
            cases q : (mks (b - 1) 0 (mid (b - 1) ws ++ [b - 1]))[i]? with
            | none =>
              rw [q] at hc
              cases hc
            | some c0 => exact ⟨c0, rfl⟩
          rw [hc0] at hc
          have hc' : c0 + a.length = c := Option.some.inj hc
          refine ⟨rfl, ?_⟩
          refine ⟨_, rfl, _, rfl, r, _, 0, _, rfl, rfl, SqL.of (s9 _ _ r8), atI_nat (j := 0) (nz_at h0), _, _, rfl, rfl, _, e9, ?_, same_upd s9 hDl, ?_⟩
          · rw [nz_len, List.length_take]
            have h1 := mks_count (b - 1) (mid (b - 1) ws ++ [b - 1]) 0
            exact line5000 (by omega)
          · rw [upd_same, take_snoc hc0]
            have e : ((c : Int) - (a.length : Int)) = (c0 : Int) := by omega
            unfold nZ zV
            rw [List.map_append, List.map_append]
            exact congrArg (fun t => some (HO.lst (_ ++ [V.int t]))) e
        · rintro H9 ⟨s9, e9⟩
          rw [nz_len] at e9
          have hml2 : ms.length = (mks (b - 1) 0 (mid (b - 1) ws ++ [b - 1])).length := by rw [hms, List.length_map]
          rw [hml2, List.take_length] at e9
          refine ⟨Dl, _, rfl, .inl ⟨SqL.of e9, fun t10 ht10 => ?_⟩⟩
          have s10 := same_new (H := H9) (o := .tup (zV (nZ (mks (b - 1) 0 (mid (b - 1) ws ++ [b - 1]))))) ht10
          have e10 : (upd H9 t10 (.tup (zV (nZ (mks (b - 1) 0 (mid (b - 1) ws ++ [b - 1])))))) t10 = some (.tup (zV (nZ (mks (b - 1) 0 (mid (b - 1) ws ++ [b - 1]))))) := upd_same
          generalize upd H9 t10 (.tup (zV (nZ (mks (b - 1) 0 (mid (b - 1) ws ++ [b - 1]))))) = H10 at s10 e10 ⊢
          refine ⟨(by show 2 ≤ sizeLine; decide), fun l11 hl11 => ?_⟩
          have s11 := same_new (H := H10) (o := .lst [.ref ir, .ref t10]) hl11
          have e11 : (upd H10 l11 (.lst [.ref ir, .ref t10])) l11 = some (.lst [.ref ir, .ref t10]) := upd_same
          generalize upd H10 l11 (.lst [.ref ir, .ref t10]) = H11 at s11 e11 ⊢
          have s811 : Same H8 H11 := s9.trans (s10.trans s11)
          have bm : BigL (nZ (mks (b - 1) 0 (mid (b - 1) ws ++ [b - 1]))) := nz_big (Nat.le_trans (mks_count _ _ 0) (by omega)) fun n hn => by
            have := mks_lt hn
            omega
          have bi : BigL (mid (b - 1) ws ++ [b - 1]) := big_dg b256 hmd (by omega)
          refine ⟨l8, l11, .list [dT (mid (b - 1) ws ++ [b - 1]), dT (nZ (mks (b - 1) 0 (mid (b - 1) ws ++ [b - 1])))], rfl, ?_, ?_, nice_two (nice_dT bi).up (nice_dT bm).up, ?_⟩
          · exact .lst (SqL.of (s811 _ _ e8)) (.cons (dp_T (s811 _ _ (s8 _ _ (s7 _ _ e6)))) (.cons (dp_T (s811 _ _ (s8 _ _ e7))) .nil))
          · exact .lst (SqL.of e11) (.cons (dp_T (s811 _ _ (s58 _ _ e5))) (.cons (dp_T (s11 _ _ e10)) .nil))
          · exact k H11 (s05.trans (s58.trans s811))
end
end K76
set_option exponentiation.threshold 2000
/-! The law. -/
namespace K76
open PySem PySem.Spec PyProof.Rows L2
structure MkG (P : Program) (w : World) (K : PySem.W.Frag) (mg : Str → Option Value) (base : Heap) (C : Addr) : Prop where
  ex : ∃ (f : Addr) (fd : FuncData), FnOk P w K mg base CX0 4 f fd ["self", "base"] (spGInit C) ∧ Mk K C f ∧ Binds K fd ["self", "base"] []
def spLaw (K : PySem.W.Frag) : Sp := fun vs H Q _ => ∃ (a : Addr) (ns : List Int), vs = [.ref a] ∧ SqL K H a (zV ns) ∧ ns.length ≤ 63 ∧ ∀ H', Q (.bl true) H'
section
variable {P : Program} {w : World} {K : PySem.W.Frag} {mg : Str → Option Value} {base : Heap} {C : Addr}
theorem scLaw : FnScope ["_law_script", "_law_feed_here", "_law_base", "_law_frames_here", "_law_gates", "_law_lap", "_law_digits", "_law_ended"] ["_law_script"] (defScope sLaw) := ⟨rfl, rfl, rfl, by decide +kernel, rfl, by decide +kernel, by decide +kernel⟩
theorem ok_law {f : Addr} {fd : FuncData} (F : Fun K "law" "law" sLaw f fd) (T : Bt mg) (X : Gx K mg C) (M : MkG P w K mg base C) (GS : CalG P w K mg base 1 "_law_same" ["_law_told", "_law_due"] (spLSame K)) (GL : Cal P w K mg base CX0 1 "_law_feed" ["_law_script"] (spLFeed K))
    (GA : Cal P w K mg base CX0 2 "_law_any" ["_law_feed_here", "_law_some"] spAny) (GD : Cal P w K mg base CX0 1 "_law_draw" ["_law_feed_here", "_law_many"] spDraw) (GK : Cal P w K mg base CX0 3 "_law_asked" ["_law_gate"] (spLAsked C))
    (GQ : CalP P w K mg base 1 C "waiting_now" (spGWaiting C)) (GG : CalM P w K mg base CX0 3 C "gap" ["self"] (spGGap C)) (GC : Cal P w K mg base CX0 4 "_law_scrap" ["_law_feed_here", "_law_base"] spLScrap)
    (GE : CalG P w K mg base 8 "_law_fed" ["_law_feed_here", "_law_base", "_law_gates", "_law_digits", "_law_frames_here"] (spLFed C)) (GF : Cal P w K mg base CX0 2 "_law_frames" ["_law_base", "_law_digits", "_law_first", "_law_behind"] spLFrames)
    (GI : CalG P w K mg base 8 "_law_is_read" ["_law_base", "_law_digits", "_law_frames_here"] spLIsRead) : FnG P w K mg base 9 f fd ["_law_script"] (spLaw K) := by
  obtain ⟨fM, fdM, FM, MM, bM⟩ := M.ex
  have GK' := GK.imp (askU C)
  refine okG F scLaw (fun vs H Q E h => ?_) (fun cdv Ar outer s H vs Q E hgd hr h => ?_)
  · obtain ⟨a, ns, rfl, _⟩ := h
    rfl
  · obtain ⟨a, ns, rfl, ha, hz, k⟩ := h
    refine ⟨_, pss_cons (ps_set (i := 1) scLaw.nd rfl (Or.inl rfl) (pe_cl GL (hr.mono (by decide)) pass0 (pa_cons (pv 0) pa_nil)))
      (pss_cons (ps_par (by rfl) scLaw.nd (i := 2) (j := 3) rfl rfl (by decide) rfl rfl (pa_cons (pe_cl GA (hr.mono (by decide)) pass0 (pa_cons (pv 1) (pa_cons (pe_lst (pa_cons pe_int (pa_cons pe_int (pa_cons pe_int (pa_cons pe_int (pa_cons pe_int (pa_cons pe_int (pa_cons pe_int pa_nil)))))))) pa_nil))) (pa_cons (pe_tup pa_nil) pa_nil)) (by rfl))
      (pss_cons (ps_set (i := 4) scLaw.nd rfl (Or.inl rfl) (pe_lst (pa_cons (pe_make MM FM (hr.mono (by decide)) rfl X.gC bM .nil pass0 (pa_cons (pv 2) pa_nil)) (pa_cons (pe_make MM FM (hr.mono (by decide)) rfl X.gC bM .nil pass0 (pa_cons (pv 2) pa_nil)) pa_nil))))
      (pss_cons (ps_if (pt_not (pt_val (pe_clG hgd GS (hr.mono (by decide)) (pa_cons (pe_lst (pa_cons (pe_cl GK' (hr.mono (by decide)) pass0 (pa_cons (pe_ix ix_list (pv 4) pe_int (fun _ _ => rfl)) pa_nil)) (pa_cons (pe_pr (pe_ix ix_list (pv 4) pe_int (fun _ _ => rfl)) X.cl GQ (hr.mono (by decide)) rfl) pa_nil)))
          (pa_cons (pe_lst (pa_cons (pe_lst (pa_cons (pe_tup pa_nil) (pa_cons pe_non (pa_cons pe_bl pa_nil)))) (pa_cons pe_non pa_nil))) pa_nil))))) (pss_one (ps_ret pe_bl)) pss_nil)
      (C8.pss_cut (ps_if (PW.pt (pw_and (pt_cmpR op_eq (pe_cl GD (hr.mono (by decide)) pass0 (pa_cons (pv 1) (pa_cons pe_int pa_nil))) pe_int (nomark _))
          (pw_and1 (pt_cmpR op_notN (pe_mt0 (pe_ix ix_list (pv 4) pe_int (fun _ _ => rfl)) X.cl GG (hr.mono (by decide)) pass0) pe_non (nomark _))))) (pss_one (ps_ret pe_bl)) pss_nil)
      (pss_cons (ps_for PassesOwn.never rfl (pi_range1 rfl T.range (pa_cons (pe_op op_add pe_int (pe_cl GD (hr.mono (by decide)) pass0 (pa_cons (pv 1) (pa_cons pe_int pa_nil)))) pa_nil)) (pg_name (i := 5) scLaw.nd rfl (Or.inl rfl))
        (pss_cons (ps_set (i := 6) scLaw.nd rfl (Or.inl rfl) (pe_cl GC (hr.mono (by decide)) pass0 (pa_cons (pv 1) (pa_cons (pv 2) pa_nil))))
        (pss_cons (ps_if (pt_not (pt_val (pe_clG hgd GE hr (pa_cons (pv 1) (pa_cons (pv 2) (pa_cons (pv 4) (pa_cons (pv 6) (pa_cons (pv 3) pa_nil)))))))) (pss_one (ps_ret pe_bl)) pss_nil)
        (pss_cons (ps_set (i := 7) scLaw.nd rfl (Or.inl rfl) (pe_cl GF (hr.mono (by decide)) pass0 (pa_cons (pv 2) (pa_cons (pv 6) (pa_cons pe_int (pa_cons (pe_callB call_len_seq (by rfl) T.len PySem.boot_len (pa_cons (pv 6) pa_nil)) pa_nil))))))
        (pss_cons (ps_if (pt_not (pt_val (pe_clG hgd GI hr (pa_cons (pv 2) (pa_cons (pv 6) (pa_cons (pv 7) pa_nil)))))) (pss_one (ps_ret pe_bl)) pss_nil)
        (pss_one (ps_set (i := 3) scLaw.nd rfl (Or.inl rfl) (pe_op op_catA (pv 3) (pv 7)))))))))
      (pss_one (ps_ret pe_bl))))))), ?_⟩
    refine ⟨_, rfl, a, ns, rfl, ha, hz, fun d H1 D1 s1 n1 F1 => ?_⟩
    refine ⟨_, rfl, (by show 7 ≤ sizeLine; decide), fun l2 hl2 => ?_⟩
    have s2 := same_new (H := H1) (o := .lst [.int 3, .int 3, .int 4, .int 5, .int 7, .int 10, .int 256]) hl2
    refine ⟨d, D1, l2, _, rfl, feed_same s2 F1, upd_same, (fun z => feed_dom F1 l2 z hl2), by simp, (by show 7 ≤ 100; decide), fun x hx H3 D3 o3 g3 F3 => ?_⟩
    have hb : ∃ b : Int, x = .int b ∧ 3 ≤ b ∧ b ≤ 256 := by
      simp only [List.mem_cons, List.not_mem_nil, or_false] at hx
      rcases hx with e | e | e | e | e | e | e <;> exact ⟨_, e, by decide, by decide⟩
    obtain ⟨b, rfl, b3, b256⟩ := hb
    clear hx
    refine ⟨Nat.zero_le _, fun fr hfr => ⟨_, _, rfl, ?_⟩⟩
    have s4 := same_new (H := H3) (o := .tup []) hfr
    have e4 : (upd H3 fr (.tup [])) fr = some (.tup []) := upd_same
    generalize upd H3 fr (.tup []) = H4 at s4 e4 ⊢
    have F4 := feed_same s4 F3
    refine ⟨_, rfl, fun p dx hp hdx hne => ?_⟩
    refine ⟨p, dx, b, rfl, upd_same, b3, b256, fun la H5 hla G5 st5 => ⟨rfl, ?_⟩⟩
    have s5 : Same H4 H5 := fun c o e => st5 c o (by rw [upd_ne (ne_of_none e hp), upd_ne (ne_of_none e hdx)]; exact e) (ne_of_none e hp)
    refine ⟨_, rfl, fun q dy hq hdy hne2 => ?_⟩
    refine ⟨q, dy, b, rfl, upd_same, b3, b256, fun lb H6 hlb G6 st6 => ⟨rfl, ?_⟩⟩
    have s6 : Same H5 H6 := fun c o e => st6 c o (by rw [upd_ne (ne_of_none e hq), upd_ne (ne_of_none e hdy)]; exact e) (ne_of_none e hq)
    refine ⟨(by show 2 ≤ sizeLine; decide), fun gl hgl => ?_⟩
    have s7 := same_new (H := H6) (o := .lst [.ref p, .ref q]) hgl
    have e7 : (upd H6 gl (.lst [.ref p, .ref q])) gl = some (.lst [.ref p, .ref q]) := upd_same
    generalize upd H6 gl (.lst [.ref p, .ref q]) = H7 at s7 e7 ⊢
    have f0 : ∀ c ∈ [p, la], H4 c = none := fun c hc => by
      have h1 : la ≠ p := fun z => by
        rw [z, upd_same] at hla
        cases hla
      rcases List.mem_cons.mp hc with z | z
      · rw [z]
        exact hp
      · rw [List.mem_singleton.mp z]
        rw [upd_ne h1] at hla
        by_cases h2 : la = dx
        · rw [h2, upd_same] at hla
          cases hla
        · rwa [upd_ne h2] at hla
    have f1 : ∀ c ∈ [q, lb], H5 c = none := fun c hc => by
      have h1 : lb ≠ q := fun z => by
        rw [z, upd_same] at hlb
        cases hlb
      rcases List.mem_cons.mp hc with z | z
      · rw [z]
        exact hq
      · rw [List.mem_singleton.mp z]
        rw [upd_ne h1] at hlb
        by_cases h2 : lb = dy
        · rw [h2, upd_same] at hlb
          cases hlb
        · rwa [upd_ne h2] at hlb
    have dA := gate_dom G5
    have F5 := feed_same s5 F4
    have dA6 := gate_dom (gate_same s6 G5)
    have dB6 := gate_dom G6
    have dD6 := feed_dom (feed_same s6 F5)
    have W7 : Wst C b H7 p q d [p, la] [q, lb] D3 ([], none, none) ([], none, none) [(gl, [.ref p, .ref q])] := by
      refine ⟨gate_same s7 (gate_same s6 G5), gate_same s7 G6, feed_same s7 (feed_same s6 F5), fun z hz => ?_, fun c hc z => dA c hc (f1 c z), fun c hc z => feed_dom F4 c z (f0 c hc), fun c hc z => feed_dom F5 c z (f1 c hc)⟩
      rw [List.mem_singleton.mp hz]
      exact ⟨e7, fun z => dA6 gl z hgl, fun z => dB6 gl z hgl, fun z => dD6 gl z hgl⟩
    have mg2 : (gl, [V.ref p, .ref q]) ∈ [(gl, [V.ref p, .ref q])] := List.mem_cons_self
    have fr7 : H7 fr = some (.tup []) := s7 _ _ (s6 _ _ (s5 _ _ e4))
    clear f0 f1 dA F5 dA6 dB6 dD6 hla hlb st5 st6 G5 G6
    refine ⟨_, rfl, gl, _, 0, _, rfl, rfl, SqL.of (W7.gateL mg2), atI_nat (j := 0) rfl, p, [p, la], b, ([], none, none), rfl, W7.g0, (fun z => by cases z), fun r0 fr0 v0 H8 s8 R0 => ?_⟩
    have W8 := W7.same s8
    obtain ⟨dx2, l2', wv2, h21, h22, h23⟩ := id W8.g0.ex
    refine ⟨_, rfl, gl, _, 0, _, rfl, rfl, SqL.of (W8.gateL mg2), atI_nat (j := 0) rfl, p, dx2, _, rfl, h21, p, [p, la], b, [], none, none, rfl, W8.g0, fun v9 H9 s9 hv9 => ?_⟩
    obtain rfl : v9 = .non := by
      rcases hv9 with ⟨_, e⟩ | ⟨_, _, z, _⟩
      · exact e
      · cases z
    refine ⟨(by show 2 ≤ sizeLine; decide), fun t10 ht10 => ?_⟩
    have s10 := same_new (H := H9) (o := .lst [.ref r0, .non]) ht10
    have e10 : (upd H9 t10 (.lst [.ref r0, .non])) t10 = some (.lst [.ref r0, .non]) := upd_same
    generalize upd H9 t10 (.lst [.ref r0, .non]) = H10 at s10 e10 ⊢
    refine ⟨Nat.zero_le _, fun t11 ht11 => ?_⟩
    have s11 := same_new (H := H10) (o := .tup []) ht11
    have e11 : (upd H10 t11 (.tup [])) t11 = some (.tup []) := upd_same
    generalize upd H10 t11 (.tup []) = H11 at s11 e11 ⊢
    refine ⟨(by show 3 ≤ sizeLine; decide), fun t12 ht12 => ?_⟩
    have s12 := same_new (H := H11) (o := .lst [.ref t11, .non, .bl false]) ht12
    have e12 : (upd H11 t12 (.lst [.ref t11, .non, .bl false])) t12 = some (.lst [.ref t11, .non, .bl false]) := upd_same
    generalize upd H11 t12 (.lst [.ref t11, .non, .bl false]) = H12 at s12 e12 ⊢
    refine ⟨(by show 2 ≤ sizeLine; decide), fun t13 ht13 => ?_⟩
    have s13 := same_new (H := H12) (o := .lst [.ref t12, .non]) ht13
    have e13 : (upd H12 t13 (.lst [.ref t12, .non])) t13 = some (.lst [.ref t12, .non]) := upd_same
    generalize upd H12 t13 (.lst [.ref t12, .non]) = H13 at s13 e13 ⊢
    have s1113 : Same H11 H13 := s12.trans s13
    have s813 : Same H8 H13 := s9.trans (s10.trans (s11.trans s1113))
    have W13 := W8.same s813
    have RF : Row H13 t12 ([], none, none) t11 .non := ⟨s13 _ _ e12, s1113 _ _ e11, .inl ⟨rfl, rfl⟩⟩
    refine ⟨t10, t13, .list [dS [] none (wh ([], none, none)), .none], rfl, .lst (SqL.of ((s11.trans s1113) _ _ e10)) (.cons (R0.same s813).dp (.cons .non .nil)), .lst (SqL.of e13) (.cons RF.dp (.cons .non .nil)),
      nice_two (nice_dS ⟨Nat.zero_le _, fun z hz => by cases hz⟩ fun ws z => by cases z) nice_none.up, true, rfl, ?_⟩
    refine iteF ?_
    have fr13 : H13 fr = some (.tup []) := s813 _ _ (s8 _ _ fr7)
    refine ⟨fun σ' H' => σ' = [some (.ref a), some (.ref d), some (.int b), some (.ref fr), some (.ref gl), none, none, none] ∧ ∃ B' D', Wst C b H' p q d [p, la] B' D' ([], none, none) ([], none, none) [(gl, [.ref p, .ref q])] ∧ Tps H13 H', ?_, ?_⟩
    · refine ⟨_, rfl, d, D3, 4, rfl, W13.fd, by decide, by decide, fun r8 H14 D8 r80 r81 o8' g8 F8 => ?_⟩
      have W14 := W13.feed o8' g8 F8
      have t14 : Tps H13 H14 := W13.tF o8'
      refine ⟨rfl, _, rfl, ite2 (fun _ => ?_) (fun _ => ?_)⟩
      · obtain ⟨dx3, l3, wv3, h31, h32, h33⟩ := id W14.g1.ex
        refine ⟨_, rfl, gl, _, 1, _, rfl, rfl, SqL.of (W14.gateL mg2), atI_nat (j := 1) rfl, q, dx3, _, rfl, h31, lk_gap, q, [q, lb], b, _, _, _, rfl, W14.g1, fun v9 H15 B9 o9' g9 G9 hv9 => ?_⟩
        rcases hv9 with ⟨_, rfl⟩ | ⟨ws, r', hw, _⟩
        · refine ⟨rfl, _, rfl, ?_⟩
          refine iteF ?_
          exact ⟨rfl, B9, D8, (W14.swap.gate (s' := ([], none, none)) o9' g9 G9).swap, t14.trans (W14.swap.tG o9')⟩
        · cases hw
      · refine iteF ?_
        exact ⟨rfl, [q, lb], D8, W14, t14⟩
    · rintro σ' H14 ⟨rfl, B', D', W14, t14⟩
      refine ⟨_, rfl, d, D', 4, rfl, W14.fd, by decide, by decide, fun r8 H15 D8 r80 r81 o8' g8 F8 => ?_⟩
      have W15 := W14.feed o8' g8 F8
      have t15 : Tps H14 H15 := W14.tF o8'
      refine ⟨_, _, rfl, rfl, 1 + r8, rfl, by omega, by omega, ?_⟩
      have hN : (1 + r8).toNat ≤ 4 := by omega
      generalize (1 + r8).toNat = N at hN ⊢
      refine for_range (n := N) (fun i σ H' => ∃ (A B D : List Addr) (fr : Addr) (fnd : List Int) (o5 o6 o7 : Option V), σ = [some (.ref a), some (.ref d), some (.int b), some (.ref fr), some (.ref gl), o5, o6, o7] ∧
        Wst C b H' p q d A B D (fnd, none, none) (fnd, none, none) [(gl, [.ref p, .ref q])] ∧ H' fr = some (.tup (zV fnd)) ∧ fnd.length ≤ 470 * i ∧ ∀ z ∈ fnd, Big z)
        ⟨_, _, _, fr, [], none, none, none, rfl, W15, t15 _ _ (t14 _ _ fr13), Nat.zero_le _, fun z hz => by cases hz⟩ ?_ ?_
      · rintro i σ H16 hi ⟨A, B, D, fr2, fnd, o5, o6, o7, rfl, W16, f16, l16, b16⟩
        refine ⟨_, rfl, _, rfl, d, D, b, rfl, W16.fd, b3, b256, fun dg H17 D17 u S17 e17 hsc => ?_⟩
        have W17 := W16.feed S17.1 S17.2.1 S17.2.2
        have t17 : Tps H16 H17 := W16.tF S17.1
        have hul := hsc.len b3
        have SK : Sk b u fnd := ⟨hsc, b3, b256, by omega, b16⟩
        have SK0 : Sk b u [] := ⟨hsc, b3, b256, by rw [List.length_nil]; omega, fun z hz => by cases hz⟩
        refine ⟨_, rfl, _, rfl, _, rfl, _, rfl, _, rfl, d, gl, dg, fr2, p, q, A, B, D17, b, u, fnd, rfl, W17, SK, e17, t17 _ _ f16, fun H18 A18 B18 D18 W18 t18 => ⟨true, rfl, ?_⟩⟩
        refine iteF ?_
        have e18 := t18 _ _ e17
        refine ⟨_, rfl, _, rfl, _, rfl, dg, _, rfl, .inr (SqT.of e18), b, dg, u, 0, (zV u).length, rfl, b3, b256, e18, hul, fun en H19 s19 e19 => ?_⟩
        rw [zV_len] at e19
        have hlf : lf u 0 u.length (mks (b - 1) 0 u) = (grun (b - 1) g0 u).1 := by
          have h1 := run_frames (b - 1) u 0 u.length (Nat.zero_le _) (Nat.le_refl _)
          rw [List.take_length, List.take_zero] at h1
          exact h1.symm
        refine ⟨_, rfl, _, rfl, _, rfl, b, dg, en, u, rfl, SK0, s19 _ _ e18, by rw [← hlf]; exact e19, fun H20 s20 => ⟨true, rfl, ?_⟩⟩
        refine iteF ?_
        have W20 := (W18.same s19).same s20
        have hbg := SK.big u.length
        have hst := (St_step (b := b) (u := u) (fnd := fnd) (k := 0) (k' := u.length) (Nat.zero_le _) (Nat.le_refl _)).2.1
        rw [St_zero] at hst
        have hl2 : (stks (b - 1) (lf u 0 u.length (mks (b - 1) 0 u))).length ≤ 470 := by
          have h1 := lf_len (l := u) (a := 0) (b := u.length) (ms := mks (b - 1) 0 u)
          have h2 := mks_count (b - 1) u 0
          unfold stks
          rw [List.length_map]
          omega
        have hl3 : (St b u fnd u.length).1.length ≤ 470 * (i + 1) := by
          rw [← hst, List.length_append]
          show fnd.length + _ ≤ _
          omega
        refine ⟨_, rfl, _, rfl, ?_⟩
        refine cat_to ((s19.trans s20) _ _ (t18 _ _ (t17 _ _ f16))) (s20 _ _ e19) (by omega) fun fr9 H21 s21 e21 => ?_
        refine ⟨A18, B18, D18, fr9, (St b u fnd u.length).1, _, _, _, rfl, W20.same s21, ?_, hl3, hbg.2⟩
        rw [e21, ← hst]
      · rintro σ H16 ⟨A, B, D, fr2, fnd, o5, o6, o7, rfl, W16, f16, l16, b16⟩
        exact k H16
end
end K76
/-! What the top leaves: defs by where they stand, the two classes, the getters. -/
namespace K76
open PySem PySem.Spec PyProof.Rows L2
/-! ### Bools of the written part -/
theorem bt {a b : Bool} (h : (a && b) = true) : a = true ∧ b = true := Bool.and_eq_true_iff.mp h
/-- an own error over ValueError, at C -/
def errB (K : PySem.W.Frag) (C : Addr) : Bool := match K.lookup C with
  | some ⟨.type t, _, .cls cd, sl⟩ => decide (t = "type") && (cd.hasDict && (!cd.hasDel && ((match cd.mro with
    | .ref c :: bm => decide (c = C) && PySem.HandSPX.refsVE bm
    | _ => false) && (match sl.toList with
    | [_, _, _, _, some (.builtin n), _] => decide (n = "ValueError.__new__")
    | _ => false))))
  | _ => false
theorem errB_ok {K : PySem.W.Frag} {C : Addr} (h : errB K C = true) : ∃ nm q N bs bm sn sub ab col dd k0 k1 k2 k3 k5, K.lookup C = some (excClassObj nm q C N bs bm true sn sub ab col dd k0 k1 k2 k3 k5 "ValueError.__new__") ∧ PySem.HandSPX.refsVE bm = true := by
  unfold errB at h
  cases e : K.lookup C with
  | none =>
    rw [e] at h
    cases h
  | some o =>
    obtain ⟨oc, dd, dt, sl⟩ := o
    rw [e] at h
    cases oc with
    | type t =>
      cases dt with
      | cls cd =>
        obtain ⟨nm, bs, mro, N, q, hd, sn, sub, ab, col, hdel⟩ := cd
        obtain ⟨h1, h⟩ := bt h
        obtain ⟨h2, h⟩ := bt h
        obtain ⟨h3, h⟩ := bt h
        obtain ⟨h4, h5⟩ := bt h
        have e1 : t = "type" := of_decide_eq_true h1
        have e2 : hd = true := h2
        have e3 : hdel = false := by
          cases hdel with
          | false => rfl
          | true => cases h3
        simp only at h4
        cases mro with
        | nil => cases h4
        | cons v bm =>
          cases v with
          | ref c =>
            obtain ⟨h6, h7⟩ := bt h4
            have e4 : c = C := of_decide_eq_true h6
            match q5 : sl.toList, h5 with
            | [k0, k1, k2, k3, some (.builtin n), k5], h5 =>
              have e5 : n = "ValueError.__new__" := of_decide_eq_true h5
              have e6 : sl = #[k0, k1, k2, k3, some (.builtin n), k5] := Array.toList_inj.mp q5
              subst e1 e2 e3 e4 e5 e6
              exact ⟨nm, q, N, bs, bm, sn, sub, ab, col, dd, k0, k1, k2, k3, k5, rfl, h7⟩
          | _ => cases h4
      | _ => cases h
    | _ => cases dt <;> cases h
def notB (K : PySem.W.Frag) : Bool := errB K (He.ga K "NotUsable") && (He.eqO (PySem.W.findIn K (.ref (He.ga K "NotUsable")) "__setattr__") (some (some (.builtin "object.__setattr__"))) &&
  (decide (PySem.W.typeIn K (.ref (He.ga K "NotUsable")) = some (.type "type")) && (PySem.W.keepIn K (.ref (He.ga K "NotUsable")) && (xfB K (He.ga K "NotUsable") &&
  (He.eqO (PySem.W.findIn K (.ref (He.ga K "NotUsable")) "word") (some none) && (He.eqO (PySem.W.findIn K (.ref (He.ga K "NotUsable")) "at") (some none) && (decide (PySem.W.exmOne K (.ref (He.ga K "NotUsable")) (.ref (He.ga K "NotUsable")) = some true) &&
  (He.eqO (PySem.W.findIn K (.ref (He.ga K "NotUsable")) "__init__") (some (some (.ref (He.ma K (He.ga K "NotUsable") "__init__")))) && decide (PySem.W.typeIn K (.ref (He.ma K (He.ga K "NotUsable") "__init__")) = some (.type "function"))))))))))
/-- a property of Gate, its getter -/
def prA (K : PySem.W.Frag) (m : Str) : Addr := He.ma K (He.ga K "Gate") m
def geA (K : PySem.W.Frag) (m : Str) : Addr := match PySem.W.recIn K (prA K m) "property" with
  | some (.ref g :: _) => g
  | _ => 0
def prB (K : PySem.W.Frag) (m : Str) : Bool := He.eqO (PySem.W.findIn K (.ref (He.ga K "Gate")) m) (some (some (.ref (prA K m)))) && (He.eqO (PySem.W.specialIn K (.ref (prA K m)) "__get__") (some (some (.builtin "property.__get__"))) &&
  (decide (PySem.W.takesIn K (.ref (prA K m)) = some true) && (match PySem.W.recIn K (prA K m) "property" with
  | some (.ref _ :: _) => true
  | _ => false)))
theorem prB_ok {K : PySem.W.Frag} {m : Str} (h : prB K m = true) : PropOf K (He.ga K "Gate") m (prA K m) (geA K m) := by
  obtain ⟨h1, h⟩ := bt h
  obtain ⟨h2, h⟩ := bt h
  obtain ⟨h3, h4⟩ := bt h
  refine ⟨He.eqO_ok h1, He.eqO_ok h2, of_decide_eq_true h3, ?_⟩
  unfold geA
  match e : PySem.W.recIn K (prA K m) "property", h4 with
  | some (.ref g :: rest), _ => exact ⟨rest, rfl⟩
def exB (K : PySem.W.Frag) : Bool := notB K && (prB K "frames_now" && (prB K "waiting_now" && prB K "whole_now"))
/-! ### a def by where it stands -/
structure Dp1 where
  ad : PySem.W.Frag → Addr
  name : Str
  qual : Str
  st : Stmt
def fnAt (K : PySem.W.Frag) (a : Addr) : He.FnV := match K.lookup a with
  | some ⟨_, _, .func fd, _⟩ => some (fd.name, fd.qualname, fd.params, fd.body, fd.scope, fd.globals, fd.closure, fd.defaults, fd.builtins)
  | _ => none
def Dp1.val (d : Dp1) : He.FnV := some (d.name, d.qual, defArgs d.st, .stmts (defBody d.st), defScope d.st, mainGlobals, [], .none, builtinsNs)
def Dp1.ok (K : PySem.W.Frag) (d : Dp1) : Bool := PySem.W.keepIn K (.ref (d.ad K)) && (match K.lookup (d.ad K) with
  | some ⟨_, _, .func fd, _⟩ => PySem.W.codeIn K fd.code d.qual
  | _ => false)
theorem Dp1.fun_ {K : PySem.W.Frag} {d : Dp1} (e : fnAt K (d.ad K) = d.val) (c : d.ok K = true) : ∃ fd, Fun K d.name d.qual d.st (d.ad K) fd := by
  obtain ⟨kp, c2⟩ := bt c
  unfold fnAt at e
  cases q : K.lookup (d.ad K) with
  | none =>
    rw [q] at c2
    cases c2
  | some o =>
    obtain ⟨oc, od, dt, osl⟩ := o
    rw [q] at c2 e
    cases dt with
    | func fd =>
      obtain ⟨m1, m2, m3, m4, m5, m6, m7, m8, m9, m10, m11, m12, m13, m14, m15⟩ := fd
      have e2 : (some (m1, m2, m3, m4, m5, m6, m7, m8, m15) : He.FnV) = some (d.name, d.qual, defArgs d.st, .stmts (defBody d.st), defScope d.st, mainGlobals, [], .none, builtinsNs) := e
      simp only [Option.some.injEq, Prod.mk.injEq] at e2
      obtain ⟨g1, g2, g3, g4, g5, g6, g7, g8, g9⟩ := e2
      subst g1 g2 g3 g4 g5 g6 g7 g8 g9
      exact ⟨_, ⟨oc, od, m9, m10, m11, m12, m13, m14, osl, rfl, q, c2⟩, kp⟩
    | _ => cases c2
/-! ### the Hook -/
abbrev AlP : Type := Bool × List He.FnV
def obP (fa : List He.Fa) (ds : List Dp1) (K : PySem.W.Frag) : AlP := ((fa.all fun f => f.ok K) && (exB K && ds.all fun d => d.ok K), ds.map fun d => fnAt K (d.ad K))
def vaP (ds : List Dp1) : AlP := (true, ds.map Dp1.val)
def obPG (n : Nat) (fa : List He.Fa) (ds : List Dp1) (g : Addr → Option Obj) : AlP := obP fa ds (He.frG g (He.asG g n))
def hookP (n : Nat) (fa : List He.Fa) (ds : List Dp1) : PySem.W.Hook where
  α := AlP
  obs := fun s => obPG n fa ds s.heap.get?
  val := fun _ => vaP ds
  says := fun _ h => ∃ K : PySem.W.Frag, K.In h ∧ obP fa ds K = vaP ds
  of := fun _ _ e => ⟨_, He.frG_in, e⟩
  keeps := fun _ _ _ ⟨K, hK, c⟩ k => ⟨K, PySem.W.Frag.In.keeps hK k, c⟩
theorem obPG_eq {n : Nat} {fa : List He.Fa} {ds : List Dp1} {g : Addr → Option Obj} {s : Shared} (h : ∀ a, g a = s.heap.get? a) : obPG n fa ds g = (hookP n fa ds).obs s := by
  have e : g = s.heap.get? := funext h
  rw [e]
  rfl
section
variable {fa : List He.Fa} {ds : List Dp1} {K : PySem.W.Frag}
theorem saysAll (c : obP fa ds K = vaP ds) : (fa.all fun f => f.ok K) = true ∧ exB K = true ∧ (ds.all fun d => d.ok K) = true := by
  have c1 : ((fa.all fun f => f.ok K) && (exB K && ds.all fun d => d.ok K)) = true := congrArg (fun z : AlP => z.1) c
  obtain ⟨h1, h⟩ := bt c1
  exact ⟨h1, (bt h).1, (bt h).2⟩
theorem saysFa (c : obP fa ds K = vaP ds) {f : He.Fa} (h : f ∈ fa) : f.ok K = true := List.all_eq_true.mp (saysAll c).1 f h
theorem saysDf (c : obP fa ds K = vaP ds) (i : Nat) {d : Dp1} (h : ds[i]? = some d) : ∃ fd, Fun K d.name d.qual d.st (d.ad K) fd := by
  have e : ds.map (fun d => fnAt K (d.ad K)) = ds.map Dp1.val := congrArg (fun z : AlP => z.2) c
  have e2 : (ds.map fun d => fnAt K (d.ad K))[i]? = (ds.map Dp1.val)[i]? := by rw [e]
  rw [List.getElem?_map, List.getElem?_map, h] at e2
  exact Dp1.fun_ (Option.some.inj e2) (List.all_eq_true.mp (saysAll c).2.2 d (List.mem_of_getElem? h))
end
/-! ### this top -/
def gl (x : Str) (i : Nat) : Dp1 := ⟨fun K => He.ga K x, x, x, top i⟩
def gm (m qual : Str) (j : Nat) : Dp1 := ⟨fun K => He.ma K (He.ga K "Gate") m, m, qual, inClass (top 20) j⟩
def gp (m qual : Str) (j : Nat) : Dp1 := ⟨fun K => geA K m, m, qual, inClass (top 20) j⟩
def dsA : List Dp1 := [⟨fun K => He.ma K (He.ga K "NotUsable") "__init__", "__init__", "NotUsable.__init__", sNU⟩, gl "a_want" 5, gl "is_integer" 7, gl "is_number" 8, gl "is_base" 9, gl "a_is_numbers" 10, gl "is_digits" 11, gl "row_of" 13, gl "stack_of" 14, gl "added" 15, gl "fits_framed" 17, gl "want_base" 18,
  gm "__init__" "Gate.__init__" 0, gp "frames_now" "Gate.frames_now" 1, gp "waiting_now" "Gate.waiting_now" 2, gp "whole_now" "Gate.whole_now" 3, gm "feed" "Gate.feed" 4, gm "gap" "Gate.gap" 5, gm "_judged" "Gate._judged" 6, gl "stream_of" 22, gl "frames_in" 23, gl "starts_of" 24]
def dsB : List Dp1 := [gl "_law_feed" 26, gl "_law_draw" 27, gl "_law_any" 28, gl "_law_same" 29, gl "_law_ground" 30, gl "_law_row" 31, gl "_law_stack" 32, gl "_law_stream" 33, gl "_law_marks" 34, gl "_law_frames" 35, gl "_law_stands" 36, gl "_law_asked" 37, gl "_law_refused" 38, gl "_law_scrap" 39, gl "_law_parts" 40, gl "_law_fed" 41, gl "_law_is_read" 42, gl "law" 43]
def ds : List Dp1 := dsA ++ dsB
def faA : List He.Fa := [.glo "NotUsable", .glo "a_want", .glo "is_integer", .glo "is_number", .glo "is_base", .glo "a_is_numbers", .glo "is_digits", .glo "row_of", .glo "stack_of", .glo "added", .glo "fits_framed", .glo "want_base", .glo "Gate", .glo "stream_of", .glo "frames_in", .glo "starts_of"]
def faB : List He.Fa := [.glo "_law_feed", .glo "_law_draw", .glo "_law_any", .glo "_law_same", .glo "_law_ground", .glo "_law_row", .glo "_law_stack", .glo "_law_stream", .glo "_law_marks", .glo "_law_frames", .glo "_law_stands", .glo "_law_asked", .glo "_law_refused", .glo "_law_scrap", .glo "_law_parts", .glo "_law_fed", .glo "_law_is_read", .glo "law"]
def faC : List He.Fa := [.free "isinstance", .free "int", .free "bool", .free "tuple", .free "all", .free "len", .free "range", .free "enumerate", .free "sorted", .free "repr", .free "list"]
def faD : List He.Fa := [.cls "Gate", .noat "Gate" "_base", .noat "Gate" "_found", .noat "Gate" "_waiting", .noat "Gate" "_begins", .meth "Gate" "feed", .meth "Gate" "gap", .meth "Gate" "_judged", .mkr "Gate"]
def fas : List He.Fa := faA ++ (faB ++ (faC ++ faD))
end K76
/-! The top's run. -/
namespace K76
open PySem PySem.Spec PyProof.Rows L2
abbrev RR : PySem.W.OpenRow := PySem.W.OpenLaw.row PySem.Challenge.rw_pushedback_k76_whole_gates_and_frames
abbrev hk : PySem.W.Hook := hookP 6 fas ds
def ob (s : PySem.W.SharedT) : AlP := obPG 6 fas ds (HandSHeadRun.getT s)
theorem ob_eq (s : PySem.W.SharedT) : ob s = hk.obs s.abs := obPG_eq (HandSHeadRun.getT_eq s)
def looseA : List PySem.Str := ["PushError", "StackError", "NotUsable", "a_want", "is_integer", "is_number", "is_base", "a_is_numbers", "is_digits", "row_of", "stack_of", "added", "fits_framed", "want_base", "Gate", "stream_of", "frames_in", "starts_of"]
def looseB : List PySem.Str := ["_law_feed", "_law_draw", "_law_any", "_law_same", "_law_ground", "_law_row", "_law_stack", "_law_stream", "_law_marks", "_law_frames", "_law_stands", "_law_asked", "_law_refused", "_law_scrap", "_law_parts", "_law_fed", "_law_is_read"]
def looseN : List PySem.Str := looseA ++ looseB
theorem run (w : World) : HandSHeadRun.RunEq RR (PySem.W.view RR.prog [43]) hk ob 4000 looseN w := by
  intro os
  kernel_rfl
end K76
/-! The facts of the top, handed to the walk; the end. -/
namespace K76
open PySem PySem.Spec PyProof.Rows L2
section
variable {P : Program} {w : World} {K : PySem.W.Frag} {h : Heap} {mg : Str → Option Value}
theorem memFa (k : Nat) {f : He.Fa} (e : fas[k]? = some f) : f ∈ fas := List.mem_of_getElem? e
theorem df_of (X : K.In h) (G : h.Ns mainGlobals mg) (c : obP fas ds K = vaP ds) (i k : Nat) {x : Str} {j : Nat} (e1 : ds[i]? = some (gl x j)) (e2 : fas[k]? = some (.glo x)) : Df K mg x (top j) := by
  obtain ⟨fd, F⟩ := saysDf c i e1
  exact ⟨_, fd, F, He.glo_ok X G (saysFa c (memFa k e2))⟩
theorem mdf_of (c : obP fas ds K = vaP ds) (i k : Nat) {m qual : Str} {j : Nat} (e1 : ds[i]? = some (gm m qual j)) (e2 : fas[k]? = some (.meth "Gate" m)) : Mdf K (He.ga K "Gate") m qual (inClass (top 20) j) := by
  obtain ⟨fd, F⟩ := saysDf c i e1
  exact ⟨_, fd, F, He.meth_ok (saysFa c (memFa k e2))⟩
theorem pdf_of (c : obP fas ds K = vaP ds) (i : Nat) {m qual : Str} {j : Nat} (e1 : ds[i]? = some (gp m qual j)) (hp : prB K m = true) : Pdf K (He.ga K "Gate") m qual (inClass (top 20) j) := by
  obtain ⟨fd, F⟩ := saysDf c i e1
  exact ⟨_, _, fd, F, prB_ok hp⟩
theorem bt_of (X : K.In h) (G : h.Ns mainGlobals mg) (c : obP fas ds K = vaP ds) : Bt mg :=
  ⟨He.free_ok X G (saysFa c (memFa 34 rfl)), He.free_ok X G (saysFa c (memFa 35 rfl)), He.free_ok X G (saysFa c (memFa 36 rfl)), He.free_ok X G (saysFa c (memFa 37 rfl)), He.free_ok X G (saysFa c (memFa 38 rfl)), He.free_ok X G (saysFa c (memFa 39 rfl)),
    He.free_ok X G (saysFa c (memFa 40 rfl)), He.free_ok X G (saysFa c (memFa 41 rfl)), He.free_ok X G (saysFa c (memFa 42 rfl)), He.free_ok X G (saysFa c (memFa 43 rfl)), He.free_ok X G (saysFa c (memFa 44 rfl))⟩
theorem gx_of (X : K.In h) (G : h.Ns mainGlobals mg) (c : obP fas ds K = vaP ds) : Gx K mg (He.ga K "Gate") :=
  ⟨He.cls_ok (saysFa c (memFa 45 rfl)), He.glo_ok X G (saysFa c (memFa 12 rfl)), He.noat_ok (saysFa c (memFa 46 rfl)), He.noat_ok (saysFa c (memFa 47 rfl)), He.noat_ok (saysFa c (memFa 48 rfl)), He.noat_ok (saysFa c (memFa 49 rfl))⟩
theorem nux_of (X : K.In h) (G : h.Ns mainGlobals mg) (c : obP fas ds K = vaP ds) : NUx K mg (He.ga K "NotUsable") := by
  obtain ⟨n1, _⟩ := bt (saysAll c).2.1
  obtain ⟨h1, n1⟩ := bt n1
  obtain ⟨h2, n1⟩ := bt n1
  obtain ⟨h3, n1⟩ := bt n1
  obtain ⟨h4, n1⟩ := bt n1
  obtain ⟨h5, n1⟩ := bt n1
  obtain ⟨h6, n1⟩ := bt n1
  obtain ⟨h7, n1⟩ := bt n1
  obtain ⟨h8, n1⟩ := bt n1
  obtain ⟨h9, h10⟩ := bt n1
  obtain ⟨fd, F⟩ := saysDf c 0 (d := ⟨fun K => He.ma K (He.ga K "NotUsable") "__init__", "__init__", "NotUsable.__init__", sNU⟩) rfl
  exact ⟨⟨errB_ok h1, He.eqO_ok h2, (xfB_ok h5).exC, of_decide_eq_true h3, h4⟩, He.glo_ok X G (saysFa c (memFa 0 rfl)), xfB_ok h5, He.eqO_ok h6, He.eqO_ok h7, of_decide_eq_true h8, _, fd, He.eqO_ok h9, of_decide_eq_true h10, F⟩
theorem facts {f : Addr} (X : K.In h) (G : h.Ns mainGlobals mg) (hfa : mg ("law" : Str) = some (.ref f)) (c : obP fas ds K = vaP ds) :
    ∃ fd : FuncData, (∀ (s : Shared) (v : Value), BindsTo s fd ⟨[v], []⟩ [("_law_script", v)]) ∧ ∀ base : Heap, K.In base → base.Ns mainGlobals mg → FnG P w K mg base 9 f fd ["_law_script"] (spLaw K) := by
  obtain ⟨fd, F⟩ := saysDf c 39 (d := gl "law" 43) rfl
  have e := hfa.symm.trans (He.glo_ok X G (saysFa c (memFa 33 (f := .glo "law") rfl)))
  cases e
  refine ⟨fd, fun s v => ?_, fun base _ _ => ?_⟩
  · obtain ⟨oc, od, kV, doc, pm, an, cdv, ct, osl, rfl, lk, hcd⟩ := F.ex
    exact .of_eq rfl
  · have T := bt_of X G c
    have GXx := gx_of X G c
    have NU := nux_of X G c
    have GW : Cal P w K mg base (L2.CX P w) 3 "a_want" ["good", "word"] (spWant (He.ga K "NotUsable")) := ok_want (df_of X G c 1 1 rfl rfl) NU
    have GI : Cal P w K mg base CX0 1 "is_integer" ["thing"] spIsInt := ok_isInt (df_of X G c 2 2 rfl rfl) T
    have GN := ok_isNum (df_of X G c 3 3 rfl rfl) GI
    have GB := ok_isBase (df_of X G c 4 4 rfl rfl) GI
    have GNs := ok_nums (df_of X G c 5 5 rfl rfl) T GN
    have GDg := ok_digits (df_of X G c 6 6 rfl rfl) T GW GB GNs
    have GRow := ok_rowOf (df_of X G c 7 7 rfl rfl) T GW GB GN
    have GAdd := ok_added (df_of X G c 9 9 rfl rfl) GW GB GN GDg
    have GStk := ok_stackOf (df_of X G c 8 8 rfl rfl) GW GB GDg GAdd
    have GWB := ok_wantBase (df_of X G c 11 11 rfl rfl) GW GB
    have GFit := ok_fits (df_of X G c 10 10 rfl rfl) T GDg
    have px := bt (bt (saysAll c).2.1).2
    have GF : CalP P w K mg base 1 (He.ga K "Gate") "frames_now" (spGFrames (He.ga K "Gate")) := ok_gFrames (pdf_of c 13 rfl px.1) GXx T
    have GQ : CalP P w K mg base 1 (He.ga K "Gate") "waiting_now" (spGWaiting (He.ga K "Gate")) := ok_gWaiting (pdf_of c 14 rfl (bt px.2).1) GXx T
    have GH : CalP P w K mg base 1 (He.ga K "Gate") "whole_now" (spGWhole (He.ga K "Gate")) := ok_gWhole (pdf_of c 15 rfl (bt px.2).2) GXx T
    have GJ : CalM P w K mg base CX0 1 (He.ga K "Gate") "_judged" ["self", "stack"] spGJudged := ok_gJudged (mdf_of c 18 52 rfl rfl)
    have GG := ok_gGap (mdf_of c 17 51 rfl rfl) GXx GQ
    have GV := ok_gFeed (mdf_of c 16 50 rfl rfl) GXx T GW GDg GStk GJ
    have GBad := ok_gBad (mdf_of c 16 50 rfl rfl) GXx GW GDg
    have GFI := ok_framesIn (df_of X G c 20 14 rfl rfl) T GW GDg GStk GWB
    have GSO := ok_streamOf (df_of X G c 19 13 rfl rfl) T GW GWB GN GRow
    have GST := ok_startsOf (df_of X G c 21 15 rfl rfl) T GW GWB GFit
    have MG : MkG P w K mg base (He.ga K "Gate") := by
      obtain ⟨fdI, FI⟩ := saysDf c 12 (d := gm "__init__" "Gate.__init__" 0) rfl
      exact ⟨_, fdI, ok_gInit FI GXx GW GB, He.mkr_ok (saysFa c (memFa 53 rfl)), FI.binds fun _ _ _ _ _ _ us hl => match us, hl with | [_, _], _ => rfl⟩
    have GL := ok_lfeed (P := P) (w := w) (base := base) (df_of X G c 22 16 rfl rfl) T
    have GDr := ok_draw (P := P) (w := w) (base := base) (df_of X G c 23 17 rfl rfl) T
    have GAny := ok_any (df_of X G c 24 18 rfl rfl) T GDr
    have GSame := ok_same (P := P) (w := w) (base := base) (df_of X G c 25 19 rfl rfl) T
    have GGr := ok_ground (df_of X G c 26 20 rfl rfl) T GDr GAny
    have GLR := ok_lrow (P := P) (w := w) (base := base) (df_of X G c 27 21 rfl rfl) T
    have GLS := ok_lstack (P := P) (w := w) (base := base) (df_of X G c 28 22 rfl rfl)
    have GLSt := ok_lstream (df_of X G c 29 23 rfl rfl) GLR
    have GLM := ok_lmarks (P := P) (w := w) (base := base) (df_of X G c 30 24 rfl rfl) T
    have GLF := ok_lframes (df_of X G c 31 25 rfl rfl) T GLM GLS
    have GLT := ok_lstands (df_of X G c 32 26 rfl rfl) T GLM
    have GLA := ok_lasked (df_of X G c 33 27 rfl rfl) GXx GF GQ GH
    have GRef := ok_refused (df_of X G c 34 28 rfl rfl) GXx NU GBad
    have GScr := ok_scrap (df_of X G c 35 29 rfl rfl) T GDr GAny GGr GLSt
    have GPar := ok_parts (df_of X G c 36 30 rfl rfl) T GDr
    have GFed := ok_fed (df_of X G c 37 31 rfl rfl) T GXx GSame GPar GLF GV GLT GLA GAny GRef GG GDr
    have GRd := ok_isRead (df_of X G c 38 32 rfl rfl) T GSame GLM GFI GSO GST
    exact ok_law F T GXx MG GSame GL GAny GDr GLA GQ GG GScr GFed GLF GRd
end
end K76
open PySem PySem.W PySem.Calls PyProof.Rows
theorem PySem.Challenge.cw_pushedback_k76_whole_gates_and_frames_holds : PySem.Challenge.rw_pushedback_k76_whole_gates_and_frames.Holds := by
  w_on; o_law
  refine HandSHeadRun.head_any (r := K76.RR) (q := view K76.RR.prog [43]) (H := K76.hk) (ob := K76.ob) (M := 4000) (loose := K76.looseN) (d := HandSHeadRun.topDef K76.RR.prog 43) (kwd := []) K76.ob_eq
    (by kernel_rfl) (fun s => by kernel_rfl) K76.run (by kernel_rfl) (by kernel_rfl) (by kernel_rfl) (by rfl) (by first | assumption | decide +kernel) (by decide +kernel) ⟨rfl, rfl, rfl, rfl, rfl, by decide +kernel⟩ ?hw ?hc
  case hw => w_witness2
  case hc =>
    refine K76.walkG (l := PySem.Challenge.rw_pushedback_k76_whole_gates_and_frames) (n := 63) (k := 9) (x := "_law_script") rfl (by decide) (by kernel_rfl) ⟨rfl, by decide, by decide⟩ ?F
    intro w mg fa h Y G hmg0
    obtain ⟨K, KX, c⟩ := Y
    have hmg : mg ("law" : PySem.Str) = some (.ref fa) := by
      have e : (HandSHeadRun.topDef K76.RR.prog 43).name = ("law" : PySem.Str) := by kernel_rfl
      rw [← e]
      exact hmg0
    obtain ⟨fd, hb, hF⟩ := K76.facts (P := (PySem.Challenge.rw_pushedback_k76_whole_gates_and_frames).prog) (w := w) KX G hmg c
    exact ⟨K, fd, K76.spLaw K, KX, hb, fun H a ns hl hS => ⟨a, ns, rfl, hS, hl, fun _ => rfl⟩, hF⟩
