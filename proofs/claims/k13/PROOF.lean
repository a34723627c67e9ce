import PyProof.Rows.All
import Wide.All
import OpenK.AllK
import Wide.FinOn
import KE.GoesEnum
import HandS.Base
import HandS.Call
import HandS.List
import HandS.Comp
import HandS.Dict
import HandS.Iter
import HandS.ForMost
import HandS.Defaults
import HandS.MakeKwOnly
import HandS.IsInst
import HandS.Star
import HandS.Style
import HandS.Strs
import HandS.TupAny
import HandS.Walk
import PyProof.ReprRoads
import HandS.Ends
import KE.KStateDown
import HandS.Head0
import HandS.Head1
import HandS.Head2
import HandS.HeadHook1
import HandS.HeadHook2
import HandS.HeadHook3
import HandS.HeadHook4
import HandS.HeadEnd
import PySem.Challenge.RW_endclimbs_k13_whole_changes_undone
set_option Elab.async false
set_option linter.all false
set_option maxRecDepth 100000
set_option maxHeartbeats 8000000
/-! The plain law: what marks, phases and pairs put in and taken back come to, over lists. -/
namespace EC
/-- a phase: its pairs (move, next) -/
abbrev Ph (α : Type) := List (α × Int)
/-- a rule: marks, phases -/
abbrev Rl (α : Type) := List Int × List (Ph α)
variable {α : Type}
/-- strictly rising -/
def Ris (ms : List Int) : Prop := ms.Pairwise (· < ·)
def low (ms : List Int) (m : Int) : List Int := ms.filter fun x => decide (x < m)
def putM (ms : List Int) (m : Int) : List Int := low ms m ++ m :: ms.drop (low ms m).length
def dropM (ms : List Int) (m : Int) : List Int := ms.filter fun x => decide (x ≠ m)
def wMark (R : Rl α) (m : Int) : Rl α := (putM R.1 m, R.2)
def woMark (R : Rl α) (m : Int) : Rl α := (dropM R.1 m, R.2)
def shiftR (R : Rl α) (b : Int) : Rl α := (R.1.map (· + b), R.2)
/-- a next behind a phase put in at s -/
def upN (s n : Int) : Int := if s ≤ n then n + 1 else n
def upP (s : Int) (ph : Ph α) : Ph α := ph.map fun p => (p.1, upN s p.2)
def wPhase (R : Rl α) (ph : Ph α) (s : Nat) : Rl α := (R.1, (R.2.map (upP s)).take s ++ ph :: (R.2.map (upP s)).drop s)
/-- a next behind a phase that is gone -/
def loN (i n : Int) : Int := if n = i then 0 else if i < n then n - 1 else n
def loP (i : Int) (ph : Ph α) : Ph α := ph.map fun p => (p.1, loN i p.2)
def woPhase (R : Rl α) (i : Nat) : Rl α := (R.1, (R.2.eraseIdx i).map (loP i))
def wPair (R : Rl α) (i k : Nat) (p : α × Int) : Rl α := (R.1, R.2.modify i fun ph => ph.set k p)
/-! ### marks -/
theorem low_all {ms : List Int} {m : Int} (h : ∀ x ∈ ms, m < x) : low ms m = [] := by
  unfold low
  rw [List.filter_eq_nil_iff]
  intro x hx
  have := h x hx
  simp only [decide_eq_true_eq]
  omega
theorem low_cons_lt {ms : List Int} {a m : Int} (h : a < m) : low (a :: ms) m = a :: low ms m := by
  unfold low
  rw [List.filter_cons, if_pos (by simpa using h)]
theorem low_cons_ge {ms : List Int} {a m : Int} (h : ¬ a < m) : low (a :: ms) m = low ms m := by
  unfold low
  rw [List.filter_cons, if_neg (by simpa using h)]
theorem putM_nil (m : Int) : putM [] m = [m] := rfl
theorem putM_lt {ms : List Int} {a m : Int} (h : a < m) : putM (a :: ms) m = a :: putM ms m := by
  unfold putM
  rw [low_cons_lt h]
  simp
theorem putM_gt {ms : List Int} {a m : Int} (r : Ris (a :: ms)) (h : m < a) : putM (a :: ms) m = m :: a :: ms := by
  unfold putM
  have e : low (a :: ms) m = [] := low_all fun x hx => by
    rcases List.mem_cons.mp hx with z | z
    · omega
    · have := (List.pairwise_cons.mp r).1 x z
      omega
  rw [e]
  simp
theorem mem_putM {ms : List Int} {m x : Int} (r : Ris ms) (hm : m ∉ ms) : x ∈ putM ms m ↔ x = m ∨ x ∈ ms := by
  induction ms with
  | nil => simp [putM_nil]
  | cons a ms ih =>
    have ha : a ≠ m := fun e => hm (by simp [e])
    by_cases h : a < m
    · rw [putM_lt h, List.mem_cons, ih (List.pairwise_cons.mp r).2 (fun z => hm (List.mem_cons_of_mem _ z)), List.mem_cons]
      constructor
      · rintro (z | z | z)
        · exact .inr (.inl z)
        · exact .inl z
        · exact .inr (.inr z)
      · rintro (z | z | z)
        · exact .inr (.inl z)
        · exact .inl z
        · exact .inr (.inr z)
    · rw [putM_gt r (by omega), List.mem_cons]
theorem ris_putM {ms : List Int} {m : Int} (r : Ris ms) (hm : m ∉ ms) : Ris (putM ms m) := by
  induction ms with
  | nil => exact List.pairwise_singleton ..
  | cons a ms ih =>
    have ha : a ≠ m := fun e => hm (by simp [e])
    have hm' : m ∉ ms := fun z => hm (List.mem_cons_of_mem _ z)
    have r' := (List.pairwise_cons.mp r).2
    by_cases h : a < m
    · rw [putM_lt h]
      refine List.pairwise_cons.mpr ⟨fun x hx => ?_, ih r' hm'⟩
      rcases (mem_putM r' hm').mp hx with z | z
      · omega
      · exact (List.pairwise_cons.mp r).1 x z
    · rw [putM_gt r (by omega)]
      refine List.pairwise_cons.mpr ⟨fun x hx => ?_, r⟩
      rcases List.mem_cons.mp hx with z | z
      · omega
      · have := (List.pairwise_cons.mp r).1 x z
        omega
theorem ris_dropM {ms : List Int} (m : Int) (r : Ris ms) : Ris (dropM ms m) := r.sublist List.filter_sublist
theorem mem_dropM {ms : List Int} {m x : Int} : x ∈ dropM ms m ↔ x ∈ ms ∧ x ≠ m := by simp [dropM]
theorem dropM_self {ms : List Int} {m : Int} (h : m ∉ ms) : dropM ms m = ms := by
  unfold dropM
  rw [List.filter_eq_self]
  intro x hx
  simp only [decide_eq_true_eq]
  exact fun e => h (e ▸ hx)
theorem dropM_putM {ms : List Int} {m : Int} (r : Ris ms) (hm : m ∉ ms) : dropM (putM ms m) m = ms := by
  induction ms with
  | nil => simp [putM_nil, dropM]
  | cons a ms ih =>
    have ha : a ≠ m := fun e => hm (by simp [e])
    have hm' : m ∉ ms := fun z => hm (List.mem_cons_of_mem _ z)
    have r' := (List.pairwise_cons.mp r).2
    by_cases h : a < m
    · rw [putM_lt h]
      have e := ih r' hm'
      unfold dropM at e ⊢
      rw [List.filter_cons, if_pos (by simpa using ha), e]
    · rw [putM_gt r (by omega)]
      have e := dropM_self hm
      unfold dropM at e ⊢
      rw [List.filter_cons, if_neg (by simp), e]
theorem putM_dropM {ms : List Int} {m : Int} (r : Ris ms) (hm : m ∈ ms) : putM (dropM ms m) m = ms := by
  induction ms with
  | nil => simp at hm
  | cons a ms ih =>
    have r' := (List.pairwise_cons.mp r).2
    have ra := (List.pairwise_cons.mp r).1
    by_cases e : a = m
    · subst e
      have hn : a ∉ ms := fun z => by have := ra a z; omega
      have e1 : dropM (a :: ms) a = ms := by
        have e2 := dropM_self hn
        unfold dropM at e2 ⊢
        rw [List.filter_cons, if_neg (by simp), e2]
      rw [e1]
      have e3 : low ms a = [] := low_all ra
      unfold putM
      rw [e3]
      simp
    · have hm' : m ∈ ms := by
        rcases List.mem_cons.mp hm with z | z
        · exact absurd z.symm e
        · exact z
      have e1 : dropM (a :: ms) m = a :: dropM ms m := by
        unfold dropM
        rw [List.filter_cons, if_pos (by simpa using e)]
      rw [e1, putM_lt (ra m hm'), ih r' hm']
theorem length_putM (ms : List Int) (m : Int) : (putM ms m).length = ms.length + 1 := by
  unfold putM
  have h : (low ms m).length ≤ ms.length := by unfold low; exact List.length_filter_le ..
  rw [List.length_append, List.length_cons, List.length_drop]
  omega
theorem length_dropM (ms : List Int) (m : Int) : (dropM ms m).length ≤ ms.length := List.length_filter_le ..
theorem low_map (ms : List Int) (m b : Int) : low (ms.map (· + b)) (m + b) = (low ms m).map (· + b) := by
  unfold low
  rw [List.filter_map]
  congr 1
  apply List.filter_congr
  intro x _
  show decide (x + b < m + b) = decide (x < m)
  exact decide_eq_decide.mpr (by omega)
theorem putM_map (ms : List Int) (m b : Int) : (putM ms m).map (· + b) = putM (ms.map (· + b)) (m + b) := by
  unfold putM
  rw [low_map, List.map_append, List.map_cons, List.map_drop, List.length_map]
theorem ris_map {ms : List Int} (b : Int) (r : Ris ms) : Ris (ms.map (· + b)) := by
  unfold Ris
  rw [List.pairwise_map]
  exact r.imp fun h => by omega
/-- as the law's own tuple says it -/
theorem putM_own {ms : List Int} {m : Int} (r : Ris ms) (hm : m ∉ ms) : (ms.filter fun x => decide (x < m)) ++ [m] ++ (ms.filter fun x => decide (m < x)) = putM ms m := by
  induction ms with
  | nil => rfl
  | cons a ms ih =>
    have ha : a ≠ m := fun e => hm (by simp [e])
    have hm' : m ∉ ms := fun z => hm (List.mem_cons_of_mem _ z)
    have r' := (List.pairwise_cons.mp r).2
    by_cases h : a < m
    · rw [putM_lt h, ← ih r' hm', List.filter_cons, if_pos (by simpa using h), List.filter_cons (p := fun x => decide (m < x)), if_neg (by simp; omega)]
      rfl
    · rw [putM_gt r (by omega)]
      have e1 : (List.filter (fun x => decide (x < m)) (a :: ms)) = [] := low_all fun x hx => by
        rcases List.mem_cons.mp hx with z | z
        · omega
        · have := (List.pairwise_cons.mp r).1 x z
          omega
      have e2 : (List.filter (fun x => decide (m < x)) (a :: ms)) = a :: ms := List.filter_eq_self.mpr fun x hx => by
        rcases List.mem_cons.mp hx with z | z
        · simp; omega
        · have := (List.pairwise_cons.mp r).1 x z
          simp; omega
      rw [e1, e2]
      rfl
/-! ### what is taken back -/
theorem wo_w_mark {R : Rl α} {m : Int} (r : Ris R.1) (hm : m ∉ R.1) : woMark (wMark R m) m = R := by
  unfold woMark wMark
  rw [dropM_putM r hm]
theorem w_wo_mark {R : Rl α} {m : Int} (r : Ris R.1) (hm : m ∈ R.1) : wMark (woMark R m) m = R := by
  unfold woMark wMark
  rw [putM_dropM r hm]
theorem shift_shift (R : Rl α) (b c : Int) : shiftR (shiftR R b) c = shiftR R (b + c) := by
  unfold shiftR
  rw [List.map_map]
  congr 1
  apply List.map_congr_left
  intro x _
  show x + b + c = x + (b + c)
  omega
theorem shift_zero (R : Rl α) : shiftR R 0 = R := by
  unfold shiftR
  have e : R.1.map (· + 0) = R.1 := by
    rw [List.map_congr_left (g := id) fun x _ => by show x + 0 = x; omega]
    exact List.map_id _
  rw [e]
theorem shift_back (R : Rl α) (b : Int) : shiftR (shiftR R b) (-b) = R := by
  rw [shift_shift, show b + -b = 0 by omega, shift_zero]
theorem loN_upN (s n : Int) : loN s (upN s n) = n := by
  unfold loN upN
  split
  · rw [if_neg (by omega), if_pos (by omega)]
    omega
  · rw [if_neg (by omega), if_neg (by omega)]
theorem loP_upP (s : Int) (ph : Ph α) : loP s (upP s ph) = ph := by
  unfold loP upP
  rw [List.map_map]
  rw [List.map_congr_left (g := id) fun p _ => by show (p.1, loN s (upN s p.2)) = p; rw [loN_upN]]
  exact List.map_id _
theorem erase_mid {β : Type} (l : List β) (x : β) {s : Nat} (h : s ≤ l.length) : (l.take s ++ x :: l.drop s).eraseIdx s = l := by
  have e : (l.take s).length = s := by rw [List.length_take]; omega
  rw [List.eraseIdx_append_of_length_le (by omega), e, Nat.sub_self, List.eraseIdx_zero, List.tail_cons, List.take_append_drop]
theorem wo_w_phase {R : Rl α} (ph : Ph α) {s : Nat} (h : s ≤ R.2.length) : woPhase (wPhase R ph s) s = R := by
  unfold woPhase wPhase
  rw [erase_mid _ _ (by rw [List.length_map]; exact h), List.map_map]
  have e : R.2.map (loP (s : Int) ∘ upP (s : Int)) = R.2 := by
    rw [List.map_congr_left (g := id) fun p _ => by show loP (s : Int) (upP s p) = p; rw [loP_upP]]
    exact List.map_id _
  rw [e]
theorem set_set_self {β : Type} (l : List β) (k : Nat) (x y : β) (h : l[k]? = some y) : (l.set k x).set k y = l := by
  rw [List.set_set]
  apply List.ext_getElem?
  intro i
  by_cases e : k = i
  · subst e
    have hk : k < l.length := by
      rcases Nat.lt_or_ge k l.length with z | z
      · exact z
      · rw [List.getElem?_eq_none z] at h; cases h
    rw [List.getElem?_set_self hk, h]
  · rw [List.getElem?_set_ne e]
theorem pair_back {R : Rl α} {i k : Nat} (p q : α × Int) {ph : Ph α} (hi : R.2[i]? = some ph) (hk : ph[k]? = some q) : wPair (wPair R i k p) i k q = R := by
  unfold wPair
  congr 1
  show (R.2.modify i _).modify i _ = R.2
  apply List.ext_getElem?
  intro j
  rw [List.getElem?_modify, List.getElem?_modify]
  by_cases e : i = j
  · subst e
    rw [hi]
    show some (if i = i then (if i = i then ph.set k p else ph).set k q else _) = some ph
    rw [if_pos rfl, if_pos rfl]
    rw [set_set_self _ _ _ _ hk]
  · simp only [if_neg e]
    cases R.2[j]? <;> rfl
theorem pair_comm (R : Rl α) (i : Nat) {k k' : Nat} (h : k ≠ k') (p q : α × Int) : wPair (wPair R i k p) i k' q = wPair (wPair R i k' q) i k p := by
  unfold wPair
  congr 1
  show (R.2.modify i _).modify i _ = (R.2.modify i _).modify i _
  apply List.ext_getElem?
  intro j
  simp only [List.getElem?_modify]
  by_cases e : i = j
  · subst e
    cases R.2[i]? with
    | none => rfl
    | some ph =>
      show some (if i = i then (if i = i then ph.set k p else ph).set k' q else _) = some (if i = i then (if i = i then ph.set k' q else ph).set k p else _)
      rw [if_pos rfl, if_pos rfl, if_pos rfl, if_pos rfl]
      rw [List.set_comm _ _ h]
  · simp only [if_neg e]
/-! ### two changes in both orders -/
theorem shift_mark (R : Rl α) (m b : Int) : shiftR (wMark R m) b = wMark (shiftR R b) (m + b) := by
  unfold shiftR wMark
  show ((putM R.1 m).map _, R.2) = _
  rw [putM_map]
theorem mark_phase (R : Rl α) (m : Int) (ph : Ph α) (s : Nat) : wMark (wPhase R ph s) m = wPhase (wMark R m) ph s := rfl
theorem shift_phase (R : Rl α) (b : Int) (ph : Ph α) (s : Nat) : shiftR (wPhase R ph s) b = wPhase (shiftR R b) ph s := rfl
theorem shift_wo (R : Rl α) (b : Int) (i : Nat) : shiftR (woPhase R i) b = woPhase (shiftR R b) i := rfl
/-! ### valid rules -/
/-- a phase of a rule of n phases: three pairs, moves of M, nexts below n -/
structure PhOk (M : List α) (n : Nat) (ph : Ph α) : Prop where
  len : ph.length = 3
  mv : ∀ p ∈ ph, p.1 ∈ M
  lo : ∀ p ∈ ph, 0 ≤ p.2
  hi : ∀ p ∈ ph, p.2 < n
structure RlOk (M : List α) (R : Rl α) : Prop where
  ris : Ris R.1
  pos : 0 < R.2.length
  ph : ∀ p ∈ R.2, PhOk M R.2.length p
variable {M : List α} {R : Rl α}
theorem RlOk.mark (h : RlOk M R) {m : Int} (hm : m ∉ R.1) : RlOk M (wMark R m) := ⟨ris_putM h.ris hm, h.pos, h.ph⟩
theorem RlOk.unmark (h : RlOk M R) (m : Int) : RlOk M (woMark R m) := ⟨ris_dropM m h.ris, h.pos, h.ph⟩
theorem RlOk.shift (h : RlOk M R) (b : Int) : RlOk M (shiftR R b) := ⟨ris_map b h.ris, h.pos, h.ph⟩
theorem length_wPhase (R : Rl α) (ph : Ph α) {s : Nat} (h : s ≤ R.2.length) : (wPhase R ph s).2.length = R.2.length + 1 := by
  unfold wPhase
  show ((R.2.map (upP s)).take s ++ ph :: (R.2.map (upP s)).drop s).length = _
  rw [List.length_append, List.length_cons, List.length_take, List.length_drop, List.length_map]
  omega
theorem PhOk.up {n : Nat} {ph : Ph α} (h : PhOk M n ph) (s : Nat) : PhOk M (n + 1) (upP s ph) := by
  unfold upP
  refine ⟨by rw [List.length_map]; exact h.len, fun p hp => ?_, fun p hp => ?_, fun p hp => ?_⟩
  all_goals
    obtain ⟨q, hq, e⟩ := List.mem_map.mp hp
    subst e
    have h1 := h.lo q hq
    have h2 := h.hi q hq
  · exact h.mv q hq
  · show 0 ≤ upN s q.2
    unfold upN
    split <;> omega
  · show upN s q.2 < ((n + 1 : Nat) : Int)
    unfold upN
    split <;> omega
theorem PhOk.lower {n : Nat} {ph : Ph α} (h : PhOk M n ph) (hn : 1 < n) {i : Nat} (hi : i < n) : PhOk M (n - 1) (loP i ph) := by
  unfold loP
  refine ⟨by rw [List.length_map]; exact h.len, fun p hp => ?_, fun p hp => ?_, fun p hp => ?_⟩
  all_goals
    obtain ⟨q, hq, e⟩ := List.mem_map.mp hp
    subst e
    have h1 := h.lo q hq
    have h2 := h.hi q hq
  · exact h.mv q hq
  · show 0 ≤ loN i q.2
    unfold loN
    split
    · omega
    · split <;> omega
  · show loN i q.2 < ((n - 1 : Nat) : Int)
    unfold loN
    split
    · omega
    · split <;> omega
theorem mem_wPhase {R : Rl α} {ph p : Ph α} {s : Nat} (h : p ∈ (wPhase R ph s).2) : p = ph ∨ ∃ q ∈ R.2, p = upP s q := by
  have h : p ∈ (R.2.map (upP s)).take s ++ ph :: (R.2.map (upP s)).drop s := h
  rcases List.mem_append.mp h with z | z
  · obtain ⟨q, hq, e⟩ := List.mem_map.mp (List.mem_of_mem_take z)
    exact .inr ⟨q, hq, e.symm⟩
  · rcases List.mem_cons.mp z with z | z
    · exact .inl z
    · obtain ⟨q, hq, e⟩ := List.mem_map.mp (List.mem_of_mem_drop z)
      exact .inr ⟨q, hq, e.symm⟩
theorem RlOk.phase (h : RlOk M R) {ph : Ph α} {s : Nat} (hs : s ≤ R.2.length) (hp : PhOk M (R.2.length + 1) ph) : RlOk M (wPhase R ph s) := by
  refine ⟨h.ris, by rw [length_wPhase R ph hs]; omega, fun p hp' => ?_⟩
  rw [length_wPhase R ph hs]
  rcases mem_wPhase hp' with e | ⟨q, hq, e⟩
  · rw [e]; exact hp
  · rw [e]; exact (h.ph q hq).up s
theorem length_woPhase (R : Rl α) {i : Nat} (h : i < R.2.length) : (woPhase R i).2.length = R.2.length - 1 := by
  unfold woPhase
  show ((R.2.eraseIdx i).map (loP i)).length = _
  rw [List.length_map, List.length_eraseIdx_of_lt h]
theorem RlOk.unphase (h : RlOk M R) {i : Nat} (hi : i < R.2.length) (hn : 1 < R.2.length) : RlOk M (woPhase R i) := by
  refine ⟨h.ris, by rw [length_woPhase R hi]; omega, fun p hp => ?_⟩
  rw [length_woPhase R hi]
  have hp : p ∈ (R.2.eraseIdx i).map (loP i) := hp
  obtain ⟨q, hq, e⟩ := List.mem_map.mp hp
  rw [← e]
  exact (h.ph q (List.mem_of_mem_eraseIdx hq)).lower hn hi
theorem length_wPair (R : Rl α) (i k : Nat) (p : α × Int) : (wPair R i k p).2.length = R.2.length := by
  unfold wPair
  show (R.2.modify i _).length = _
  rw [List.length_modify]
theorem mid_set {β : Type} (l : List β) (k : Nat) (x : β) (h : k < l.length) : l.take k ++ x :: l.drop (k + 1) = l.set k x := by
  rw [List.set_eq_take_append_cons_drop, if_pos h]
/-- as with_pair builds it -/
theorem pair_own (R : Rl α) {i k : Nat} (p : α × Int) {own : Ph α} (hi : R.2[i]? = some own) (hk : k < own.length) :
    (R.1, R.2.take i ++ (own.take k ++ p :: own.drop (k + 1)) :: R.2.drop (i + 1)) = wPair R i k p := by
  have hl : i < R.2.length := by
    rcases Nat.lt_or_ge i R.2.length with z | z
    · exact z
    · rw [List.getElem?_eq_none z] at hi; cases hi
  unfold wPair
  rw [mid_set own k p hk, mid_set R.2 i _ hl]
  congr 1
  apply List.ext_getElem?
  intro j
  rw [List.getElem?_modify]
  by_cases e : i = j
  · subst e
    rw [List.getElem?_set_self hl, hi]
    show _ = some (if i = i then own.set k p else own)
    rw [if_pos rfl]
  · rw [List.getElem?_set_ne e]
    simp only [if_neg e]
    cases R.2[j]? <;> rfl
end EC
namespace EC
open PySem PySem.Spec PyProof.Rows L2
/-! ### enumerate over a tuple -/
theorem enum_new1 {v : Value} {o : Obj} {G : Heap → Prop} (B : Begins v o G) :
    Meets (Builtin.«enumerate.__new__» ⟨[.type "enumerate", v], []⟩) (fun _ R s => G s.heap ∧ R (.ok (.ret (.ref (s.heap.push o).objs.size)))
        { s with heap := (s.heap.push o).push { cls := .type "enumerate", data := .fields #[.none, .bool false, .ref s.heap.objs.size, rawInt 0, .none, .none] } }) :=
  .of_wp fun prog w A R s h => by
    obtain ⟨hp, g, d, tk, os⟩ := s
    obtain ⟨hG, hR⟩ := h
    have hsub := sub_enumerate
    have go : ∀ {A' : Around} {E : Value → Shared → Prop} {Q : Value → Shared → Prop}, Q (.ref hp.objs.size) ⟨hp.push o, g, d, tk, os⟩ → wpAny (model prog w) A' (pyIter v) Q E ⟨hp, g, d, tk, os⟩ :=
      fun q => B.iter prog w _ _ ⟨hp, g, d, tk, os⟩ _ hG q
    wp_walk using go
    refine wpAny_stack_any fun st => wpAny_pure ?_
    split
    · rename_i c _ _ _ _ _
      cases (c == Value.type "enumerate") <;> (wp_walk using go; exact ⟨_, rfl, hR⟩)
    · wp_walk using go
      exact ⟨_, rfl, hR⟩
theorem enum_make1 {prog : Program} {w : World} {A : Around} {E : Value → Shared → Prop} {s : Shared} {v : Value} {o : Obj} {G : Heap → Prop} {Q : Value → Shared → Prop} (B : Begins v o G) (hG : G s.heap)
    (h : ∀ h', IsEnum h' (s.heap.objs.size + 1) s.heap.objs.size 0 .none → h'.get? s.heap.objs.size = some o → (∀ b u, s.heap.get? b = some u → h'.get? b = some u) → Q (.ref (s.heap.objs.size + 1)) { s with heap := h' }) :
    wpAny (model prog w) A (call (.type "enumerate") [v]) Q E s := by
  refine callType_new F.called_enumerate (by decide) (F.typeCall_enumerate_1 _) (F.newCall_enumerate_1 _) (fun ob => F.args_object_init_2 ob _) F.entry_enumerate_new (enum_new1 B) ⟨hG, ?_⟩
  have hz : (s.heap.push o).objs.size = s.heap.objs.size + 1 := Heap.size_push ..
  show _ ∧ _
  rw [hz]
  have he : IsEnum ((s.heap.push o).push { cls := .type "enumerate", data := .fields #[.none, .bool false, .ref s.heap.objs.size, rawInt 0, .none, .none] }) (s.heap.objs.size + 1) s.heap.objs.size 0 .none := by
    have q := Heap.get?_push_size (s.heap.push o) (o := { cls := .type "enumerate", data := .fields #[.none, .bool false, .ref s.heap.objs.size, rawInt 0, .none, .none] }) rfl
    rw [hz] at q
    exact q
  exact ⟨⟨_, he, rfl⟩, h _ he (Heap.get?_push_of_some _ (Heap.get?_push_size _ B.free)) fun b u x => Heap.get?_push_of_some _ (Heap.get?_push_of_some _ x)⟩
/-- the tuple at a, each item in a new pair with its place -/
def Itu (K : PySem.W.Frag) (a : Addr) : It :=
  ⟨fun i H => ∃ (xs : List V) (x : V), SqT K H a xs ∧ xs[i]? = some x, fun i H v H' => ∃ T x, v = .ref T ∧ H T = none ∧ H' = upd H T (.tup [.int (i : Nat), x]) ∧ ∀ xs, SqT K H a xs → xs[i]? = some x,
    fun i H => ∃ xs : List V, SqT K H a xs ∧ xs.length ≤ i⟩
theorem two_mem {b e it : Addr} (h : b ∈ [e, it]) : b = e ∨ b = it := by simpa using h
theorem turn_enumT {P : Program} {w : World} {K : PySem.W.Frag} {elts : List Expr} {kk : Nat} {tpos : Pos} (a e it : Addr) :
    Turn P w K (.Tuple elts kk tpos) (Itu K a) [e, it] e (fun i h => (∃ old, IsEnum h e it ((i : Nat) : Int) old) ∧ h.IsTupleIter it a i ∧ e ≠ it) where
  mem := by simp
  obj := fun i h st b hb => by
    obtain ⟨⟨old, he⟩, ⟨o, ho, hc, hd⟩, _⟩ := st
    rcases two_mem hb with z | z
    · subst z
      exact ⟨_, he, fun v q => nomatch q⟩
    · subst z
      exact ⟨o, ho, fun v q => by rw [hd] at q; cases q⟩
  keep := fun i h h' st k => by
    obtain ⟨⟨old, he⟩, hi, hne⟩ := st
    exact ⟨⟨old, k e (by simp) _ he⟩, hi.at fun o q => k it (by simp) o q, hne⟩
  item := by
    intro X hP hw hK hc i pins s σ H E I hf st hg
    subst hP hw hK
    obtain ⟨⟨old, he⟩, hit, hne⟩ := st
    obtain ⟨xs, x, hq, hx⟩ := hg
    obtain ⟨its, rv, p, hz⟩ := I.tuple hq
    obtain ⟨u, hu, ru⟩ := rv.get hx
    have pt : s.heap.IsTuple a its.toArray := p
    have nai : a ≠ it := fun z => by
      obtain ⟨o, ho, hcl, _⟩ := id pt
      obtain ⟨o', ho', hcl', _⟩ := id hit
      subst z
      rw [ho] at ho'
      cases ho'
      rw [hcl] at hcl'
      exact absurd (Value.type.inj hcl') (by decide)
    have nae : e ≠ a := fun z => by
      obtain ⟨o, ho, hcl, _⟩ := id pt
      subst z
      have he' : s.heap.get? e = some _ := he
      rw [ho] at he'
      cases he'
      exact absurd (Value.type.inj hcl) (by decide)
    have hel : e < s.heap.objs.size := Heap.lt_size he
    have hil : it < s.heap.objs.size := by
      obtain ⟨_, q, _⟩ := id hit
      exact Heap.lt_size q
    have hlt : i < its.toArray.size := by
      rcases Nat.lt_or_ge i its.length with z | z
      · simpa using z
      · rw [List.getElem?_eq_none z] at hu
        cases hu
    refine wpAny_pyNext_enum_itemD (Draws.tuple (A := X.A.in1) (I.ok.hd hc) it a nai its.toArray) he ⟨hit, pt⟩ hlt hne (by simp [hne, nae]) fun y h' tk hy ho hit' hT hsz hk => ?_
    have ey : y = u := by
      have hy' : its.toArray[i]? = some y := hy
      rw [List.getElem?_toArray, hu] at hy'
      exact (Option.some.inj hy').symm
    subst ey
    refine ⟨_, rfl, wpAny_letOwnedTupleGo_enum (s := { s with heap := h', toks := tk + 1 }) ho fun h2 he2 sb => ?_⟩
    have hT2 : h2.get? s.heap.objs.size = some { cls := .type "tuple", data := .seq #[.int i tk, y] } := (sb.2 _ (Nat.ne_of_gt hel)).trans hT
    have new : ObjOk X.prog X.w (upd H s.heap.objs.size (.tup [.int (i : Nat), x])) h2 s.heap.objs.size (.tup [.int (i : Nat), x]) :=
      ⟨by show 2 ≤ sizeLine; decide, [.int i tk, y], .cons ⟨_, rfl⟩ (.cons ru .nil), ⟨_, hT2, rfl, _, rfl⟩⟩
    have kb : ∀ b ob, b ∉ [e, it] → s.heap.get? b = some ob → h2.get? b = some ob := fun b ob hb q => by
      have n1 : b ≠ e := fun z => hb (by simp [z])
      have n2 : b ≠ it := fun z => hb (by simp [z])
      exact (sb.2 b n1).trans (hk b ob n1 n2 q)
    have I1 := I.turnedNew (t' := tk + 1) (ch := [e, it]) kb hf (Nat.le_refl _) new
    refine ⟨.ref s.heap.objs.size, _, I1, rfl, ⟨_, x, rfl, I.hok.fresh (Nat.le_refl _), rfl, fun ys hy => by rw [I.tuple_inj hy hq]; exact hx⟩, ⟨⟨y, ?_⟩, hit'.1.at fun o q => (sb.2 it (Ne.symm hne)).trans q, hne⟩, fun b hb => ?_⟩
    · have e1 : ((i + 1 : Nat) : Int) = (i : Int) + 1 := by omega
      rw [e1]
      exact he2
    · have hb' : b < s.heap.objs.size := by
        rcases two_mem hb with z | z
        · rw [z]; exact hel
        · rw [z]; exact hil
      rw [upd_ne (Nat.ne_of_lt hb')]
      exact (hf b hb).1
  done := by
    intro X hP hw hK hc i pins s σ H E I hf st hg
    subst hP hw hK
    obtain ⟨⟨old, he⟩, hit, hne⟩ := st
    obtain ⟨xs, hq, hx⟩ := hg
    obtain ⟨its, rv, p, hz⟩ := I.tuple hq
    obtain ⟨f0, f1, f2, f3, f4, f5⟩ := hf it (by simp)
    have hl := rv.length
    have pt : s.heap.IsTuple a its.toArray := p
    have hT : s.TypeIs (.ref e) "enumerate" := ⟨_, he, rfl⟩
    unfold pyNext
    refine wpAny_bind (wpAny_attempt (wpAny_callSpecial?_slot (name := Str.ofString "__next__") hT F.slot_enumerate_next (wpAny_call_entry F.slot_enumerate_next hT F.entry_enumerate_next ?_ (F.args_enumerate_next_1 _))))
    show wpAny _ _ (field (.ref e) 2 >>= _) _ _ _
    refine wpAny_bind (wpAny_field he rfl (x := .ref it) rfl ?_)
    refine wpAny_bind (wpAny_nextOf_tuple_end (A := X.A.in1) (I.ok.hd hc) hit pt (by simp; omega) fun h' x hb hx' => ?_)
    obtain ⟨o, ho, hcl⟩ := hx'
    refine wpAny_bind (wpAny_isInstance (T := "StopIteration") (b := true) ⟨o, ho, hcl⟩ isSubtype_stop ?_)
    exact wpAny_pure ⟨rfl, I.turned (t' := s.toks) (fun b o' hb' q => hb b o' hb' q) f0 f1 f3 f4 f5⟩
  self := fun A i s Q E st h => by
    obtain ⟨⟨_, he⟩, _⟩ := st
    exact wpAny_pyIter_enum he h
def iEnumT (K : PySem.W.Frag) (ta : TA) : TI := fun σ H R => ta σ H fun vs H1 => ∃ a xs, vs = [.ref a] ∧ SqT K H1 a xs ∧ R (Itu K a) H1
theorem pi_enumT {X : Cx} {e : Expr} {ta : TA} {p pos tpos : Pos} {elts : List Expr} {kk : Nat} (hg : Gl X "enumerate") (hm : X.mg "enumerate" = none) (ha : PA X [e] ta) (hs : starEach [e] X.env = [(false, eval e X.env)] := by rfl) :
    PI X (.Tuple elts kk tpos) (.Call (.Name "enumerate" p) [e] [] pos) (iEnumT X.K ta) := by
  refine ⟨fun pins s σ H R I h => ?_⟩
  refine Call_ (ld_blt I hg hm boot_enumerate (PyProof.Rows.callWith_type1 (thn (ha.run pos pins s σ H _ I h) fun us s1 ⟨vs, H1, I1, r1, q1⟩ => ?_) hs rfl))
  obtain ⟨a, xs, ex, hq, q⟩ := q1
  subst ex
  cases r1 with
  | cons r rr =>
    cases rr
    cases r
    obtain ⟨its, rv, p', hz⟩ := I1.tuple hq
    refine enum_make1 (begins_tuple a its.toArray) p' fun h' he hit hk => wpAny_pyIter_enum he ?_
    have I2 : Inv X pins σ H1 { s1 with heap := h' } := I1.kept (t' := s1.toks) hk
    refine ⟨s1.heap.objs.size + 1, [s1.heap.objs.size + 1, s1.heap.objs.size], _, _, H1, rfl, I2, turn_enumT a (s1.heap.objs.size + 1) s1.heap.objs.size, ⟨⟨.none, he⟩, ⟨_, hit, rfl, rfl⟩, Nat.succ_ne_self _⟩, fun b hb => ?_, q⟩
    have hle : s1.heap.objs.size ≤ b := by
      rcases two_mem hb with z | z
      · rw [z]; exact Nat.le_add_right _ _
      · rw [z]; exact Nat.le_refl _
    exact I1.fpOk hle (I1.hok.fresh hle)
end EC
namespace EC
open PySem PySem.Spec PyProof.Rows L2
/-! ### repr of data -/
def rRepr (K : PySem.W.Frag) : List V → Hp → VK → Prop := fun xs H Q => ∃ a d, xs = [.ref a] ∧ Dp K H (.ref a) d ∧ d.showable = true ∧ d.hasDict = false ∧ d.depth ≤ 100 ∧ d.shown.length ≤ sizeLine ∧ Q (.str d.shown) H
theorem call_reprD {X : Cx} {K : PySem.W.Frag} (hK : X.K = K) (hg : X.A.guards = some []) (hu : X.A.units + 200 < cLine) : CallR X (.builtin "repr") (rRepr K) := by
  subst hK
  intro pins s σ H xs us Q I r h
  obtain ⟨a, d, rfl, hd, hs, hn, hz, hl, q⟩ := h
  obtain ⟨u, rfl, ru⟩ := Vals.one r
  obtain ⟨as, rd⟩ := Dp.reads I d _ u hd ru
  cases (show u = Value.ref a from ru)
  exact repr_of_reads' rd hs (PyData.noDict_hsm hn) hg (by omega) (fun b o e => e) (fun h' t tk hk => ⟨.str d.shown, H, I.kept hk, ⟨_, rfl⟩, q⟩) hl
/-! ### defs, where nothing is being shown around -/
structure Rm (k : Nat) (A : Around) : Prop where
  r : Room k A
  g : A.guards = some []
theorem Rm.mono {j k : Nat} {A : Around} (h : Rm k A) (l : j ≤ k) : Rm j A := ⟨h.r.mono l, h.g⟩
theorem Rm.deeper {k : Nat} {A : Around} (h : Rm (k + 1) A) (env : Env) : Rm k (A.deeper env) := ⟨h.r.deeper env, h.g⟩
theorem Rm.un {k : Nat} {A : Around} (h : Rm k A) : A.units + 200 < cLine := by have := h.r.un; omega
theorem Rm.hu {k : Nat} {A : Around} (h : Rm k A) : A.units + 64 < cLine := by have := h.r.un; omega
/-- a promise: arguments, heap, what is wanted behind it -/
abbrev Pm := List V → Hp → VK → Prop
section
variable {P : Program} {w : World} {K : PySem.W.Frag} {mg : Str → Option Value} {base : Heap}
def Runs (P : Program) (w : World) (K : PySem.W.Frag) (mg : Str → Option Value) (base : Heap) (k : Nat) (f : Addr) (fd : FuncData) (ps : List Str) (sp : Pm) : Prop :=
  (∀ vs H Q, sp vs H Q → vs.length = ps.length) ∧
  ∀ (A : Around) (outer : List Env) (s : Shared) (H : Hp) (args : Args) (us : List Value) (vs : List V) (Q : VK), Rm k A → Env0 P w K mg base A outer s H → BindsTo s fd args (ps.zip us) → Vals vs us → sp vs H Q →
    codeAny (model P w) A (.call (.ref f) args) (CR CX0 outer P w H s Q E0) s
/-- the def called x of the module -/
structure Own (P : Program) (w : World) (K : PySem.W.Frag) (mg : Str → Option Value) (base : Heap) (k : Nat) (x : Str) (ps : List Str) (sp : Pm) : Prop where
  ex : ∃ (f : Addr) (fd : FuncData), mg x = some (.ref f) ∧ PySem.W.keepIn K (.ref f) = true ∧ Binds K fd ps [] ∧ Runs P w K mg base k f fd ps sp
theorem runs_of {k : Nat} {f : Addr} {x qual : Str} {params : Arguments} {body : List Stmt} {scope : Scope} {dvs : List V} {kws : List (Str × V)} {fd : FuncData} {N ps : List Str} {sp : Pm}
    (F : FunD K x qual params body scope dvs kws f fd) (S : FnScope N ps scope) (len : ∀ vs H Q, sp vs H Q → vs.length = ps.length)
    (hbody : ∀ (cdv : Value) (A : Around) (outer : List Env) (s : Shared) (H : Hp) (vs : List V) (Q : VK), Rm k (A.deeper (envOfC qual scope s.heap.objs.size f cdv)) → sp vs H Q →
      ∃ t, PSs (cxOf CX0 P w K mg base N qual scope f cdv A outer s H E0).nox body t ∧ t { nx := fun _ H' => Q .non H', rt := Q } (start N vs) H) : Runs P w K mg base (k + 1) f fd ps sp := by
  obtain ⟨oc, od, dV, kV, doc, pm, an, cdv, ct, osl, rfl, lk, hcd, _, _⟩ := F.ex
  refine ⟨len, fun A outer s H args us vs Q hr e0 hb r hsp => ?_⟩
  have hl := len _ _ _ hsp
  have KX : K.In s.heap := e0.mod.kin.keeps fun b o e => (e0.bs b o e).1
  have lim : s.heap.NoLimit := e0.mod.nolimit.keeps fun b o e => (e0.bs b o e).1
  have kinds : ∀ y ∈ ps.zip us, scope.names.lookup y.1 = some .local ∨ (scope.names.lookup y.1 = some .cell ∧ ((cellsFrom (s.heap.objs.size + 1) scope.names []).lookup y.1).isSome = true) := by
    rintro ⟨n, v⟩ hy
    rcases S.par n (List.of_mem_zip hy).1 with q | q
    · exact .inl q
    · exact .inr ⟨q, PySem.W.cellsFrom_some _ _ _ (.inl q)⟩
  refine codeAny_call_function hr.r.depth (KX _ _ lk) rfl S.co S.gen rfl (PySem.W.codeRec_of KX hcd) (hb _ _ _ _ (wpAny_newFunctionEnv_cells S.kind kinds fun env he s1 x => ?_))
  subst he
  refine ⟨lim.keeps x.toInCall.keep, codeAny_func ?_⟩
  obtain ⟨t, ht, hq⟩ := hbody cdv A outer s H vs Q (hr.deeper _) hsp
  have I := inv_start (CX := CX0) (E := E0) (cd := cdv) (f := f) (qual := qual) S hr.r.hd e0 hl r x
  have fin : ∀ {σ' : L2.St} {H' : Hp} {v : V} {u : Value} {s' : Shared}, Inv (cxOf CX0 P w K mg base N qual scope f cdv A outer s H E0) [] σ' H' s' → RelV v u → Q v H' → CE outer P w H s Q u s' :=
    fun {σ' H' v u s'} J rv q => ⟨v, H', J.os, J.bare, J.base, J.hok, rv, q⟩
  refine wpAny_mono (ht.nox.run [] s1 (start N vs) H _ I hq) (fun fl s' hs => ?_) fun e s' hs => hs
  cases fl with
  | ret u =>
    obtain ⟨v, σ', H', J, rv, q⟩ := hs
    exact fin J rv q
  | next =>
    obtain ⟨σ', H', J, q⟩ := hs
    exact fin (v := V.non) (u := Value.none) J rfl q
  | brk =>
    obtain ⟨_, _, _, q⟩ := hs
    exact q.elim
  | cont =>
    obtain ⟨_, _, _, q⟩ := hs
    exact q.elim
end
section
variable {X : Cx} {j k : Nat} {x : Str} {ps : List Str} {sp : Pm} {p pos : Pos} {e : Expr} {es : List Expr} {t : TA}
theorem run_runs {pins : List (Addr × Obj)} {σ : L2.St} {H : Hp} {s : Shared} {Q : VK} {f : Addr} {fd : FuncData} {us : List Value} {args : Args} {vs : List V} (F : Runs X.prog X.w X.K X.mg X.base k f fd ps sp) (hr : Rm k X.A) (I : Inv X pins σ H s)
    (hb : BindsTo s fd args (ps.zip us)) (r : Vals vs us) (h : sp vs H Q) : wpAny (model X.prog X.w) X.A (call (.ref f) args.pos args.kw) (EP X pins σ Q) X.xe s := by
  refine wpAny_call (codeAny_mono (F.2 X.A X.stack s H args us vs Q hr I.env0 hb r h) fun r s' hq => ?_)
  cases r with
  | error e => exact hq.elim
  | ok fl =>
    cases fl with
    | ret u => exact I.after hq
    | next => exact hq.elim
    | brk => exact hq.elim
    | cont => exact hq.elim
/-- x(e, ..) -/
def tOwn (sp : Pm) (t : TA) : TE := fun σ H Q => t σ H fun vs H1 => sp vs H1 Q
theorem pe_own (G : Own X.prog X.w X.K X.mg X.base k x ps sp) (hr : Rm j X.A) (hg : Gl X x) (ha : PA X (e :: es) t) (hjk : k ≤ j := by decide) (hdb : (x == ("__debug__" : Str)) = false := by decide)
    (he : starEach (e :: es) X.env = (false, eval e X.env) :: starEach es X.env := by rfl) (hpl : (backTo pos (starEach es X.env)).any (·.1) = false := by rfl) : PE X (.Call (.Name x p) (e :: es) [] pos) (tOwn sp t) := by
  obtain ⟨f, fd, hm, hk, hb, F⟩ := G.ex
  refine ⟨fun pins s σ H Q I h => ?_⟩
  refine wpAny_Call_Name_kw (ld_glob I hg hm ?_ hdb)
  refine PySem.W.callWith_K (h₀ := X.base) I.ok.mod.kin hk (thn (ha.run pos pins s σ H _ I h) fun us s1 ⟨vs, H1, I1, r, q⟩ => ⟨I1.kIn, ?_⟩) he hpl
  have hl : us.length = ps.length := by rw [← r.length]; exact F.1 _ _ _ q
  have hb2 := hb s1 us I1.kIn (by rw [List.append_nil]; exact hl)
  rw [List.append_nil] at hb2
  exact run_runs (args := ⟨us, []⟩) F (hr.mono hjk) I1 hb2 r q
end
end EC
namespace EC
open PySem PySem.Spec PyProof.Rows L2
/-! ### heaps -/
/-- tuples and known things stand as they stood -/
structure Tk (H H' : Hp) : Prop where
  t : ∀ b xs, H b = some (.tup xs) → H' b = some (.tup xs)
  z : ∀ b o u, H b = some (.frz o u) → H' b = some (.frz o u)
theorem Tk.refl (H : Hp) : Tk H H := ⟨fun _ _ h => h, fun _ _ _ h => h⟩
theorem Tk.trans {H H1 H2 : Hp} (a : Tk H H1) (b : Tk H1 H2) : Tk H H2 := ⟨fun c x h => b.t c x (a.t c x h), fun c o u h => b.z c o u (a.z c o u h)⟩
theorem tk_same {H H' : Hp} (s : Same H H') : Tk H H' := ⟨fun _ _ h => s _ _ h, fun _ _ _ h => s _ _ h⟩
theorem tk_upd {H : Hp} {p : Addr} {o : HO} (h : H p = none ∨ ∃ xs, H p = some (.lst xs)) : Tk H (upd H p o) := by
  have ne : ∀ b u, H b = some u → (∀ xs, u ≠ .lst xs) → b ≠ p := fun b u e n z => by
    subst z
    rcases h with q | ⟨xs, q⟩
    · rw [q] at e; cases e
    · rw [q] at e; cases e; exact n xs rfl
  exact ⟨fun b xs e => by rw [upd_ne (ne b _ e fun _ z => nomatch z)]; exact e, fun b o u e => by rw [upd_ne (ne b _ e fun _ z => nomatch z)]; exact e⟩
theorem same_new {H : Hp} {p : Addr} {o : HO} (h : H p = none) : Same H (upd H p o) := fun b u e => by rw [upd_ne (ne_of_none e h)]; exact e
/-- what was not there at H0 may be changed -/
theorem same_upd {H0 H : Hp} {p : Addr} {o : HO} (s : Same H0 H) (h : H0 p = none) : Same H0 (upd H p o) := fun b u e => by rw [upd_ne (ne_of_none e h)]; exact s b u e
/-- all but f is as it was -/
def SB (f : Addr) (H H' : Hp) : Prop := ∀ b o, b ≠ f → H b = some o → H' b = some o
theorem SB.refl (f : Addr) (H : Hp) : SB f H H := fun _ _ _ h => h
theorem SB.trans {f : Addr} {H H1 H2 : Hp} (a : SB f H H1) (b : SB f H1 H2) : SB f H H2 := fun c o n h => b c o n (a c o n h)
theorem sb_same {f : Addr} {H H' : Hp} (s : Same H H') : SB f H H' := fun b o _ h => s b o h
theorem SB.upd {f : Addr} {H0 H : Hp} {p : Addr} {o : HO} (s : SB f H0 H) (h : H0 p = none) : SB f H0 (upd H p o) := fun b u n e => by rw [upd_ne (ne_of_none e h)]; exact s b u n e
theorem SB.tk {f : Addr} {H H' : Hp} (s : SB f H H') (h : ∃ xs, H f = some (.lst xs)) : Tk H H' := by
  obtain ⟨xs, e⟩ := h
  exact ⟨fun b ys q => s b _ (ne_of q e fun z => nomatch z) q, fun b o u q => s b _ (ne_of q e fun z => nomatch z) q⟩
/-- what is new since H1 is as it was -/
def NK (H1 H H' : Hp) : Prop := ∀ b o, H1 b = none → H b = some o → H' b = some o
theorem nk_same {H1 H H' : Hp} (s : Same H H') : NK H1 H H' := fun b o _ h => s b o h
theorem nk_sb {f : Addr} {H1 H H' : Hp} (s : SB f H H') (h : ∃ u, H1 f = some u) : NK H1 H H' := fun b o n e => s b o (fun z => by
  obtain ⟨u, q⟩ := h
  subst z
  rw [n] at q
  cases q) e
/-! ### data -/
section
variable {K : PySem.W.Frag} {H H' : Hp}
theorem sqT_tk {a : Addr} {xs : List V} (k : Tk H H') (h : SqT K H a xs) : SqT K H' a xs := by
  rcases h with (h | ⟨o, h⟩) | h
  · exact .inl (.inl (k.t _ _ h))
  · exact .inl (.inr ⟨o, k.z _ _ _ h⟩)
  · exact .inr h
theorem sqL_sb {f a : Addr} {xs : List V} (s : SB f H H') (n : a ≠ f) (h : SqL K H a xs) : SqL K H' a xs := by
  rcases h with (h | ⟨o, h⟩) | h
  · exact .inl (.inl (s _ _ n h))
  · exact .inl (.inr ⟨o, s _ _ n h⟩)
  · exact .inr h
/-- a pair (move, next) -/
def Pr (K : PySem.W.Frag) (H : Hp) (v : V) (p : Str × Int) : Prop := ∃ a, v = .ref a ∧ SqT K H a [.str p.1, .int p.2]
def Phs (K : PySem.W.Frag) (H : Hp) (v : V) (ph : Ph Str) : Prop := ∃ a xs, v = .ref a ∧ SqT K H a xs ∧ Paired (Pr K H) xs ph
def Mks (K : PySem.W.Frag) (H : Hp) (v : V) (ms : List Int) : Prop := ∃ a, v = .ref a ∧ SqT K H a (ms.map V.int)
def PhL (K : PySem.W.Frag) (H : Hp) (v : V) (l : List (Ph Str)) : Prop := ∃ a xs, v = .ref a ∧ SqT K H a xs ∧ Paired (Phs K H) xs l
def Rul (K : PySem.W.Frag) (H : Hp) (v : V) (R : Rl Str) : Prop := ∃ a x y, v = .ref a ∧ SqT K H a [x, y] ∧ Mks K H x R.1 ∧ PhL K H y R.2
theorem Pr.tk {v : V} {p : Str × Int} (k : Tk H H') (h : Pr K H v p) : Pr K H' v p := let ⟨a, e, q⟩ := h; ⟨a, e, sqT_tk k q⟩
theorem Phs.tk {v : V} {p : Ph Str} (k : Tk H H') (h : Phs K H v p) : Phs K H' v p := let ⟨a, xs, e, q, r⟩ := h; ⟨a, xs, e, sqT_tk k q, Paired.mapP r fun _ _ z => z.tk k⟩
theorem Mks.tk {v : V} {p : List Int} (k : Tk H H') (h : Mks K H v p) : Mks K H' v p := let ⟨a, e, q⟩ := h; ⟨a, e, sqT_tk k q⟩
theorem PhL.tk {v : V} {p : List (Ph Str)} (k : Tk H H') (h : PhL K H v p) : PhL K H' v p := let ⟨a, xs, e, q, r⟩ := h; ⟨a, xs, e, sqT_tk k q, Paired.mapP r fun _ _ z => z.tk k⟩
theorem Rul.tk {v : V} {R : Rl Str} (k : Tk H H') (h : Rul K H v R) : Rul K H' v R := let ⟨a, x, y, e, q, r, s⟩ := h; ⟨a, x, y, e, sqT_tk k q, r.tk k, s.tk k⟩
theorem tyT {a : Addr} {xs : List V} (h : SqT K H a xs) : TyX K H (.ref a) (.type "tuple") := by
  rcases h with (h | ⟨o, h⟩) | ⟨o, its, n, h, c, _⟩
  · exact .base (.tup h)
  · exact .fTuple h
  · exact .kTuple h c
theorem paired_at {α β : Type} {F : α → β → Prop} : ∀ {xs : List α} {ys : List β}, Paired F xs ys → ∀ {i : Nat} {x : α}, xs[i]? = some x → ∃ y, ys[i]? = some y ∧ F x y
  | _, _, .nil, i, x, e => by simp at e
  | _, _, .cons r t, 0, x, e => by simp at e; subst e; exact ⟨_, rfl, r⟩
  | _, _, .cons r t, i + 1, x, e => by
    obtain ⟨y, h1, h2⟩ := paired_at t (i := i) (x := x) (by simpa using e)
    exact ⟨y, by simpa using h1, h2⟩
theorem paired_ta {α β : Type} {F : α → β → Prop} {xs : List α} {ys : List β} (h : Paired F xs ys) {i : Nat} {y : β} (e : ys[i]? = some y) : ∃ x, xs[i]? = some x ∧ F x y := by
  have hl := h.length
  have hi : i < ys.length := by
    rcases Nat.lt_or_ge i ys.length with z | z
    · exact z
    · rw [List.getElem?_eq_none z] at e; cases e
  have hi' : i < xs.length := by omega
  obtain ⟨y', h1, h2⟩ := paired_at h (i := i) (x := xs[i]) (by simp [hi'])
  rw [e] at h1
  cases h1
  exact ⟨xs[i], by simp [hi'], h2⟩
theorem paired_of {α β : Type} {F : α → β → Prop} : ∀ {xs : List α} {ys : List β}, xs.length = ys.length → (∀ (i : Nat) x y, xs[i]? = some x → ys[i]? = some y → F x y) → Paired F xs ys
  | [], [], _, _ => .nil
  | x :: xs, y :: ys, hl, h => .cons (h 0 x y rfl rfl) (paired_of (by simpa using hl) fun i a b h1 h2 => h (i + 1) a b (by simpa using h1) (by simpa using h2))
theorem paired_app {α β : Type} {F : α → β → Prop} {x1 x2 : List α} {y1 y2 : List β} (h1 : Paired F x1 y1) (h2 : Paired F x2 y2) : Paired F (x1 ++ x2) (y1 ++ y2) := by
  induction h1 with
  | nil => exact h2
  | cons r t ih => exact .cons r ih
theorem paired_take {α β : Type} {F : α → β → Prop} {xs : List α} {ys : List β} (h : Paired F xs ys) : ∀ n : Nat, Paired F (xs.take n) (ys.take n) := by
  induction h with
  | nil => intro n; simp; exact .nil
  | cons r t ih => intro n; cases n with
    | zero => exact .nil
    | succ n => exact .cons r (ih n)
theorem paired_drop {α β : Type} {F : α → β → Prop} {xs : List α} {ys : List β} (h : Paired F xs ys) : ∀ n : Nat, Paired F (xs.drop n) (ys.drop n) := by
  induction h with
  | nil => intro n; simp; exact .nil
  | cons r t ih => intro n; cases n with
    | zero => exact .cons r t
    | succ n => exact ih n
end
/-! ### rules whose heaps are told by what stays -/
section
variable {X : Cx} {e : Expr} {es : List Expr} {t : TA} {pos : Pos}
theorem PE.weak {t t' : TE} (h : PE X e t) (w : ∀ σ H Q, t' σ H Q → t σ H Q) : PE X e t' := ⟨fun pins s σ H Q I q => h.run pins s σ H Q I (w σ H Q q)⟩
def tTupS (K : PySem.W.Frag) (t : TA) : TE := fun σ H Q => t σ H fun xs H1 => xs.length ≤ sizeLine ∧ ∀ p H2, Same H1 H2 → SqT K H2 p xs → Q (.ref p) H2
def tLstS (t : TA) : TE := fun σ H Q => t σ H fun xs H1 => xs.length ≤ sizeLine ∧ ∀ p H2, H1 p = none → Same H1 H2 → H2 p = some (.lst xs) → Q (.ref p) H2
end
/-- argument lists, by what is asked of all items -/
structure PAm (X : Cx) (es : List Expr) (t : TA) : Prop where
  pa : PA X es t
  mono : ∀ σ H Q Q', (∀ xs H1, Q xs H1 → Q' xs H1) → t σ H Q → t σ H Q'
section
variable {X : Cx}
theorem pe_tupS {K : PySem.W.Frag} {es : List Expr} {t : TA} {pos : Pos} {x1 : Nat} (hK : X.K = K) (h : PA X es t) : PE X (.Tuple es x1 pos) (tTupS K t) := by
  subst hK
  refine ⟨fun pins s σ H Q I hq => ?_⟩
  refine wpAny_Tuple_spliced (thn (h.run pos pins s σ H _ I hq) fun us s1 ⟨xs, H1, I1, r, z, q⟩ => ⟨by rw [← r.length]; exact z, ?_⟩)
  have hf : H1 s1.heap.objs.size = none := I1.hok.fresh (Nat.le_refl _)
  have I2 := I1.laid (a := s1.heap.objs.size) (o := .tup xs) (t' := s1.toks) (h' := s1.heap.push { cls := .type "tuple", data := .seq us.toArray }) (fun b u e => Heap.get?_push_of_some _ e) (Nat.le_refl _) ⟨z, us, r, ⟨_, Heap.get?_push_size _ rfl, rfl, _, rfl⟩⟩
  exact ⟨.ref s1.heap.objs.size, _, I2, rfl, q _ _ (same_new hf) (SqT.of upd_same)⟩
theorem pe_lstS {es : List Expr} {t : TA} {pos : Pos} (h : PA X es t) : PE X (.List es pos) (tLstS t) := by
  refine ⟨fun pins s σ H Q I hq => ?_⟩
  refine wpAny_List_spliced (thn (h.run pos pins s σ H _ I hq) fun us s1 ⟨xs, H1, I1, r, z, q⟩ => ⟨by rw [← r.length]; exact z, ?_⟩)
  have hf : H1 s1.heap.objs.size = none := I1.hok.fresh (Nat.le_refl _)
  have I2 := I1.laid (a := s1.heap.objs.size) (o := .lst xs) (t' := s1.toks) (h' := s1.heap.push { cls := .type "list", data := .seq us.toArray }) (fun b u e => Heap.get?_push_of_some _ e) (Nat.le_refl _) ⟨z, us, 0, r, Heap.get?_push_size _ rfl⟩
  exact ⟨.ref s1.heap.objs.size, _, I2, rfl, q _ _ hf (same_new hf) upd_same⟩
/-- t[lo:hi] -/
def rSlS (K : PySem.W.Frag) : V → Option Int → Option Int → Hp → VK → Prop := fun x lo hi H Q => ∃ a xs, x = .ref a ∧ SqT K H a xs ∧ ∀ p H', Same H H' → SqT K H' p (cutV xs lo hi) → Q (.ref p) H'
theorem sl_tupS : SlR X (rSlS X.K) := by
  intro pins s σ H x v vl vu lo hi sl Q I rx hs pl pu h
  obtain ⟨a, xs, rfl, hx, q⟩ := h
  refine sl_tupA pins s σ H _ v vl vu lo hi sl Q I rx hs pl pu ⟨a, xs, rfl, hx, fun hw => q a H (Same.refl H) ?_, fun _ p hp => q p _ (same_new hp) (SqT.of upd_same)⟩
  have e : cutV xs lo hi = xs := by
    unfold cutV
    rw [hw.1, hw.2, List.drop_zero, Nat.sub_zero, List.take_length]
  rw [e]
  exact hx
/-- xs[lo:hi] of a list -/
def rSlLS (K : PySem.W.Frag) : V → Option Int → Option Int → Hp → VK → Prop := fun x lo hi H Q => ∃ a xs, x = .ref a ∧ SqL K H a xs ∧ ∀ p H', H p = none → Same H H' → H' p = some (.lst (cutV xs lo hi)) → Q (.ref p) H'
theorem sl_listS : SlR X (rSlLS X.K) := by
  intro pins s σ H x v vl vu lo hi sl Q I rx hs pl pu h
  obtain ⟨a, xs, rfl, hx, q⟩ := h
  exact sl_list pins s σ H _ v vl vu lo hi sl Q I rx hs pl pu ⟨a, xs, rfl, hx, fun p hp => q p _ hp (same_new hp) upd_same⟩
/-- xs + ys of lists -/
def rCatS : R2 := fun x y H Q => ∃ l b xs zs, x = .ref l ∧ y = .ref b ∧ H l = some (.lst xs) ∧ H b = some (.lst zs) ∧ xs.length + zs.length ≤ sizeLine ∧ ∀ p H', H p = none → Same H H' → H' p = some (.lst (xs ++ zs)) → Q (.ref p) H'
theorem op_catS : OpR X (binaryOp .Add) rCatS := by
  intro pins s σ H x y v u Q I rx ry h
  obtain ⟨l, b, xs, zs, rfl, rfl, hl, hb, hz, q⟩ := h
  exact op_cat pins s σ H _ _ v u Q I rx ry ⟨l, b, xs, zs, rfl, rfl, hl, hb, hz, fun p hp => q p _ hp (same_new hp) upd_same⟩
/-- tuple(a list) -/
def rTupL (K : PySem.W.Frag) : List V → Hp → VK → Prop := fun xs H Q => ∃ p ys, xs = [.ref p] ∧ SqL K H p ys ∧ ∀ q H', Same H H' → SqT K H' q ys → Q (.ref q) H'
theorem call_tupL : CallR X (.type "tuple") (rTupL X.K) := by
  intro pins s σ H xs us Q I r h
  obtain ⟨p, ys, rfl, hp, q⟩ := h
  exact call_tuple_of pins s σ H _ us Q I r ⟨p, ys, rfl, .inl ⟨hp, fun l hl => q l _ (same_new hl) (SqT.of upd_same)⟩⟩
end
/-! ### comprehensions -/
/-- the kept ones' values, in order -/
inductive Sel (keep : Nat → Bool) (T : Nat → V → Prop) : Nat → List V → Prop
  | zero : Sel keep T 0 []
  | kept {i : Nat} {ys : List V} {y : V} : keep i = true → T i y → Sel keep T i ys → Sel keep T (i + 1) (ys ++ [y])
  | left {i : Nat} {ys : List V} : keep i = false → Sel keep T i ys → Sel keep T (i + 1) ys
theorem Sel.mono {keep : Nat → Bool} {T T' : Nat → V → Prop} (h : ∀ i y, T i y → T' i y) {n : Nat} {ys : List V} (s : Sel keep T n ys) : Sel keep T' n ys := by
  induction s with
  | zero => exact .zero
  | kept k t _ ih => exact .kept k (h _ _ t) ih
  | left k _ ih => exact .left k ih
theorem Sel.len {keep : Nat → Bool} {T : Nat → V → Prop} {n : Nat} {ys : List V} (s : Sel keep T n ys) : ys.length ≤ n := by
  induction s with
  | zero => exact Nat.le_refl _
  | kept k t _ ih => rw [List.length_append, List.length_singleton]; omega
  | left k _ ih => omega
theorem Sel.all {T : Nat → V → Prop} {n : Nat} {ys : List V} (s : Sel (fun _ => true) T n ys) : ys.length = n ∧ ∀ (i : Nat) y, ys[i]? = some y → T i y := by
  induction s with
  | zero => exact ⟨rfl, fun i y e => by simp at e⟩
  | @kept i ys y k t _ ih =>
    obtain ⟨h1, h2⟩ := ih
    refine ⟨by rw [List.length_append, List.length_singleton, h1], fun j z e => ?_⟩
    rcases Nat.lt_or_ge j ys.length with q | q
    · rw [List.getElem?_append_left q] at e
      exact h2 j z e
    · rw [List.getElem?_append_right q] at e
      have ej : j - ys.length = 0 := by
        rcases Nat.eq_zero_or_pos (j - ys.length) with r | r
        · exact r
        · rw [List.getElem?_eq_none (by rw [List.length_singleton]; omega)] at e
          cases e
      rw [ej] at e
      simp at e
      subst e
      have : j = i := by omega
      rw [this]
      exact t
  | left k _ _ => cases k
theorem Sel.none {T : Nat → V → Prop} {n : Nat} {ys : List V} (s : Sel (fun _ => false) T n ys) : ys = [] := by
  induction s with
  | zero => rfl
  | kept k _ _ _ => cases k
  | left _ _ ih => exact ih
theorem Sel.ints {ms : List Int} {p : Int → Bool} {f : Int → Int} {T : Nat → V → Prop} {keep : Nat → Bool} (hk : ∀ (i : Nat) m, ms[i]? = some m → keep i = p m) (hT : ∀ (i : Nat) m y, ms[i]? = some m → T i y → y = .int (f m)) {n : Nat} {ys : List V} (hn : n ≤ ms.length)
    (s : Sel keep T n ys) : ys = (((ms.take n).filter p).map f).map V.int := by
  induction s with
  | zero => simp
  | @kept i ys y k t _ ih =>
    have hi : i < ms.length := by omega
    have e := ih (by omega)
    have em : ms[i]? = some ms[i] := by simp [hi]
    have ep : p ms[i] = true := (hk i _ em).symm.trans k
    have e1 : List.filter p [ms[i]] = [ms[i]] := by simp [ep]
    rw [e, hT i _ y em t, List.take_succ_eq_append_getElem hi, List.filter_append, List.map_append, List.map_append, e1]
    rfl
  | @left i ys k _ ih =>
    have hi : i < ms.length := by omega
    have em : ms[i]? = some ms[i] := by simp [hi]
    have ep : p ms[i] = false := (hk i _ em).symm.trans k
    have e1 : List.filter p [ms[i]] = [] := by simp [ep]
    rw [ih (by omega), List.take_succ_eq_append_getElem hi, List.filter_append, e1, List.append_nil]
section
variable {J : It} {n : Nat} {G : Hp → Prop} {Y : Nat → Hp → V → Hp → Prop}
theorem comp_sel (w : Walk J n G Y) {g : TG} {tt : TT} {te : TE} {vs : List Nat} {σ : L2.St} {H1 : Hp} {D : Addr} {Qd : Hp → Prop} (hD : H1 D = none) (Z : Nat → Hp → Prop) (keep : Nat → Bool) (T : Nat → Hp → V → Prop)
    (hn : n ≤ 1000) (Z0 : ∀ H', Same H1 H' → Z 0 H') (ZG : ∀ i H, i ≤ n → Z i H → G H) (Zst : ∀ i H D ys, H1 D = none → Z i H → Z i (upd H D (.lst ys))) (Tst : ∀ i H H' y, Tk H H' → T i H y → T i H' y)
    (step : ∀ i x H H' (C : VK) (C' : Hp → Prop), i < n → Z i H → Y i H x H' → (∀ y H4, keep i = true → Z (i + 1) H4 → Tk H H4 → NK H1 H H4 → T i H4 y → C y H4) → (∀ H4, keep i = false → Z (i + 1) H4 → Tk H H4 → NK H1 H H4 → C' H4) →
      g x (wipe σ vs) H' fun σ2 H2 => wipe σ2 vs = wipe σ vs ∧ tt σ2 H2 fun b H3 => if b = true then te σ2 H3 C else C' H3)
    (hd : ∀ H' ys, Z n H' → H' D = some (.lst ys) → Sel keep (fun i y => T i H' y) n ys → Qd H') :
    ∃ W : Nat → Nat → Hp → Prop, (∃ m, W 0 m (upd H1 D (.lst []))) ∧ ∀ i m H, W i m H →
      (J.stop i H ∧ Qd H) ∨ (J.go i H ∧ ∃ Nx : Hp → Prop, (∀ H', Nx H' → ∃ m', m' < m ∧ W (i + 1) m' H') ∧ ∀ x H', J.yld i H x H' → g x (wipe σ vs) H' fun σ2 H2 => wipe σ2 vs = wipe σ vs ∧ tt σ2 H2 fun b H3 =>
        if b = true then te σ2 H3 fun y H4 => ∃ acc, H4 D = some (.lst acc) ∧ acc.length < sizeLine ∧ Nx (upd H4 D (.lst (acc ++ [y]))) else Nx H3) := by
  refine lc_it w (fun i H => Z i H ∧ ∃ ys, H D = some (.lst ys) ∧ Sel keep (fun i y => T i H y) i ys) ⟨Z0 _ (same_new hD), [], upd_same, .zero⟩ (fun i H hi p => ZG i H hi p.1) ?_ fun H p => ?_
  · rintro i x H H' hi ⟨hz, ys, hy, hs⟩ y
    refine step i x H H' _ _ hi hz y (fun v H4 k z4 t4 n4 tv => ?_) fun H4 k z4 t4 n4 => ?_
    · have hl := hs.len
      have h4 : H4 D = some (.lst ys) := n4 D _ hD hy
      have tu : Tk H4 (upd H4 D (.lst (ys ++ [v]))) := tk_upd (.inr ⟨_, h4⟩)
      refine ⟨ys, h4, Nat.lt_of_le_of_lt (Nat.le_trans hl (Nat.le_trans (Nat.le_of_lt hi) hn)) (by decide), Zst _ _ _ _ hD z4, _, upd_same, .kept k (Tst _ _ _ _ tu tv) (hs.mono fun j u q => Tst _ _ _ _ (t4.trans tu) q)⟩
    · exact ⟨z4, ys, n4 D _ hD hy, .left k (hs.mono fun j u q => Tst _ _ _ _ t4 q)⟩
  · obtain ⟨hz, ys, hy, hs⟩ := p
    exact hd H ys hz hy hs
end
/-- a tuple's items with their places -/
theorem walk_enumT {K : PySem.W.Frag} {a : Addr} {xs : List V} : Walk (Itu K a) xs.length (fun H => SqT K H a xs) (YPair (fun i => some (.int (i : Nat))) (fun i => xs[i]?)) := by
  refine ⟨fun i _ hi q => ⟨xs, xs[i], q, by simp [hi]⟩, fun _ q => ⟨xs, q, Nat.le_refl _⟩, fun i H v H' _ q y => ?_⟩
  obtain ⟨T, x, h1, h2, h3, h4⟩ := y
  exact ⟨T, .int (i : Nat), x, h1, h2, h3, rfl, h4 xs q⟩
end EC
namespace EC
open PySem PySem.Spec PyProof.Rows L2
/-- a % b, a // b as letters -/
def rModB : R2 := fun x y H Q => ∃ i j : Int, x = .int i ∧ y = .int j ∧ 0 < j ∧ ∀ r : Int, 0 ≤ r → r < j → Q (.int r) H
theorem op_modB {X : Cx} : OpR X (binaryOp .Mod) rModB := by
  intro pins s σ H x y v u Q I rx ry h
  obtain ⟨i, j, rfl, rfl, hj, q⟩ := h
  exact op_mod pins s σ H _ _ v u Q I rx ry ⟨i, j, rfl, rfl, hj, q _ (Int.emod_nonneg _ (by omega)) (Int.emod_lt_of_pos _ hj)⟩
def rFdivB : R2 := fun x y H Q => ∃ i j : Int, x = .int i ∧ y = .int j ∧ (0 < j ∧ j < 1073741824) ∧ ∀ r : Int, Q (.int r) H
theorem op_fdivB {X : Cx} : OpR X (binaryOp .FloorDiv) rFdivB := by
  intro pins s σ H x y v u Q I rx ry h
  obtain ⟨i, j, rfl, rfl, hj, q⟩ := h
  exact op_fdiv pins s σ H _ _ v u Q I rx ry ⟨i, j, rfl, rfl, hj, q _⟩
theorem sz {n : Nat} (h : n ≤ 10000) : n ≤ sizeLine := by rw [sizeLine_eq]; omega
theorem szl {n : Nat} (h : n ≤ 10000) : n < sizeLine := by rw [sizeLine_eq]; omega
theorem cut_from (xs : List V) (k : Nat) : cutV xs (some (k : Int)) none = xs.drop k := by
  unfold cutV
  rw [HT.sIx_nat, HT.sIx_none]
  rcases Nat.le_total k xs.length with h | h
  · rw [Nat.min_eq_left h, List.take_of_length_le (by rw [List.length_drop]; exact Nat.le_refl _)]
  · rw [Nat.min_eq_right h, Nat.sub_self, List.take_zero, List.drop_of_length_le h]
theorem cut_to (xs : List V) (k : Nat) : cutV xs none (some (k : Int)) = xs.take k := by
  unfold cutV
  rw [HT.sIx_nat, HT.sIx_none, List.drop_zero, Nat.sub_zero]
  rcases Nat.le_total k xs.length with h | h
  · rw [Nat.min_eq_left h]
  · rw [Nat.min_eq_right h, List.take_length, List.take_of_length_le h]
section
variable {K : PySem.W.Frag} {g : TG} {tt : TT} {te : TE} {vs : List Nat} {σ : L2.St} {H1 : Hp} {D a : Addr} {Qd : Hp → Prop}
/-- [f(x) for x in some ints if p(x)] -/
theorem comp_ints {ms : List Int} (hD : H1 D = none) (hx : SqT K H1 a (ms.map V.int)) (hl : ms.length ≤ 1000) (p : Int → Bool) (f : Int → Int)
    (step : ∀ m H (C : VK) (C' : Hp → Prop), m ∈ ms → Same H1 H → (p m = true → C (.int (f m)) H) → (p m = false → C' H) → g (.int m) (wipe σ vs) H fun σ2 H2 => wipe σ2 vs = wipe σ vs ∧ tt σ2 H2 fun b H3 => if b = true then te σ2 H3 C else C' H3)
    (hd : ∀ H', Same H1 H' → H' D = some (.lst (((ms.filter p).map f).map V.int)) → Qd H') :
    ∃ W : Nat → Nat → Hp → Prop, (∃ m, W 0 m (upd H1 D (.lst []))) ∧ ∀ i m H, W i m H →
      ((Itt K a).stop i H ∧ Qd H) ∨ ((Itt K a).go i H ∧ ∃ Nx : Hp → Prop, (∀ H', Nx H' → ∃ m', m' < m ∧ W (i + 1) m' H') ∧ ∀ x H', (Itt K a).yld i H x H' → g x (wipe σ vs) H' fun σ2 H2 => wipe σ2 vs = wipe σ vs ∧ tt σ2 H2 fun b H3 =>
        if b = true then te σ2 H3 fun y H4 => ∃ acc, H4 D = some (.lst acc) ∧ acc.length < sizeLine ∧ Nx (upd H4 D (.lst (acc ++ [y]))) else Nx H3) := by
  refine comp_sel walk_tup hD (fun _ H' => Same H1 H') (fun i => match ms[i]? with | some m => p m | none => false) (fun i _ y => ∀ m, ms[i]? = some m → y = .int (f m)) (by rw [List.length_map]; exact hl) (fun H' s => s)
    (fun _ H' _ s => sqT_tk (tk_same s) hx) (fun _ _ _ ys hD s => same_upd s hD) (fun _ _ _ _ _ e => e) ?_ ?_
  · rintro i x H H' C C' hi sm ⟨rfl, hx'⟩ hC hC'
    have hi' : i < ms.length := by simpa using hi
    have em : ms[i]? = some ms[i] := List.getElem?_eq_getElem hi'
    obtain rfl : x = .int ms[i] := by
      rw [List.getElem?_map, em] at hx'
      exact (Option.some.inj hx').symm
    refine step ms[i] _ C C' (List.getElem_mem hi') sm (fun hp => hC _ _ (by rw [em]; exact hp) sm (Tk.refl _) (fun _ _ _ e => e) fun m e => by rw [em] at e; cases e; rfl) (fun hp => hC' _ (by rw [em]; exact hp) sm (Tk.refl _) fun _ _ _ e => e)
  · intro H' ys sm hy hs
    refine hd H' sm ?_
    rw [hy]
    have e := Sel.ints (ms := ms) (p := p) (f := f) (fun i m e => by rw [e]) (fun i m y e t => t m e) (by rw [List.length_map]; exact Nat.le_refl _) hs
    rw [e, List.length_map, List.take_length]
/-- [.. for x in a tuple], each item's value told by a predicate -/
theorem comp_each {xs : List V} (hD : H1 D = none) (hx : SqT K H1 a xs) (hl : xs.length ≤ 1000) (T : Nat → Hp → V → Prop) (Tst : ∀ i H H' y, Tk H H' → T i H y → T i H' y)
    (step : ∀ i x H (C : VK) (C' : Hp → Prop), xs[i]? = some x → Same H1 H → (∀ y H4, Same H H4 → T i H4 y → C y H4) → g x (wipe σ vs) H fun σ2 H2 => wipe σ2 vs = wipe σ vs ∧ tt σ2 H2 fun b H3 => if b = true then te σ2 H3 C else C' H3)
    (hd : ∀ H' ys, Same H1 H' → H' D = some (.lst ys) → ys.length = xs.length → (∀ (i : Nat) y, ys[i]? = some y → T i H' y) → Qd H') :
    ∃ W : Nat → Nat → Hp → Prop, (∃ m, W 0 m (upd H1 D (.lst []))) ∧ ∀ i m H, W i m H →
      ((Itt K a).stop i H ∧ Qd H) ∨ ((Itt K a).go i H ∧ ∃ Nx : Hp → Prop, (∀ H', Nx H' → ∃ m', m' < m ∧ W (i + 1) m' H') ∧ ∀ x H', (Itt K a).yld i H x H' → g x (wipe σ vs) H' fun σ2 H2 => wipe σ2 vs = wipe σ vs ∧ tt σ2 H2 fun b H3 =>
        if b = true then te σ2 H3 fun y H4 => ∃ acc, H4 D = some (.lst acc) ∧ acc.length < sizeLine ∧ Nx (upd H4 D (.lst (acc ++ [y]))) else Nx H3) := by
  refine comp_sel walk_tup hD (fun _ H' => Same H1 H') (fun _ => true) T hl (fun H' s => s) (fun _ H' _ s => sqT_tk (tk_same s) hx) (fun _ _ _ ys hD s => same_upd s hD) Tst ?_ ?_
  · rintro i x H H' C C' hi sm ⟨rfl, hx'⟩ hC hC'
    exact step i x _ C C' hx' sm fun y H4 s4 t => hC y H4 rfl (sm.trans s4) (tk_same s4) (nk_same s4) t
  · intro H' ys sm hy hs
    obtain ⟨h1, h2⟩ := hs.all
    exact hd H' ys sm hy h1 h2
/-- [(move, F(later)) for move, later in a phase] -/
theorem comp_pairs {xs : List V} {ph : Ph Str} (hD : H1 D = none) (hx : SqT K H1 a xs) (hP : Paired (Pr K H1) xs ph) (hl : ph.length ≤ 1000) (F : Int → Int)
    (step : ∀ p b H (C : VK) (C' : Hp → Prop), p ∈ ph → Same H1 H → SqT K H b [.str p.1, .int p.2] → (∀ q H4, Same H H4 → SqT K H4 q [.str p.1, .int (F p.2)] → C (.ref q) H4) →
      g (.ref b) (wipe σ vs) H fun σ2 H2 => wipe σ2 vs = wipe σ vs ∧ tt σ2 H2 fun b H3 => if b = true then te σ2 H3 C else C' H3)
    (hd : ∀ H' ys, Same H1 H' → H' D = some (.lst ys) → Paired (Pr K H') ys (ph.map fun p => (p.1, F p.2)) → Qd H') :
    ∃ W : Nat → Nat → Hp → Prop, (∃ m, W 0 m (upd H1 D (.lst []))) ∧ ∀ i m H, W i m H →
      ((Itt K a).stop i H ∧ Qd H) ∨ ((Itt K a).go i H ∧ ∃ Nx : Hp → Prop, (∀ H', Nx H' → ∃ m', m' < m ∧ W (i + 1) m' H') ∧ ∀ x H', (Itt K a).yld i H x H' → g x (wipe σ vs) H' fun σ2 H2 => wipe σ2 vs = wipe σ vs ∧ tt σ2 H2 fun b H3 =>
        if b = true then te σ2 H3 fun y H4 => ∃ acc, H4 D = some (.lst acc) ∧ acc.length < sizeLine ∧ Nx (upd H4 D (.lst (acc ++ [y]))) else Nx H3) := by
  have hlen := hP.length
  refine comp_each hD hx (by omega) (fun i H y => ∀ p, ph[i]? = some p → Pr K H y (p.1, F p.2)) (fun i H H' y k t p e => (t p e).tk k) ?_ ?_
  · intro i x H C C' e sm hC
    obtain ⟨p, e2, b, rfl, hb⟩ := paired_at hP e
    refine step p b H C C' (List.mem_of_getElem? e2) sm (sqT_tk (tk_same sm) hb) fun q H4 s4 hq => hC _ _ s4 fun p' e' => ?_
    rw [e2] at e'
    cases e'
    exact ⟨q, rfl, hq⟩
  · intro H' ys sm hy hl' ht
    refine hd H' ys sm hy (paired_of (by rw [List.length_map]; omega) fun i y p e1 e2 => ?_)
    rw [List.getElem?_map] at e2
    cases e3 : ph[i]? with
    | none => rw [e3] at e2; cases e2
    | some p0 =>
      rw [e3] at e2
      cases e2
      exact ht i y e1 p0 e3
end
end EC
namespace EC
open PySem PySem.Spec PyProof.Rows L2
/-! ### data as a whole -/
section
variable {K : PySem.W.Frag} {H H' : Hp}
theorem dpAll_of {F : V → PyData → Prop} (h : ∀ v d, F v d → Dp K H v d) : ∀ {xs : List V} {ds : List PyData}, Paired F xs ds → DpAll K H xs ds
  | _, _, .nil => .nil
  | _, _, .cons r t => .cons (h _ _ r) (dpAll_of h t)
theorem dpAll_at : ∀ {xs : List V} {ds : List PyData}, DpAll K H xs ds → Paired (Dp K H) xs ds
  | _, _, .nil => .nil
  | _, _, .cons r t => .cons r (dpAll_at t)
theorem paired_map {α β γ : Type} {F : α → γ → Prop} (g : β → γ) : ∀ {xs : List α} {ys : List β}, Paired (fun a b => F a (g b)) xs ys → Paired F xs (ys.map g)
  | _, _, .nil => .nil
  | _, _, .cons r t => .cons r (paired_map g t)
theorem paired_unmap {α β γ : Type} {F : α → γ → Prop} (g : β → γ) : ∀ {xs : List α} {ys : List β}, Paired F xs (ys.map g) → Paired (fun a b => F a (g b)) xs ys
  | _, [], .nil => .nil
  | _, _ :: _, .cons r t => .cons r (paired_unmap g t)
mutual
/-- no lists within -/
def tupOnly : PyData → Bool
  | .list _ | .dict _ => false
  | .tuple xs => tupAll xs
  | _ => true
def tupAll : List PyData → Bool
  | [] => true
  | x :: xs => tupOnly x && tupAll xs
end
mutual
theorem dp_tk (k : Tk H H') : ∀ (d : PyData) (v : V), tupOnly d = true → Dp K H v d → Dp K H' v d
  | .none, _, _, h => by cases h; exact .non
  | .bool b, _, _, h => by cases h; exact .bl b
  | .int i, _, _, h => by cases h; exact .int i
  | .str x, _, _, h => by cases h; exact .str x
  | .list ds, _, n, _ => by simp [tupOnly] at n
  | .dict ds, _, n, _ => by simp [tupOnly] at n
  | .tuple ds, _, n, h => by
    cases h with
    | tup hs ha => exact .tup (sqT_tk k hs) (dpAll_tk k ds _ (by simpa [tupOnly] using n) ha)
theorem dpAll_tk (k : Tk H H') : ∀ (ds : List PyData) (vs : List V), tupAll ds = true → DpAll K H vs ds → DpAll K H' vs ds
  | [], _, _, h => by cases h; exact .nil
  | d :: ds, _, n, h => by
    cases h with
    | cons h1 h2 =>
      have n' : tupOnly d = true ∧ tupAll ds = true := by simpa [tupAll] using n
      exact .cons (dp_tk k d _ n'.1 h1) (dpAll_tk k ds _ n'.2 h2)
end
def dPair (p : Str × Int) : PyData := .tuple [.str p.1, .int p.2]
def dPh (ph : Ph Str) : PyData := .tuple (ph.map dPair)
def dRul (R : Rl Str) : PyData := .tuple [.tuple (R.1.map .int), .tuple (R.2.map dPh)]
theorem ints_dp (ms : List Int) : DpAll K H (ms.map V.int) (ms.map PyData.int) := by
  induction ms with
  | nil => exact .nil
  | cons m ms ih => exact .cons (.int m) ih
theorem dp_ints : ∀ {xs : List V} {ms : List Int}, DpAll K H xs (ms.map PyData.int) → xs = ms.map V.int
  | [], [], _ => rfl
  | x :: xs, m :: ms, h => by
    cases h with
    | cons h1 h2 =>
      cases h1
      rw [dp_ints h2] <;> rfl
  | [], _ :: _, h => by cases h
  | _ :: _, [], h => by cases h
theorem dp_pair {v : V} {p : Str × Int} : Pr K H v p ↔ Dp K H v (dPair p) := by
  constructor
  · rintro ⟨a, rfl, h⟩
    exact .tup h (.cons (.str _) (.cons (.int _) .nil))
  · intro h
    cases h with
    | tup hs ha =>
      cases ha with
      | cons h1 h2 =>
        cases h2 with
        | cons h2 h3 =>
          cases h3
          cases h1
          cases h2
          exact ⟨_, rfl, hs⟩
theorem dp_ph {v : V} {ph : Ph Str} : Phs K H v ph ↔ Dp K H v (dPh ph) := by
  constructor
  · rintro ⟨a, xs, rfl, h, hp⟩
    exact .tup h (dpAll_of (fun _ _ z => z) (paired_map dPair (Paired.mapP hp fun _ _ z => dp_pair.mp z)))
  · intro h
    cases h with
    | tup hs ha => exact ⟨_, _, rfl, hs, Paired.mapP (paired_unmap dPair (dpAll_at ha)) fun _ _ z => dp_pair.mpr z⟩
theorem dp_rul {v : V} {R : Rl Str} : Rul K H v R ↔ Dp K H v (dRul R) := by
  constructor
  · rintro ⟨a, x, y, rfl, h, ⟨b, rfl, hM⟩, ⟨c, xs, rfl, hC, hP⟩⟩
    exact .tup h (.cons (.tup hM (ints_dp _)) (.cons (.tup hC (dpAll_of (fun _ _ z => z) (paired_map dPh (Paired.mapP hP fun _ _ z => dp_ph.mp z)))) .nil))
  · intro h
    cases h with
    | tup hs ha =>
      cases ha with
      | cons h1 h2 =>
        cases h2 with
        | cons h2 h3 =>
          cases h3
          cases h1 with
          | tup m1 m2 =>
            cases h2 with
            | tup p1 p2 =>
              rw [dp_ints m2] at m1
              exact ⟨_, _, _, rfl, hs, ⟨_, rfl, m1⟩, ⟨_, _, rfl, p1, Paired.mapP (paired_unmap dPh (dpAll_at p2)) fun _ _ z => dp_ph.mpr z⟩⟩
end
/-! ### tuples of written values -/
def tD (K : PySem.W.Frag) (c : L2.St → Hp → Prop) (d : PyData) : TE := fun σ H Q => c σ H ∧ ∀ v H', Same H H' → Dp K H' v d → Q v H'
structure ED (X : Cx) (K : PySem.W.Frag) (e : Expr) (c : L2.St → Hp → Prop) (d : PyData) : Prop where
  pe : PE X e (tD K c d)
  st : ∀ σ H H', Same H H' → c σ H → c σ H'
  tu : tupOnly d = true
structure AD (X : Cx) (K : PySem.W.Frag) (es : List Expr) (c : L2.St → Hp → Prop) (ds : List PyData) : Prop where
  pa : PA X es (fun σ H Q => c σ H ∧ ∀ vs H', Same H H' → DpAll K H' vs ds → Q vs H')
  st : ∀ σ H H', Same H H' → c σ H → c σ H'
  tu : tupAll ds = true
section
variable {X : Cx} {K : PySem.W.Frag} {e : Expr} {es : List Expr} {c c' : L2.St → Hp → Prop} {d : PyData} {ds : List PyData}
theorem ed_int {i : Int} {j pos} : ED X K (.Constant (.int i) j pos) (fun _ _ => True) (.int i) :=
  ⟨PE.weak pe_int fun σ H Q q => q.2 _ _ (Same.refl H) (.int i), fun _ _ _ _ h => h, rfl⟩
theorem ed_str {x : Str} {j pos} : ED X K (.Constant (.str x) j pos) (fun _ _ => True) (.str x) :=
  ⟨PE.weak pe_str fun σ H Q q => q.2 _ _ (Same.refl H) (.str x), fun _ _ _ _ h => h, rfl⟩
theorem ed_name (i : Nat) {x : Str} {pos : Pos} {d : PyData} (h : PE X (.Name x pos) (tVar i)) (hd : tupOnly d = true := by rfl) : ED X K (.Name x pos) (fun σ H => ∃ v, σ[i]? = some (some v) ∧ Dp K H v d) d :=
  ⟨PE.weak h fun σ H Q q => by
    obtain ⟨⟨v, e, hv⟩, q⟩ := q
    exact ⟨v, e, q v H (Same.refl H) hv⟩, fun σ H H' s ⟨v, e, hv⟩ => ⟨v, e, dp_tk (tk_same s) d v hd hv⟩, hd⟩
theorem ad_nil : AD X K [] (fun _ _ => True) [] := ⟨⟨fun pos pins s σ H Q I q => pa_nil.run pos pins s σ H Q I (q.2 [] H (Same.refl H) .nil)⟩, fun _ _ _ _ h => h, rfl⟩
theorem ad_cons (h1 : ED X K e c d) (h2 : AD X K es c' ds) (hs : starEach (e :: es) X.env = (false, eval e X.env) :: starEach es X.env := by rfl) : AD X K (e :: es) (fun σ H => c σ H ∧ c' σ H) (d :: ds) := by
  refine ⟨⟨fun pos pins s σ H Q I q => ?_⟩, fun σ H H' s h => ⟨h1.st σ H H' s h.1, h2.st σ H H' s h.2⟩, by simp [tupAll, h1.tu, h2.tu]⟩
  obtain ⟨⟨q1, q2⟩, q⟩ := q
  refine (pa_cons h1.pe h2.pa hs).run pos pins s σ H Q I ⟨q1, fun v H1 s1 hv => ⟨h2.st σ H H1 s1 q2, fun vs H2 s2 hvs => q _ _ (s1.trans s2) (.cons (dp_tk (tk_same s2) d v h1.tu hv) hvs)⟩⟩
theorem dpAll_len {H : Hp} : ∀ {vs : List V} {ds : List PyData}, DpAll K H vs ds → vs.length = ds.length
  | _, _, .nil => rfl
  | _, _, .cons _ t => by rw [List.length_cons, List.length_cons, dpAll_len t]
theorem ed_tup {x1 : Nat} {pos : Pos} (hK : X.K = K) (h : AD X K es c ds) (hz : ds.length ≤ sizeLine) : ED X K (.Tuple es x1 pos) c (.tuple ds) := by
  refine ⟨PE.weak (pe_tupS hK h.pa) fun σ H Q q => ⟨q.1, fun vs H1 s1 hv => ⟨by rw [dpAll_len hv]; exact hz, fun p H2 s2 hp => q.2 _ _ (s1.trans s2) (.tup hp (dpAll_tk (tk_same s2) ds vs h.tu hv))⟩⟩, h.st, by simp [tupOnly, h.tu]⟩
end
/-! ### the feed -/
/-- the feed at f: its cells' list at c, at most n draws so far -/
def FeedAt (H : Hp) (f c : Addr) (n : Int) : Prop := ∃ i l d : Int, H f = some (.lst [.ref c, .int i, .int l, .int d]) ∧ 0 ≤ d ∧ d ≤ n
def Cells (K : PySem.W.Frag) (H : Hp) (c : Addr) : Prop := ∃ cells : List Int, SqL K H c (cells.map V.int)
section
variable {K : PySem.W.Frag} {H H' H0 : Hp} {f c : Addr} {n m : Int}
theorem FeedAt.mono (h : FeedAt H f c n) (hm : n ≤ m) : FeedAt H f c m := by
  obtain ⟨i, l, d, e, h0, h1⟩ := h
  exact ⟨i, l, d, e, h0, by omega⟩
theorem FeedAt.same (h : FeedAt H f c n) (s : Same H H') : FeedAt H' f c n := by
  obtain ⟨i, l, d, e, h0, h1⟩ := h
  exact ⟨i, l, d, s _ _ e, h0, h1⟩
theorem FeedAt.upd {p : Addr} {o : HO} (h : FeedAt H f c n) (hp : f ≠ p) : FeedAt (upd H p o) f c n := by
  obtain ⟨i, l, d, e, h0, h1⟩ := h
  exact ⟨i, l, d, by rw [upd_ne hp]; exact e, h0, h1⟩
theorem FeedAt.lst (h : FeedAt H f c n) : ∃ xs, H f = some (.lst xs) := let ⟨_, _, _, e, _⟩ := h; ⟨_, e⟩
theorem FeedAt.some (h : FeedAt H f c n) : ∃ u, H f = some u := let ⟨_, _, _, e, _⟩ := h; ⟨_, e⟩
theorem FeedAt.ne (h : FeedAt H f c n) {p : Addr} (hp : H p = none) : f ≠ p := let ⟨_, _, _, e, _⟩ := h; ne_of_none e hp
theorem cells_ne (h : FeedAt H f c n) (hc : ∃ cells : List Int, H c = some (.lst (cells.map V.int)) ∨ ∃ o, H c = some (.frz o (.lst (cells.map V.int)))) : c ≠ f := fun z => by
  obtain ⟨i, l, d, e, _⟩ := h
  obtain ⟨cells, hc⟩ := hc
  subst z
  rcases hc with q | ⟨o, q⟩
  · rw [e] at q
    have q2 : [V.ref c, V.int i, V.int l, V.int d] = cells.map V.int := by injection q with q; injection q
    cases cells with
    | nil => cases q2
    | cons a r =>
      injection q2 with q3 _
      cases q3
  · rw [e] at q
    injection q with q
    cases q
theorem Cells.sb (hc : Cells K H c) (hf : FeedAt H f c n) (s : SB f H H') : Cells K H' c := by
  obtain ⟨cells, hc⟩ := hc
  rcases hc with (hc | ⟨o, hc⟩) | hc
  · exact ⟨cells, .inl (.inl (s _ _ (cells_ne hf ⟨cells, .inl hc⟩) hc))⟩
  · exact ⟨cells, .inl (.inr ⟨o, s _ _ (cells_ne hf ⟨cells, .inr ⟨o, hc⟩⟩) hc⟩)⟩
  · exact ⟨cells, .inr hc⟩
/-- from H0 the feed has come to n draws, all else of H0 as it was -/
structure At (K : PySem.W.Frag) (f c : Addr) (H0 H : Hp) (n : Int) : Prop where
  sb : SB f H0 H
  fd : FeedAt H f c n
  f0 : ∃ xs, H0 f = some (.lst xs)
  ce : Cells K H0 c
  fe : ∃ n, FeedAt H0 f c n
theorem At.start (hf : FeedAt H f c n) (hc : Cells K H c) : At K f c H H n := ⟨SB.refl f H, hf, hf.lst, hc, ⟨n, hf⟩⟩
theorem At.cells (h : At K f c H0 H n) : Cells K H c := by
  obtain ⟨m, hf⟩ := h.fe
  exact h.ce.sb hf h.sb
theorem At.tk (h : At K f c H0 H n) : Tk H0 H := h.sb.tk h.f0
theorem At.same (h : At K f c H0 H n) (s : Same H H') : At K f c H0 H' n := ⟨h.sb.trans (sb_same s), h.fd.same s, h.f0, h.ce, h.fe⟩
theorem At.call (h : At K f c H0 H n) (s : SB f H H') (hf : FeedAt H' f c m) : At K f c H0 H' m := ⟨h.sb.trans s, hf, h.f0, h.ce, h.fe⟩
theorem At.mono (h : At K f c H0 H n) (hm : n ≤ m) : At K f c H0 H m := ⟨h.sb, h.fd.mono hm, h.f0, h.ce, h.fe⟩
theorem At.upd {p : Addr} {o : HO} (h : At K f c H0 H n) (hp : H0 p = none) : At K f c H0 (upd H p o) n := by
  have nf : f ≠ p := by
    obtain ⟨xs, e⟩ := h.f0
    exact ne_of_none e hp
  exact ⟨h.sb.upd hp, h.fd.upd nf, h.f0, h.ce, h.fe⟩
/-- what is new now was new at the start -/
theorem At.new (h : At K f c H0 H n) {p : Addr} (hp : H p = none) : H0 p = none := by
  cases e : H0 p with
  | none => rfl
  | some u =>
    have nf : p ≠ f := fun z => by
      subst z
      obtain ⟨u, q⟩ := h.fd.some
      rw [hp] at q
      cases q
    rw [h.sb p u nf e] at hp
    cases hp
end
end EC
namespace EC
open PySem PySem.Spec PyProof.Rows L2
/-! ### the text -/
def top (i : Nat) : Stmt := PySem.Challenge.pw_endclimbs_k13_whole_changes_undone.main.body.getD i (.Pass ⟨0, 0, 0, 0⟩)
abbrev s_is_integer : Stmt := top 3
abbrev N_is_integer : List Str := ["thing"]
theorem sc_is_integer : FnScope N_is_integer ["thing"] (defScope s_is_integer) := ⟨rfl, rfl, rfl, by decide +kernel, rfl, by decide +kernel, by decide +kernel⟩
abbrev s_is_number : Stmt := top 4
abbrev N_is_number : List Str := ["thing"]
theorem sc_is_number : FnScope N_is_number ["thing"] (defScope s_is_number) := ⟨rfl, rfl, rfl, by decide +kernel, rfl, by decide +kernel, by decide +kernel⟩
abbrev s_is_tuple_of : Stmt := top 5
abbrev N_is_tuple_of : List Str := ["thing", "many"]
theorem sc_is_tuple_of : FnScope N_is_tuple_of ["thing", "many"] (defScope s_is_tuple_of) := ⟨rfl, rfl, rfl, by decide +kernel, rfl, by decide +kernel, by decide +kernel⟩
abbrev s_first_wrong_mark : Stmt := top 6
abbrev N_first_wrong_mark : List Str := ["things", "k", "thing"]
theorem sc_first_wrong_mark : FnScope N_first_wrong_mark ["things"] (defScope s_first_wrong_mark) := ⟨rfl, rfl, rfl, by decide +kernel, rfl, by decide +kernel, by decide +kernel⟩
abbrev s_is_marks : Stmt := top 7
abbrev N_is_marks : List Str := ["thing"]
theorem sc_is_marks : FnScope N_is_marks ["thing"] (defScope s_is_marks) := ⟨rfl, rfl, rfl, by decide +kernel, rfl, by decide +kernel, by decide +kernel⟩
abbrev s_is_move : Stmt := top 8
abbrev N_is_move : List Str := ["thing"]
theorem sc_is_move : FnScope N_is_move ["thing"] (defScope s_is_move) := ⟨rfl, rfl, rfl, by decide +kernel, rfl, by decide +kernel, by decide +kernel⟩
abbrev s_is_case_pair : Stmt := top 9
abbrev N_is_case_pair : List Str := ["thing"]
theorem sc_is_case_pair : FnScope N_is_case_pair ["thing"] (defScope s_is_case_pair) := ⟨rfl, rfl, rfl, by decide +kernel, rfl, by decide +kernel, by decide +kernel⟩
abbrev s_is_phase : Stmt := top 10
abbrev N_is_phase : List Str := ["thing", "one"]
theorem sc_is_phase : FnScope N_is_phase ["thing"] (defScope s_is_phase) := ⟨rfl, rfl, rfl, by decide +kernel, rfl, by decide +kernel, by decide +kernel⟩
abbrev s_phase_fault : Stmt := top 11
abbrev N_phase_fault : List Str := ["i", "thing", "many", "k", "pair"]
theorem sc_phase_fault : FnScope N_phase_fault ["i", "thing", "many"] (defScope s_phase_fault) := ⟨rfl, rfl, rfl, by decide +kernel, rfl, by decide +kernel, by decide +kernel⟩
abbrev s_rule_fault : Stmt := top 12
abbrev N_rule_fault : List Str := ["thing", "marks", "phases", "wrong", "i", "phase", "fault"]
theorem sc_rule_fault : FnScope N_rule_fault ["thing"] (defScope s_rule_fault) := ⟨rfl, rfl, rfl, by decide +kernel, rfl, by decide +kernel, by decide +kernel⟩
abbrev s_want : Stmt := top 20
abbrev N_want : List Str := ["is_right", "word"]
theorem sc_want : FnScope N_want ["is_right", "word"] (defScope s_want) := ⟨rfl, rfl, rfl, by decide +kernel, rfl, by decide +kernel, by decide +kernel⟩
abbrev s_is_index : Stmt := top 22
abbrev N_is_index : List Str := ["rule", "thing"]
theorem sc_is_index : FnScope N_is_index ["rule", "thing"] (defScope s_is_index) := ⟨rfl, rfl, rfl, by decide +kernel, rfl, by decide +kernel, by decide +kernel⟩
abbrev s_with_mark : Stmt := top 23
abbrev N_with_mark : List Str := ["rule", "mark", "lesser", "own"]
theorem sc_with_mark : FnScope N_with_mark ["rule", "mark"] (defScope s_with_mark) := ⟨rfl, rfl, rfl, by decide +kernel, rfl, by decide +kernel, by decide +kernel⟩
abbrev s_without_mark : Stmt := top 24
abbrev N_without_mark : List Str := ["rule", "mark", "own"]
theorem sc_without_mark : FnScope N_without_mark ["rule", "mark"] (defScope s_without_mark) := ⟨rfl, rfl, rfl, by decide +kernel, rfl, by decide +kernel, by decide +kernel⟩
abbrev s_with_marks : Stmt := top 25
abbrev N_with_marks : List Str := ["rule", "marks"]
theorem sc_with_marks : FnScope N_with_marks ["rule", "marks"] (defScope s_with_marks) := ⟨rfl, rfl, rfl, by decide +kernel, rfl, by decide +kernel, by decide +kernel⟩
abbrev s_shifted : Stmt := top 26
abbrev N_shifted : List Str := ["rule", "by", "mark"]
theorem sc_shifted : FnScope N_shifted ["rule", "by"] (defScope s_shifted) := ⟨rfl, rfl, rfl, by decide +kernel, rfl, by decide +kernel, by decide +kernel⟩
abbrev s_moved_up : Stmt := top 27
abbrev N_moved_up : List Str := ["phase", "spot", "move", "later"]
theorem sc_moved_up : FnScope N_moved_up ["phase", "spot"] (defScope s_moved_up) := ⟨rfl, rfl, rfl, by decide +kernel, rfl, by decide +kernel, by decide +kernel⟩
abbrev s_with_phase : Stmt := top 28
abbrev N_with_phase : List Str := ["rule", "phase", "at", "marks", "phases", "many", "spot", "others", "own", "move", "later"]
theorem sc_with_phase : FnScope N_with_phase ["rule", "phase", "at"] (defScope s_with_phase) := ⟨rfl, rfl, rfl, by decide +kernel, rfl, by decide +kernel, by decide +kernel⟩
abbrev s_later_without : Stmt := top 29
abbrev N_later_without : List Str := ["later", "index"]
theorem sc_later_without : FnScope N_later_without ["later", "index"] (defScope s_later_without) := ⟨rfl, rfl, rfl, by decide +kernel, rfl, by decide +kernel, by decide +kernel⟩
abbrev s_without_phase : Stmt := top 30
abbrev N_without_phase : List Str := ["rule", "index", "marks", "phases", "found", "k", "phase", "move", "later"]
theorem sc_without_phase : FnScope N_without_phase ["rule", "index"] (defScope s_without_phase) := ⟨rfl, rfl, rfl, by decide +kernel, rfl, by decide +kernel, by decide +kernel⟩
abbrev s_with_pair : Stmt := top 31
abbrev N_with_pair : List Str := ["rule", "phase", "case", "move", "later", "marks", "phases", "spot", "own", "turned"]
theorem sc_with_pair : FnScope N_with_pair ["rule", "phase", "case", "move", "later"] (defScope s_with_pair) := ⟨rfl, rfl, rfl, by decide +kernel, rfl, by decide +kernel, by decide +kernel⟩
abbrev s_lets_rule : Stmt := top 33
abbrev N_lets_rule : List Str := ["thing", "fault"]
theorem sc_lets_rule : FnScope N_lets_rule ["thing"] (defScope s_lets_rule) := ⟨rfl, rfl, rfl, by decide +kernel, rfl, by decide +kernel, by decide +kernel⟩
abbrev s__law_feed : Stmt := top 35
abbrev N__law_feed : List Str := ["_law_script"]
theorem sc__law_feed : FnScope N__law_feed ["_law_script"] (defScope s__law_feed) := ⟨rfl, rfl, rfl, by decide +kernel, rfl, by decide +kernel, by decide +kernel⟩
abbrev s__law_draw : Stmt := top 36
abbrev N__law_draw : List Str := ["_law_feed_here", "_law_size", "_law_digit", "_law_spot", "_law_cell", "_law_mixed"]
theorem sc__law_draw : FnScope N__law_draw ["_law_feed_here", "_law_size"] (defScope s__law_draw) := ⟨rfl, rfl, rfl, by decide +kernel, rfl, by decide +kernel, by decide +kernel⟩
abbrev s__law_pick : Stmt := top 37
abbrev N__law_pick : List Str := ["_law_feed_here", "_law_some"]
theorem sc__law_pick : FnScope N__law_pick ["_law_feed_here", "_law_some"] (defScope s__law_pick) := ⟨rfl, rfl, rfl, by decide +kernel, rfl, by decide +kernel, by decide +kernel⟩
abbrev s__law_marks : Stmt := top 38
abbrev N__law_marks : List Str := ["_law_feed_here", "_law_most", "_law_found", "_law_last", "_law_lap"]
theorem sc__law_marks : FnScope N__law_marks ["_law_feed_here", "_law_most"] (defScope s__law_marks) := ⟨rfl, rfl, rfl, by decide +kernel, rfl, by decide +kernel, by decide +kernel⟩
abbrev s__law_phase : Stmt := top 39
abbrev N__law_phase : List Str := ["_law_feed_here", "_law_many", "_law_moves", "_law_case"]
theorem sc__law_phase : FnScope N__law_phase ["_law_feed_here", "_law_many"] (defScope s__law_phase) := ⟨rfl, rfl, rfl, by decide +kernel, rfl, by decide +kernel, by decide +kernel⟩
abbrev s__law_scene : Stmt := top 40
abbrev N__law_scene : List Str := ["_law_which", "_law_take", "_law_out", "_law_wait"]
theorem sc__law_scene : FnScope N__law_scene ["_law_which"] (defScope s__law_scene) := ⟨rfl, rfl, rfl, by decide +kernel, rfl, by decide +kernel, by decide +kernel⟩
abbrev s__law_rule : Stmt := top 41
abbrev N__law_rule : List Str := ["_law_feed_here", "_law_way", "_law_marks_here", "_law_many", "_law_lap"]
theorem sc__law_rule : FnScope N__law_rule ["_law_feed_here"] (defScope s__law_rule) := ⟨rfl, rfl, rfl, by decide +kernel, rfl, by decide +kernel, by decide +kernel⟩
abbrev s__law_put : Stmt := top 42
abbrev N__law_put : List Str := ["_law_some", "_law_one", "_law_x"]
theorem sc__law_put : FnScope N__law_put ["_law_some", "_law_one"] (defScope s__law_put) := ⟨rfl, rfl, rfl, by decide +kernel, rfl, by decide +kernel, by decide +kernel⟩
abbrev s__law_with_phase : Stmt := top 43
abbrev N__law_with_phase : List Str := ["_law_rule_here", "_law_phase_here", "_law_spot", "_law_late", "_law_own", "_law_move", "_law_later"]
theorem sc__law_with_phase : FnScope N__law_with_phase ["_law_rule_here", "_law_phase_here", "_law_spot"] (defScope s__law_with_phase) := ⟨rfl, rfl, rfl, by decide +kernel, rfl, by decide +kernel, by decide +kernel⟩
abbrev s__law_turned_next : Stmt := top 44
abbrev N__law_turned_next : List Str := ["_law_later", "_law_gone"]
theorem sc__law_turned_next : FnScope N__law_turned_next ["_law_later", "_law_gone"] (defScope s__law_turned_next) := ⟨rfl, rfl, rfl, by decide +kernel, rfl, by decide +kernel, by decide +kernel⟩
abbrev s__law_without_phase : Stmt := top 45
abbrev N__law_without_phase : List Str := ["_law_rule_here", "_law_gone", "_law_late", "_law_i", "_law_own", "_law_move", "_law_later"]
theorem sc__law_without_phase : FnScope N__law_without_phase ["_law_rule_here", "_law_gone"] (defScope s__law_without_phase) := ⟨rfl, rfl, rfl, by decide +kernel, rfl, by decide +kernel, by decide +kernel⟩
abbrev s__law_back_right : Stmt := top 46
abbrev N__law_back_right : List Str := ["_law_feed_here", "_law_rule_here", "_law_marks_here", "_law_phases", "_law_told", "_law_mark", "_law_by", "_law_spot", "_law_i", "_law_own", "_law_k", "_law_case", "_law_move", "_law_late", "_law_one"]
theorem sc__law_back_right : FnScope N__law_back_right ["_law_feed_here", "_law_rule_here"] (defScope s__law_back_right) := ⟨rfl, rfl, rfl, by decide +kernel, rfl, by decide +kernel, by decide +kernel⟩
abbrev s__law_orders_right : Stmt := top 47
abbrev N__law_orders_right : List Str := ["_law_feed_here", "_law_rule_here", "_law_many", "_law_by", "_law_mark", "_law_phase_here", "_law_spot", "_law_i", "_law_later", "_law_told", "_law_one", "_law_other"]
theorem sc__law_orders_right : FnScope N__law_orders_right ["_law_feed_here", "_law_rule_here"] (defScope s__law_orders_right) := ⟨rfl, rfl, rfl, by decide +kernel, rfl, by decide +kernel, by decide +kernel⟩
abbrev s__law_day : Stmt := top 48
abbrev N__law_day : List Str := ["_law_feed_here", "_law_rule_here", "_law_mine", "_law_lap", "_law_way", "_law_many", "_law_phase_here", "_law_spot", "_law_gone", "_law_by", "_law_mark", "_law_one"]
theorem sc__law_day : FnScope N__law_day ["_law_feed_here", "_law_rule_here"] (defScope s__law_day) := ⟨rfl, rfl, rfl, by decide +kernel, rfl, by decide +kernel, by decide +kernel⟩
abbrev s_law : Stmt := top 49
abbrev N_law : List Str := ["_law_script", "_law_feed_here", "_law_lap", "_law_rule_here", "_law_kept"]
theorem sc_law : FnScope N_law ["_law_script"] (defScope s_law) := ⟨rfl, rfl, rfl, by decide +kernel, rfl, by decide +kernel, by decide +kernel⟩
/-- the module's def x -/
def Df (K : PySem.W.Frag) (mg : Str → Option Value) (x : Str) (st : Stmt) : Prop := ∃ (f : Addr) (fd : FuncData), mg x = some (.ref f) ∧ FunD K x x (defArgs st) (defBody st) (defScope st) [] [] f fd
def moves : List Str := ["take", "next", "out", "wait"]
def cases3 : List Str := ["near", "at", "far"]
/-- what the defs' names stand for -/
structure Txt (K : PySem.W.Frag) (mg : Str → Option Value) (aM aC : Addr) : Prop where
  isin : mg "isinstance" = none
  int_ : mg "int" = none
  bool_ : mg "bool" = none
  tuple_ : mg "tuple" = none
  str_ : mg "str" = none
  len_ : mg "len" = none
  all_ : mg "all" = none
  enum_ : mg "enumerate" = none
  range_ : mg "range" = none
  repr_ : mg "repr" = none
  gM : mg "MOVES" = some (.ref aM)
  gC : mg "CASES" = some (.ref aC)
  tM : ∀ H, SqT K H aM (moves.map V.str)
  tC : ∀ H, SqT K H aC (cases3.map V.str)
  kC : ∃ o, K.lookup aC = some o ∧ o.cls = .type "tuple" ∧ o.dict = none
/-- a def by its body -/
theorem own_mk {P : Program} {w : World} {K : PySem.W.Frag} {mg : Str → Option Value} {base : Heap} {x : Str} {st : Stmt} {N ps : List Str} {k : Nat} {sp : Pm} (D : Df K mg x st) (S : FnScope N ps (defScope st))
    (hb : ∀ (kV doc pm : Value) (an : Option Addr) (cdv ct : Value) (us : List Value), us.length = ps.length → bindArgs (PySem.W.fnOf x x (defArgs st) (defBody st) (defScope st) .none kV doc pm an cdv ct) ⟨us, []⟩ = pure (ps.zip us))
    (len : ∀ vs H Q, sp vs H Q → vs.length = ps.length)
    (hbody : ∀ (f : Addr) (cdv : Value) (A : Around) (outer : List Env) (s : Shared) (H : Hp) (vs : List V) (Q : VK), Rm k (A.deeper (envOfC x (defScope st) s.heap.objs.size f cdv)) → sp vs H Q →
      ∃ t, PSs (cxOf CX0 P w K mg base N x (defScope st) f cdv A outer s H E0).nox (defBody st) t ∧ t { nx := fun _ H' => Q .non H', rt := Q } (start N vs) H) : Own P w K mg base (k + 1) x ps sp := by
  obtain ⟨f, fd, hm, F⟩ := D
  exact ⟨f, fd, hm, F.kp, FunD.bindsN F hb, runs_of F S len (hbody f)⟩
/-! ### with_phase: at by its name, or its default -/
abbrev wpS : Stmt := s_with_phase
def DfK (K : PySem.W.Frag) (mg : Str → Option Value) : Prop := ∃ (f : Addr) (fd : FuncData), mg "with_phase" = some (.ref f) ∧ FunD K "with_phase" "with_phase" (defArgs wpS) (defBody wpS) (defScope wpS) [] [("at", .non)] f fd
structure OwnK (P : Program) (w : World) (K : PySem.W.Frag) (mg : Str → Option Value) (base : Heap) (k : Nat) (sp : Pm) : Prop where
  ex : ∃ (f : Addr) (fd : FuncData), mg "with_phase" = some (.ref f) ∧ PySem.W.keepIn K (.ref f) = true ∧ (∃ ds, Vals [.non] ds ∧ Binds K fd ["rule", "phase", "at"] ds) ∧
    KBn K fd ["rule", "phase", "at"] 2 ["at"] (fun us ws => us ++ ws) (fun vs zs => vs ++ zs) ∧ Runs P w K mg base k f fd ["rule", "phase", "at"] sp
section
variable {P : Program} {w : World} {K : PySem.W.Frag} {mg : Str → Option Value} {base : Heap}
theorem ownK_mk {N : List Str} {k : Nat} {sp : Pm} (D : DfK K mg) (S : FnScope N ["rule", "phase", "at"] (defScope wpS)) (len : ∀ vs H Q, sp vs H Q → vs.length = 3)
    (hbody : ∀ (f : Addr) (cdv : Value) (A : Around) (outer : List Env) (s : Shared) (H : Hp) (vs : List V) (Q : VK), Rm k (A.deeper (envOfC "with_phase" (defScope wpS) s.heap.objs.size f cdv)) → sp vs H Q →
      ∃ t, PSs (cxOf CX0 P w K mg base N "with_phase" (defScope wpS) f cdv A outer s H E0).nox (defBody wpS) t ∧ t { nx := fun _ H' => Q .non H', rt := Q } (start N vs) H) : OwnK P w K mg base (k + 1) sp := by
  obtain ⟨f, fd, hm, F⟩ := D
  refine ⟨f, fd, hm, F.kp, ?_, ?_, runs_of F S len (hbody f)⟩
  · exact FunD.binds0 F 2 (by simp) rfl fun D doc pm an cdv ct us ks h1 h2 => match us, ks, h1, h2 with
      | [_, _], [_], _, _ => ⟨_, _, _, _, _, _, rfl, rfl, rfl⟩
  · obtain ⟨mv, h⟩ := FunD.kbinds0 (ps := ["rule", "phase", "at"]) F 2 ["at"] [] (fun us mz ws => us ++ ws) (by simp) (fun q hq => nomatch hq) (fun r1 _ r2 => r1.append r2) fun D doc pm an cdv ct us mv ws h1 h2 h3 => match us, mv, ws, h1, h2, h3 with
      | [_, _], [], [_], _, _, _ => rfl
    exact h
end
section
variable {X : Cx} {j k : Nat} {sp : Pm} {p pos : Pos} {e : Expr} {es : List Expr} {kws : List Keyword} {t tk : TA}
def tOwnD (sp : Pm) (t : TA) : TE := fun σ H Q => t σ H fun vs H1 => sp (vs ++ [.non]) H1 Q
theorem pe_wpD (G : OwnK X.prog X.w X.K X.mg X.base k sp) (hr : Rm j X.A) (hg : Gl X "with_phase") (ha : PA X (e :: es) t) (hjk : k ≤ j := by decide)
    (he : starEach (e :: es) X.env = (false, eval e X.env) :: starEach es X.env := by rfl) (hpl : (backTo pos (starEach es X.env)).any (·.1) = false := by rfl) : PE X (.Call (.Name "with_phase" p) (e :: es) [] pos) (tOwnD sp t) := by
  obtain ⟨f, fd, hm, hk, ⟨ds, hds, hb⟩, _, F⟩ := G.ex
  refine ⟨fun pins s σ H Q I h => ?_⟩
  refine wpAny_Call_Name_kw (ld_glob I hg hm ?_ (by decide))
  refine PySem.W.callWith_K (h₀ := X.base) I.ok.mod.kin hk (thn (ha.run pos pins s σ H _ I h) fun us s1 ⟨vs, H1, I1, r, q⟩ => ⟨I1.kIn, ?_⟩) he hpl
  have r2 : Vals (vs ++ [.non]) (us ++ ds) := r.append hds
  have hl : (us ++ ds).length = 3 := by rw [← r2.length]; exact F.1 _ _ _ q
  exact run_runs (args := ⟨us, []⟩) F (hr.mono hjk) I1 (hb s1 us I1.kIn hl) r2 q
def tOwnK (sp : Pm) (t tk : TA) : TE := fun σ H Q => t σ H fun vs H1 => tk σ H1 fun zs H2 => vs.length = 2 ∧ zs.length = 1 ∧ sp (vs ++ zs) H2 Q
theorem pe_wpK (G : OwnK X.prog X.w X.K X.mg X.base k sp) (hr : Rm j X.A) (hg : Gl X "with_phase") (ha : PA X (e :: es) t) (hkw : PK X kws tk) (hjk : k ≤ j := by decide)
    (hall : (backToKw pos (keywordEach kws X.env)).all (·.1.isSome) = true := by rfl) (hks : (backToKw pos (keywordEach kws X.env)).filterMap (·.1) = ([("at" : Str)] : List Str) := by rfl)
    (he : starEach (e :: es) X.env = (false, eval e X.env) :: starEach es X.env := by rfl)
    (hpl : ((backTo pos (starEach (e :: es) X.env)).any (·.1) || (backToKw pos (keywordEach kws X.env)).any (·.1.isNone)) = false := by rfl) : PE X (.Call (.Name "with_phase" p) (e :: es) kws pos) (tOwnK sp t tk) := by
  obtain ⟨f, fd, hm, hk, _, hb, F⟩ := G.ex
  refine ⟨fun pins s σ H Q I h => ?_⟩
  refine wpAny_Call_Name_kw (ld_glob I hg hm ?_ (by decide))
  refine PySem.W.callWith_KW (h₀ := X.base) I.ok.mod.kin hk hall (thn (ha.run pos pins s σ H _ I h) fun us s1 ⟨vs, H1, I1, r, q⟩ => ?_) hpl he
  refine thn (hkw.run pos pins s1 σ H1 _ I1 q) fun ws s2 ⟨zs, H2, I2, rz, l1, l2, q2⟩ => ⟨I2.kIn, ?_⟩
  rw [hks]
  exact run_runs (args := ⟨us, ([("at" : Str)] : List Str).zip ws⟩) F (hr.mono hjk) I2 (hb.to s2 us ws I2.kIn (r.length.symm.trans l1) (rz.length.symm.trans l2)) (hb.rel r rz) q2
end
end EC
namespace EC
open PySem PySem.Spec PyProof.Rows L2
/-! ### kinds -/
variable {P : Program} {w : World} {K : PySem.W.Frag} {mg : Str → Option Value} {base : Heap} {aM aC : Addr}
def sp_is_integer : Pm := fun vs H Q => ∃ i : Int, vs = [.int i] ∧ Q (.bl true) H
def sp_is_number : Pm := fun vs H Q => ∃ i : Int, vs = [.int i] ∧ 0 ≤ i ∧ Q (.bl true) H
def sp_is_tuple_of (K : PySem.W.Frag) : Pm := fun vs H Q => ∃ (a : Addr) (xs : List V) (n : Int), vs = [.ref a, .int n] ∧ SqT K H a xs ∧ (xs.length : Int) = n ∧ Q (.bl true) H
def sp_is_move : Pm := fun vs H Q => ∃ z : Str, vs = [.str z] ∧ z ∈ moves ∧ Q (.bl true) H
def sp_is_case_pair (K : PySem.W.Frag) : Pm := fun vs H Q => ∃ (v : V) (p : Str × Int), vs = [v] ∧ Pr K H v p ∧ p.1 ∈ moves ∧ 0 ≤ p.2 ∧ Q (.bl true) H
def sp_is_phase (K : PySem.W.Frag) : Pm := fun vs H Q => ∃ (v : V) (ph : Ph Str), vs = [v] ∧ Phs K H v ph ∧ ph.length = 3 ∧ (∀ p ∈ ph, p.1 ∈ moves ∧ 0 ≤ p.2) ∧ ∀ H', Same H H' → Q (.bl true) H'
def sp_first_wrong_mark (K : PySem.W.Frag) : Pm := fun vs H Q => ∃ (a : Addr) (ms : List Int), vs = [.ref a] ∧ SqT K H a (ms.map V.int) ∧ Ris ms ∧ ∀ H', Same H H' → Q .non H'
def sp_is_marks (K : PySem.W.Frag) : Pm := fun vs H Q => ∃ (v : V) (ms : List Int), vs = [v] ∧ Mks K H v ms ∧ Ris ms ∧ ∀ H', Same H H' → Q (.bl true) H'
def sp_phase_fault (K : PySem.W.Frag) : Pm := fun vs H Q => ∃ (i : Int) (v : V) (ph : Ph Str) (n : Nat), vs = [.int i, v, .int n] ∧ Phs K H v ph ∧ PhOk moves n ph ∧ ∀ H', Same H H' → Q .non H'
def sp_rule_fault (K : PySem.W.Frag) : Pm := fun vs H Q => ∃ (v : V) (R : Rl Str), vs = [v] ∧ Rul K H v R ∧ RlOk moves R ∧ ∀ H', Same H H' → Q .non H'
def sp_lets_rule (K : PySem.W.Frag) : Pm := fun vs H Q => ∃ (v : V) (R : Rl Str), vs = [v] ∧ Rul K H v R ∧ RlOk moves R ∧ ∀ H', Same H H' → Q (.int R.2.length) H'
def sp_want : Pm := fun vs H Q => ∃ z : Str, vs = [.bl true, .str z] ∧ Q .non H
/-- what isinstance asks of a tuple, a class by its name -/
theorem ok_is_integer (T : Txt K mg aM aC) (D : Df K mg "is_integer" s_is_integer) : Own P w K mg base 1 "is_integer" ["thing"] sp_is_integer := by
  refine own_mk D sc_is_integer (fun _ _ _ _ _ _ us hl => match us, hl with | [_], _ => rfl) (fun vs H Q ⟨_, e, _⟩ => by rw [e] <;> rfl) fun f cdv A outer s H vs Q hr h => ?_
  obtain ⟨i, rfl, q⟩ := h
  refine ⟨_, (pss_one (ps_ret (pe_and (pe_callB call_isi (by rfl) T.isin (by decide +kernel) (pa_cons (pv 0) (pa_cons (pe_bltn (v := .ty "int") (by rfl) T.int_ (by decide +kernel) rfl) pa_nil))) (pe_one (pe_not (pe_callB call_isi (by rfl) T.isin (by decide +kernel) (pa_cons (pv 0) (pa_cons (pe_bltn (v := .ty "bool") (by rfl) T.bool_ (by decide +kernel) rfl) pa_nil)))))))), ?_⟩
  refine ⟨_, rfl, _, _, _, _, true, rfl, .ty _, .base (.int i), kit_ty (by decide +kernel), true, rfl, iteT ?_⟩
  exact ⟨_, rfl, _, _, _, _, false, rfl, .ty _, .base (.int i), kit_ty (by decide +kernel), false, rfl, q⟩
theorem ok_is_number (T : Txt K mg aM aC) (D : Df K mg "is_number" s_is_number) (g_is_integer : Own P w K mg base 1 "is_integer" ["thing"] sp_is_integer) : Own P w K mg base 2 "is_number" ["thing"] sp_is_number := by
  refine own_mk D sc_is_number (fun _ _ _ _ _ _ us hl => match us, hl with | [_], _ => rfl) (fun vs H Q ⟨_, e, _⟩ => by rw [e] <;> rfl) fun f cdv A outer s H vs Q hr h => ?_
  obtain ⟨i, rfl, h0, q⟩ := h
  refine ⟨_, (pss_one (ps_ret (pe_and (pe_own g_is_integer hr (by rfl) (pa_cons (pv 0) pa_nil)) (pe_one (pe_cmpR op_ge (pv 0) pe_int (nomark _)))))), ?_⟩
  refine ⟨_, rfl, i, rfl, true, rfl, iteT ?_⟩
  refine ⟨_, rfl, _, _, rfl, rfl, ?_⟩
  show Q (.bl (decide ((0 : Int) ≤ i))) H
  rw [decide_eq_true h0]
  exact q
theorem ok_is_tuple_of (T : Txt K mg aM aC) (D : Df K mg "is_tuple_of" s_is_tuple_of) : Own P w K mg base 1 "is_tuple_of" ["thing", "many"] (sp_is_tuple_of K) := by
  refine own_mk D sc_is_tuple_of (fun _ _ _ _ _ _ us hl => match us, hl with | [_, _], _ => rfl) (fun vs H Q ⟨_, _, _, e, _⟩ => by rw [e] <;> rfl) fun f cdv A outer s H vs Q hr h => ?_
  obtain ⟨a, xs, n, rfl, hS, hn, q⟩ := h
  refine ⟨_, (pss_one (ps_ret (pe_and (pe_callB call_isi (by rfl) T.isin (by decide +kernel) (pa_cons (pv 0) (pa_cons (pe_bltn (v := .ty "tuple") (by rfl) T.tuple_ (by decide +kernel) rfl) pa_nil))) (pe_one (pe_cmpR op_eq (pe_callB call_len_seq (by rfl) T.len_ PySem.boot_len (pa_cons (pv 0) pa_nil)) (pv 1) (nomark _)))))), ?_⟩
  refine ⟨_, rfl, _, _, _, _, true, rfl, .ty _, tyT hS, kit_ty (by decide +kernel), true, rfl, iteT ?_⟩
  refine ⟨_, rfl, _, _, rfl, .inr hS, _, rfl, rfl, ?_⟩
  show Q (.bl (decide (V.int ((xs.length : Nat) : Int) = V.int n))) H
  rw [decide_eq_true (by rw [hn])]
  exact q
theorem eqV_str (a b : Str) : eqV (.str a) (.str b) = decide (a = b) := by
  show (a == b) = decide (a = b)
  by_cases h : a = b
  · subst h; simp
  · rw [decide_eq_false h]; simp [h]
theorem inV_str (z : Str) (l : List Str) : inV (.str z) (l.map V.str) = decide (z ∈ l) := by
  unfold inV
  induction l with
  | nil => rfl
  | cons a l ih =>
    rw [List.map_cons, List.any_cons, ih, eqV_str]
    by_cases h : a = z
    · subst h; simp
    · have h' : ¬ z = a := fun e => h e.symm
      simp [h, h']
theorem flat_str (l : List Str) : (l.map V.str).all flatV = true := by rw [List.all_map]; exact List.all_eq_true.mpr fun _ _ => rfl
theorem inV_int (z : Int) (l : List Int) : inV (.int z) (l.map V.int) = decide (z ∈ l) := by
  unfold inV
  induction l with
  | nil => rfl
  | cons a l ih =>
    rw [List.map_cons, List.any_cons, ih]
    show (a == z || decide (z ∈ l)) = _
    by_cases h : a = z
    · subst h; simp
    · have h' : ¬ z = a := fun e => h e.symm
      simp [h, h']
theorem flat_int (l : List Int) : (l.map V.int).all flatV = true := by rw [List.all_map]; exact List.all_eq_true.mpr fun _ _ => rfl
theorem ok_is_move (T : Txt K mg aM aC) (D : Df K mg "is_move" s_is_move) : Own P w K mg base 1 "is_move" ["thing"] sp_is_move := by
  refine own_mk D sc_is_move (fun _ _ _ _ _ _ us hl => match us, hl with | [_], _ => rfl) (fun vs H Q ⟨_, e, _⟩ => by rw [e] <;> rfl) fun f cdv A outer s H vs Q hr h => ?_
  obtain ⟨z, rfl, hz, q⟩ := h
  refine ⟨_, (pss_one (ps_ret (pe_and (pe_callB call_isi (by rfl) T.isin (by decide +kernel) (pa_cons (pv 0) (pa_cons (pe_bltn (v := .ty "str") (by rfl) T.str_ (by decide +kernel) rfl) pa_nil))) (pe_one (pe_cmpR op_in_seq (pv 0) (pe_glob (v := .ref aM) (by rfl) T.gM rfl) (by rfl)))))), ?_⟩
  refine ⟨_, rfl, _, _, _, _, true, rfl, .ty _, .base (.str z), kit_ty (by decide +kernel), true, rfl, iteT ?_⟩
  refine ⟨_, rfl, aM, _, rfl, .inr (T.tM H), rfl, flat_str _, ?_⟩
  show Q (.bl (inV (.str z) (moves.map V.str))) H
  rw [inV_str, decide_eq_true hz]
  exact q
theorem ok_is_case_pair (T : Txt K mg aM aC) (D : Df K mg "is_case_pair" s_is_case_pair) (g_is_tuple_of : Own P w K mg base 1 "is_tuple_of" ["thing", "many"] (sp_is_tuple_of K)) (g_is_move : Own P w K mg base 1 "is_move" ["thing"] sp_is_move)
    (g_is_number : Own P w K mg base 2 "is_number" ["thing"] sp_is_number) : Own P w K mg base 3 "is_case_pair" ["thing"] (sp_is_case_pair K) := by
  refine own_mk D sc_is_case_pair (fun _ _ _ _ _ _ us hl => match us, hl with | [_], _ => rfl) (fun vs H Q ⟨_, _, e, _⟩ => by rw [e] <;> rfl) fun f cdv A outer s H vs Q hr h => ?_
  obtain ⟨v, p, rfl, ⟨a, rfl, hS⟩, hm, h0, q⟩ := h
  refine ⟨_, (pss_one (ps_ret (pe_and (pe_own g_is_tuple_of hr (by rfl) (pa_cons (pv 0) (pa_cons pe_int pa_nil))) (pe_and (pe_own g_is_move hr (by rfl) (pa_cons (pe_ix ix_tup (pv 0) pe_int (fun _ _ => rfl)) pa_nil)) (pe_one (pe_own g_is_number hr (by rfl) (pa_cons (pe_ix ix_tup (pv 0) pe_int (fun _ _ => rfl)) pa_nil))))))), ?_⟩
  refine ⟨_, rfl, a, _, 2, rfl, hS, rfl, true, rfl, iteT ?_⟩
  refine ⟨_, rfl, a, _, 0, _, rfl, rfl, hS, rfl, p.1, rfl, hm, true, rfl, iteT ?_⟩
  exact ⟨_, rfl, a, _, 1, _, rfl, rfl, hS, rfl, p.2, rfl, h0, q⟩
theorem vals_true {T : Nat → V → Prop} {n : Nat} {ys : List V} (s : Sel (fun _ => true) T n ys) (h : ∀ i y, T i y → y = .bl true) : ys = (List.replicate n true).map V.bl := by
  obtain ⟨h1, h2⟩ := s.all
  apply List.ext_getElem?
  intro i
  rw [List.map_replicate, List.getElem?_replicate]
  by_cases hi : i < n
  · rw [if_pos hi]
    have e : ys[i]? = some ys[i] := by simp [h1, hi]
    rw [e, h i _ (h2 i _ e)]
  · rw [if_neg hi, List.getElem?_eq_none (by omega)]
theorem all_true (n : Nat) : (List.replicate n true).all id = true := by
  rw [List.all_eq_true]
  intro x hx
  rw [List.eq_of_mem_replicate hx] <;> rfl
theorem ok_is_phase (T : Txt K mg aM aC) (D : Df K mg "is_phase" s_is_phase) (g_is_tuple_of : Own P w K mg base 1 "is_tuple_of" ["thing", "many"] (sp_is_tuple_of K)) (g_is_case_pair : Own P w K mg base 3 "is_case_pair" ["thing"] (sp_is_case_pair K)) :
    Own P w K mg base 4 "is_phase" ["thing"] (sp_is_phase K) := by
  refine own_mk D sc_is_phase (fun _ _ _ _ _ _ us hl => match us, hl with | [_], _ => rfl) (fun vs H Q ⟨_, _, e, _⟩ => by rw [e] <;> rfl) fun f cdv A outer s H vs Q hr h => ?_
  obtain ⟨v, ph, rfl, ⟨a, xs, rfl, hS, hP⟩, hl, hp, q⟩ := h
  refine ⟨_, (pss_one (ps_ret (pe_and (pe_own g_is_tuple_of hr (by rfl) (pa_cons (pv 0) (pa_cons pe_int pa_nil))) (pe_one (pe_callB (cr_all rfl) (by rfl) T.all_ (by decide +kernel) (pa_cons (pe_lc (own := [("one", 1)]) (g := (gName 1)) (tt := tYes) rfl sc_is_phase.nd (pi_tup (pv 0)) (blkOk_by (N := N_is_phase) (sc := defScope s_is_phase) (by decide +kernel)) (fun _ _ _ _ _ => (pg_name (i := 1) sc_is_phase.nd rfl (Or.inl rfl))) (fun _ _ _ _ _ => pts_nil) (fun _ _ _ _ _ => (pe_own g_is_case_pair hr (by rfl) (pa_cons (pv 1) pa_nil)))) pa_nil)))))), ?_⟩
  have hlen := hP.length
  refine ⟨_, rfl, a, _, 3, rfl, hS, by rw [hlen, hl] <;> rfl, true, rfl, iteT ?_⟩
  refine ⟨_, rfl, a, rfl, ⟨_, hS⟩, ?_⟩
  refine fun D' hD => comp_sel walk_tup hD (fun _ H' => Same H H') (fun _ => true) (fun _ _ y => y = .bl true) (by omega) (fun H' s => s) (fun _ H' _ s => sqT_tk (tk_same s) hS) (fun _ _ _ ys hD s => same_upd s hD) (fun _ _ _ _ _ e => e) ?_ ?_
  · rintro i x H1 H2 C C' hi sm ⟨rfl, hx⟩ hC _
    refine ⟨rfl, ?_⟩
    obtain ⟨p, e1, hpr⟩ := paired_at hP hx
    obtain ⟨m1, m2⟩ := hp p (List.mem_of_getElem? e1)
    refine ⟨_, rfl, x, p, rfl, hpr.tk (tk_same sm), m1, m2, ?_⟩
    exact hC _ _ rfl sm (Tk.refl _) (fun _ _ _ e => e) rfl
  · intro H' ys sm hy hs
    refine ⟨_, _, rfl, SqL.of (by rw [hy, vals_true hs fun _ _ e => e]), ?_⟩
    rw [all_true]
    exact q _ sm
theorem ok_first_wrong_mark (T : Txt K mg aM aC) (D : Df K mg "first_wrong_mark" s_first_wrong_mark) (g_is_integer : Own P w K mg base 1 "is_integer" ["thing"] sp_is_integer) : Own P w K mg base 2 "first_wrong_mark" ["things"] (sp_first_wrong_mark K) := by
  refine own_mk D sc_first_wrong_mark (fun _ _ _ _ _ _ us hl => match us, hl with | [_], _ => rfl) (fun vs H Q ⟨_, _, e, _⟩ => by rw [e] <;> rfl) fun f cdv A outer s H vs Q hr h => ?_
  obtain ⟨a, ms, rfl, hS, hR, q⟩ := h
  refine ⟨_, (pss_cons (ps_for PassesOwn.never rfl (pi_enumT (by rfl) T.enum_ (pa_cons (pv 0) pa_nil)) (pg_tup rfl (pgs_cons (pg_name (i := 1) sc_first_wrong_mark.nd rfl (Or.inl rfl)) (pgs_cons (pg_name (i := 2) sc_first_wrong_mark.nd rfl (Or.inl rfl)) pgs_nil)))
      (pss_one (ps_if (PW.pt (pw_or (pt_not (pt_val (pe_own g_is_integer hr (by rfl) (pa_cons (pv 2) pa_nil)))) (pw_or1 (PW.pt (pw_and (pt_cmpR op_gt (pv 1) pe_int (nomark _)) (pw_and1 (pt_cmpR op_le (pv 2) (pe_ix ix_tup (pv 0) (pe_op op_sub (pv 1) pe_int) (fun _ _ => rfl)) (nomark _)))))))) (pss_one (ps_ret (pv 1))) pss_nil)))
      (pss_one (ps_ret pe_non))), ?_⟩
  refine ⟨_, rfl, a, _, rfl, hS, for_it walk_enumT (fun i σ H' => Same H H' ∧ ∃ u v, σ = [some (.ref a), u, v]) ⟨Same.refl H, none, none, rfl⟩ (fun i σ H' _ p => sqT_tk (tk_same p.1) hS) ?_ ?_⟩
  · rintro i x σ H1 H2 hi ⟨sm, u, v, rfl⟩ ⟨T', x', y, rfl, hT, rfl, e1, e2⟩
    cases e1
    have sm2 : Same H (upd H1 T' (.tup [.int (i : Nat), y])) := sm.trans (same_new hT)
    have hi' : i < ms.length := by simpa using hi
    obtain rfl : y = .int ms[i] := by
      have e2 : (ms.map V.int)[i]? = some y := e2
      rw [List.getElem?_map, List.getElem?_eq_getElem hi'] at e2
      exact (Option.some.inj e2).symm
    refine ⟨T', _, rfl, SqT.of upd_same, rfl, _, _, rfl, _, _, rfl, rfl, ?_⟩
    refine ⟨_, rfl, _, rfl, true, rfl, iteF ?_⟩
    refine ⟨_, rfl, _, _, rfl, rfl, _, rfl, ?_⟩
    refine ite2 (fun hk => ?_) (fun hk => ?_)
    · have hk : 0 < i := by have := of_decide_eq_true hk; omega
      have e3 : ms[i - 1]? = some ms[i - 1] := List.getElem?_eq_getElem (by omega)
      have hlt : ms[i - 1] < ms[i] := List.pairwise_iff_getElem.mp hR (i - 1) i (by omega) hi' (by omega)
      refine ⟨_, rfl, _, rfl, _, rfl, _, _, rfl, rfl, a, _, ((i - 1 : Nat) : Int), .int ms[i - 1], rfl, by
        show V.int ((i : Int) - 1) = _
        congr 1
        omega, sqT_tk (tk_same sm2) hS, atI_nat (by rw [List.getElem?_map, e3] <;> rfl), _, _, rfl, rfl, _, rfl, ?_⟩
      rw [decide_eq_false (by omega)]
      exact iteF ⟨sm2, _, _, rfl⟩
    · exact iteF ⟨sm2, _, _, rfl⟩
  · rintro σ H' ⟨sm, u, v, rfl⟩
    exact q _ sm
theorem ok_is_marks (T : Txt K mg aM aC) (D : Df K mg "is_marks" s_is_marks) (g_first_wrong_mark : Own P w K mg base 2 "first_wrong_mark" ["things"] (sp_first_wrong_mark K)) : Own P w K mg base 3 "is_marks" ["thing"] (sp_is_marks K) := by
  refine own_mk D sc_is_marks (fun _ _ _ _ _ _ us hl => match us, hl with | [_], _ => rfl) (fun vs H Q ⟨_, _, e, _⟩ => by rw [e] <;> rfl) fun f cdv A outer s H vs Q hr h => ?_
  obtain ⟨v, ms, rfl, ⟨a, rfl, hS⟩, hR, q⟩ := h
  refine ⟨_, (pss_one (ps_ret (pe_and (pe_callB call_isi (by rfl) T.isin (by decide +kernel) (pa_cons (pv 0) (pa_cons (pe_bltn (v := .ty "tuple") (by rfl) T.tuple_ (by decide +kernel) rfl) pa_nil))) (pe_one (pe_cmpR op_isN (pe_own g_first_wrong_mark hr (by rfl) (pa_cons (pv 0) pa_nil)) pe_non (nomark _)))))), ?_⟩
  refine ⟨_, rfl, _, _, _, _, true, rfl, .ty _, tyT hS, kit_ty (by decide +kernel), true, rfl, iteT ?_⟩
  refine ⟨_, rfl, a, ms, rfl, hS, hR, fun H' sm => ?_⟩
  exact ⟨rfl, q _ sm⟩
theorem ok_want (T : Txt K mg aM aC) (D : Df K mg "want" s_want) : Own P w K mg base 1 "want" ["is_right", "word"] sp_want := by
  refine own_mk D sc_want (fun _ _ _ _ _ _ us hl => match us, hl with | [_, _], _ => rfl) (fun vs H Q ⟨_, e, _⟩ => by rw [e] <;> rfl) fun f cdv A outer s H vs Q hr h => ?_
  obtain ⟨z, rfl, q⟩ := h
  refine ⟨_, (pss_one (ps_if (pt_not (pt_val (pv 0))) (pss_one ps_never) pss_nil)), ?_⟩
  exact ⟨_, rfl, true, rfl, iteF q⟩
theorem ok_phase_fault (T : Txt K mg aM aC) (D : Df K mg "phase_fault" s_phase_fault) (g_is_tuple_of : Own P w K mg base 1 "is_tuple_of" ["thing", "many"] (sp_is_tuple_of K)) (g_is_case_pair : Own P w K mg base 3 "is_case_pair" ["thing"] (sp_is_case_pair K)) :
    Own P w K mg base 4 "phase_fault" ["i", "thing", "many"] (sp_phase_fault K) := by
  refine own_mk D sc_phase_fault (fun _ _ _ _ _ _ us hl => match us, hl with | [_, _, _], _ => rfl) (fun vs H Q ⟨_, _, _, _, e, _⟩ => by rw [e] <;> rfl) fun f cdv A outer s H vs Q hr h => ?_
  obtain ⟨i0, v, ph, n, rfl, ⟨a, xs, rfl, hS, hP⟩, ok, q⟩ := h
  refine ⟨_, (pss_cons (ps_if (pt_not (pt_val (pe_own g_is_tuple_of hr (by rfl) (pa_cons (pv 1) (pa_cons pe_int pa_nil))))) (pss_one (ps_ret (pe_tupS (K := K) rfl (pa_cons pe_str (pa_cons (pv 0) pa_nil))))) pss_nil)
      (pss_cons (ps_for PassesOwn.never rfl (pi_enumT (by rfl) T.enum_ (pa_cons (pv 1) pa_nil)) (pg_tup rfl (pgs_cons (pg_name (i := 3) sc_phase_fault.nd rfl (Or.inl rfl)) (pgs_cons (pg_name (i := 4) sc_phase_fault.nd rfl (Or.inl rfl)) pgs_nil)))
      (pss_cons (ps_if (pt_not (pt_val (pe_own g_is_case_pair hr (by rfl) (pa_cons (pv 4) pa_nil)))) (pss_one (ps_ret (pe_tupS (K := K) rfl (pa_cons pe_str (pa_cons (pe_tupS (K := K) rfl (pa_cons (pv 0) (pa_cons (pv 3) pa_nil))) pa_nil))))) pss_nil)
      (pss_one (ps_if (pt_cmpR op_ge (pe_ix ix_tup (pv 4) pe_int (fun _ _ => rfl)) (pv 2) (nomark _)) (pss_one (ps_ret (pe_tupS (K := K) rfl (pa_cons pe_str (pa_cons (pe_tupS (K := K) rfl (pa_cons (pv 0) (pa_cons (pv 3) pa_nil))) pa_nil))))) pss_nil))))
      (pss_one (ps_ret pe_non)))), ?_⟩
  have hlen := hP.length
  refine ⟨_, rfl, a, _, 3, rfl, hS, by rw [hlen, ok.len] <;> rfl, true, rfl, iteF ?_⟩
  refine ⟨_, rfl, a, _, rfl, hS, for_it walk_enumT (fun i σ H' => Same H H' ∧ ∃ u v, σ = [some (.int i0), some (.ref a), some (.int n), u, v]) ⟨Same.refl H, none, none, rfl⟩ (fun i σ H' _ p => sqT_tk (tk_same p.1) hS) ?_ ?_⟩
  · rintro i x σ H1 H2 hi ⟨sm, u, v, rfl⟩ ⟨T', x', y, rfl, hT, rfl, e1, e2⟩
    cases e1
    have sm2 : Same H (upd H1 T' (.tup [.int (i : Nat), y])) := sm.trans (same_new hT)
    obtain ⟨p, e3, hpr⟩ := paired_at hP e2
    have hp := List.mem_of_getElem? e3
    have hpr2 := hpr.tk (tk_same sm2)
    obtain ⟨b, rfl, hb⟩ := id hpr2
    refine ⟨T', _, rfl, SqT.of upd_same, rfl, _, _, rfl, _, _, rfl, rfl, ?_⟩
    refine ⟨_, rfl, _, p, rfl, hpr2, ok.mv p hp, ok.lo p hp, true, rfl, iteF ?_⟩
    refine ⟨_, rfl, b, _, 1, _, rfl, rfl, hb, rfl, _, rfl, _, _, rfl, rfl, _, rfl, ?_⟩
    have h1 := ok.hi p hp
    rw [decide_eq_false (by omega)]
    exact iteF ⟨sm2, _, _, rfl⟩
  · rintro σ H' ⟨sm, u, v, rfl⟩
    exact q _ sm
theorem ok_rule_fault (T : Txt K mg aM aC) (D : Df K mg "rule_fault" s_rule_fault) (g_is_tuple_of : Own P w K mg base 1 "is_tuple_of" ["thing", "many"] (sp_is_tuple_of K)) (g_first_wrong_mark : Own P w K mg base 2 "first_wrong_mark" ["things"] (sp_first_wrong_mark K))
    (g_phase_fault : Own P w K mg base 4 "phase_fault" ["i", "thing", "many"] (sp_phase_fault K)) : Own P w K mg base 5 "rule_fault" ["thing"] (sp_rule_fault K) := by
  refine own_mk D sc_rule_fault (fun _ _ _ _ _ _ us hl => match us, hl with | [_], _ => rfl) (fun vs H Q ⟨_, _, e, _⟩ => by rw [e] <;> rfl) fun f cdv A outer s H vs Q hr h => ?_
  obtain ⟨v, R, rfl, ⟨a, x, y, rfl, hS, ⟨b, rfl, hM⟩, ⟨c, xs, rfl, hC, hP⟩⟩, ok, q⟩ := h
  refine ⟨_, (pss_cons (ps_if (pt_not (pt_val (pe_own g_is_tuple_of hr (by rfl) (pa_cons (pv 0) (pa_cons pe_int pa_nil))))) (pss_one (ps_ret (pe_tupS (K := K) rfl (pa_cons pe_str (pa_cons (pe_un un_neg pe_int) pa_nil))))) pss_nil)
      (pss_cons (ps_asg (pv 0) (pg_tup rfl (pgs_cons (pg_name (i := 1) sc_rule_fault.nd rfl (Or.inl rfl)) (pgs_cons (pg_name (i := 2) sc_rule_fault.nd rfl (Or.inl rfl)) pgs_nil))))
      (pss_cons (ps_if (pt_not (pt_val (pe_callB call_isi (by rfl) T.isin (by decide +kernel) (pa_cons (pv 1) (pa_cons (pe_bltn (v := .ty "tuple") (by rfl) T.tuple_ (by decide +kernel) rfl) pa_nil))))) (pss_one (ps_ret (pe_tupS (K := K) rfl (pa_cons pe_str (pa_cons (pe_un un_neg pe_int) pa_nil))))) pss_nil)
      (pss_cons (ps_set (i := 3) sc_rule_fault.nd rfl (Or.inl rfl) (pe_own g_first_wrong_mark hr (by rfl) (pa_cons (pv 1) pa_nil)))
      (pss_cons (ps_if (pt_cmpR op_notN (pv 3) pe_non (nomark _)) (pss_one (ps_ret (pe_tupS (K := K) rfl (pa_cons pe_str (pa_cons (pv 3) pa_nil))))) pss_nil)
      (pss_cons (ps_if (PW.pt (pw_or (pt_not (pt_val (pe_callB call_isi (by rfl) T.isin (by decide +kernel) (pa_cons (pv 2) (pa_cons (pe_bltn (v := .ty "tuple") (by rfl) T.tuple_ (by decide +kernel) rfl) pa_nil))))) (pw_or1 (pt_cmpR op_eq (pe_callB call_len_seq (by rfl) T.len_ PySem.boot_len (pa_cons (pv 2) pa_nil)) pe_int (nomark _))))) (pss_one (ps_ret (pe_tupS (K := K) rfl (pa_cons pe_str (pa_cons (pe_un un_neg pe_int) pa_nil))))) pss_nil)
      (pss_cons (ps_for PassesOwn.never rfl (pi_enumT (by rfl) T.enum_ (pa_cons (pv 2) pa_nil)) (pg_tup rfl (pgs_cons (pg_name (i := 4) sc_rule_fault.nd rfl (Or.inl rfl)) (pgs_cons (pg_name (i := 5) sc_rule_fault.nd rfl (Or.inl rfl)) pgs_nil)))
      (pss_cons (ps_set (i := 6) sc_rule_fault.nd rfl (Or.inl rfl) (pe_own g_phase_fault hr (by rfl) (pa_cons (pv 4) (pa_cons (pv 5) (pa_cons (pe_callB call_len_seq (by rfl) T.len_ PySem.boot_len (pa_cons (pv 2) pa_nil)) pa_nil)))))
      (pss_one (ps_if (pt_cmpR op_notN (pv 6) pe_non (nomark _)) (pss_one (ps_ret (pv 6))) pss_nil))))
      (pss_one (ps_ret pe_non))))))))), ?_⟩
  have hlen := hP.length
  refine ⟨_, rfl, a, _, 2, rfl, hS, rfl, true, rfl, iteF ?_⟩
  refine ⟨_, rfl, a, _, rfl, hS, rfl, _, _, rfl, _, _, rfl, rfl, ?_⟩
  refine ⟨_, rfl, _, _, _, _, true, rfl, .ty _, tyT hM, kit_ty (by decide +kernel), true, rfl, iteF ?_⟩
  refine ⟨_, rfl, b, _, rfl, hM, ok.ris, fun H1 s1 => ?_⟩
  refine ⟨_, rfl, rfl, false, rfl, iteF ?_⟩
  have hC1 := sqT_tk (tk_same s1) hC
  refine ⟨_, rfl, _, _, _, _, true, rfl, .ty _, tyT hC1, kit_ty (by decide +kernel), true, rfl, iteF ?_⟩
  refine ⟨_, rfl, c, _, rfl, .inr hC1, rfl, _, rfl, ?_⟩
  rw [decide_eq_false (fun e => by
    have h1 : ((xs.length : Nat) : Int) = 0 := V.int.inj e
    have h2 := ok.pos
    omega)]
  refine iteF ?_
  refine ⟨_, rfl, c, _, rfl, hC1, for_it walk_enumT (fun i σ H' => Same H1 H' ∧ ∃ u v t, σ = [some (.ref a), some (.ref b), some (.ref c), some .non, u, v, t]) ⟨Same.refl H1, none, none, none, rfl⟩ (fun i σ H' _ p => sqT_tk (tk_same p.1) hC1) ?_ ?_⟩
  · rintro i x σ H2 H3 hi ⟨sm, u, v, t, rfl⟩ ⟨T', x', y, rfl, hT, rfl, e1, e2⟩
    cases e1
    have sm2 : Same H1 (upd H2 T' (.tup [.int (i : Nat), y])) := sm.trans (same_new hT)
    obtain ⟨p, e3, hpr⟩ := paired_at hP e2
    have hp := ok.ph p (List.mem_of_getElem? e3)
    refine ⟨T', _, rfl, SqT.of upd_same, rfl, _, _, rfl, _, _, rfl, rfl, ?_⟩
    refine ⟨_, rfl, _, rfl, _, rfl, c, _, rfl, .inr (sqT_tk (tk_same sm2) hC1), _, _, p, R.2.length, by rw [hlen], hpr.tk (tk_same (s1.trans sm2)), hp, fun H4 s4 => ?_⟩
    refine ⟨_, rfl, rfl, false, rfl, iteF ?_⟩
    exact ⟨sm2.trans s4, _, _, _, rfl⟩
  · rintro σ H' ⟨sm, u, v, t, rfl⟩
    exact q _ (s1.trans sm)
theorem ok_lets_rule (T : Txt K mg aM aC) (D : Df K mg "lets_rule" s_lets_rule) (g_rule_fault : Own P w K mg base 5 "rule_fault" ["thing"] (sp_rule_fault K)) : Own P w K mg base 6 "lets_rule" ["thing"] (sp_lets_rule K) := by
  refine own_mk D sc_lets_rule (fun _ _ _ _ _ _ us hl => match us, hl with | [_], _ => rfl) (fun vs H Q ⟨_, _, e, _⟩ => by rw [e] <;> rfl) fun f cdv A outer s H vs Q hr h => ?_
  obtain ⟨v, R, rfl, hRul, ok, q⟩ := h
  refine ⟨_, (pss_cons (ps_set (i := 1) sc_lets_rule.nd rfl (Or.inl rfl) (pe_own g_rule_fault hr (by rfl) (pa_cons (pv 0) pa_nil)))
      (pss_cons (ps_if (pt_cmpR op_notN (pv 1) pe_non (nomark _)) (pss_one ps_never) pss_nil)
      (pss_one (ps_ret (pe_callB call_len_seq (by rfl) T.len_ PySem.boot_len (pa_cons (pe_ix ix_tup (pv 0) pe_int (fun _ _ => rfl)) pa_nil)))))), ?_⟩
  refine ⟨_, rfl, v, R, rfl, hRul, ok, fun H1 s1 => ?_⟩
  refine ⟨_, rfl, rfl, false, rfl, iteF ?_⟩
  obtain ⟨a, x, y, rfl, hS, _, ⟨c, xs, rfl, hC, hP⟩⟩ := hRul
  refine ⟨_, rfl, a, _, 1, _, rfl, rfl, sqT_tk (tk_same s1) hS, rfl, c, _, rfl, .inr (sqT_tk (tk_same s1) hC), ?_⟩
  rw [hP.length]
  exact q _ s1
end EC
namespace EC
open PySem PySem.Spec PyProof.Rows L2
/-! ### changed rules -/
variable {P : Program} {w : World} {K : PySem.W.Frag} {mg : Str → Option Value} {base : Heap} {aM aC : Addr}
/-- few enough -/
structure Sm (R : Rl Str) : Prop where
  m : R.1.length ≤ 500
  p : R.2.length ≤ 500
  q : ∀ ph ∈ R.2, ph.length ≤ 500
def sp_is_index (K : PySem.W.Frag) : Pm := fun vs H Q => ∃ (v : V) (R : Rl Str) (i : Int), vs = [v, .int i] ∧ Rul K H v R ∧ 0 ≤ i ∧ i < R.2.length ∧ Q (.bl true) H
def sp_with_mark (K : PySem.W.Frag) : Pm := fun vs H Q => ∃ (v : V) (R : Rl Str) (m : Int), vs = [v, .int m] ∧ Rul K H v R ∧ Sm R ∧ m ∉ R.1 ∧ ∀ v' H', Same H H' → Rul K H' v' (wMark R m) → Q v' H'
def sp_without_mark (K : PySem.W.Frag) : Pm := fun vs H Q => ∃ (v : V) (R : Rl Str) (m : Int), vs = [v, .int m] ∧ Rul K H v R ∧ Sm R ∧ m ∈ R.1 ∧ ∀ v' H', Same H H' → Rul K H' v' (woMark R m) → Q v' H'
def sp_with_marks (K : PySem.W.Frag) : Pm := fun vs H Q => ∃ (v u : V) (R : Rl Str) (ms : List Int), vs = [v, u] ∧ Rul K H v R ∧ Mks K H u ms ∧ Ris ms ∧ ∀ v' H', Same H H' → Rul K H' v' (ms, R.2) → Q v' H'
def sp_shifted (K : PySem.W.Frag) : Pm := fun vs H Q => ∃ (v : V) (R : Rl Str) (b : Int), vs = [v, .int b] ∧ Rul K H v R ∧ Sm R ∧ ∀ v' H', Same H H' → Rul K H' v' (shiftR R b) → Q v' H'
def sp_moved_up (K : PySem.W.Frag) : Pm := fun vs H Q => ∃ (v : V) (ph : Ph Str) (s : Int), vs = [v, .int s] ∧ Phs K H v ph ∧ ph.length ≤ 500 ∧ ∀ v' H', Same H H' → Phs K H' v' (upP s ph) → Q v' H'
def sp_with_phase (K : PySem.W.Frag) : Pm := fun vs H Q => ∃ (v u a : V) (R : Rl Str) (ph : Ph Str) (s : Nat), vs = [v, u, a] ∧ Rul K H v R ∧ Sm R ∧ Phs K H u ph ∧ ph.length = 3 ∧ (∀ p ∈ ph, p.1 ∈ moves ∧ 0 ≤ p.2) ∧ (∀ p ∈ ph, p.2 ≤ R.2.length) ∧
  ((a = .non ∧ s = R.2.length) ∨ (a = .int s ∧ s ≤ R.2.length)) ∧ ∀ v' H', Same H H' → Rul K H' v' (wPhase R ph s) → Q v' H'
def sp_later_without : Pm := fun vs H Q => ∃ n i : Int, vs = [.int n, .int i] ∧ Q (.int (loN i n)) H
def sp_without_phase (K : PySem.W.Frag) : Pm := fun vs H Q => ∃ (v : V) (R : Rl Str) (i : Nat), vs = [v, .int i] ∧ Rul K H v R ∧ Sm R ∧ i < R.2.length ∧ 1 < R.2.length ∧ ∀ v' H', Same H H' → Rul K H' v' (woPhase R i) → Q v' H'
def sp_with_pair (K : PySem.W.Frag) : Pm := fun vs H Q => ∃ (v : V) (R : Rl Str) (i k : Nat) (c mv : Str) (n : Int) (own : Ph Str), vs = [v, .int i, .str c, .str mv, .int n] ∧ Rul K H v R ∧ Sm R ∧ R.2[i]? = some own ∧ own.length = 3 ∧ cases3[k]? = some c ∧ mv ∈ moves ∧ 0 ≤ n ∧ n < R.2.length ∧
  ∀ v' H', Same H H' → Rul K H' v' (wPair R i k (mv, n)) → Q v' H'
theorem ok_is_index (T : Txt K mg aM aC) (D : Df K mg "is_index" s_is_index) (g_is_number : Own P w K mg base 2 "is_number" ["thing"] sp_is_number) : Own P w K mg base 3 "is_index" ["rule", "thing"] (sp_is_index K) := by
  refine own_mk D sc_is_index (fun _ _ _ _ _ _ us hl => match us, hl with | [_, _], _ => rfl) (fun vs H Q ⟨_, _, _, e, _⟩ => by rw [e] <;> rfl) fun f cdv A outer s H vs Q hr h => ?_
  obtain ⟨v, R, i, rfl, ⟨a, x, y, rfl, hS, hM, ⟨c, xs, rfl, hC, hP⟩⟩, h0, h1, q⟩ := h
  refine ⟨_, (pss_one (ps_ret (pe_and (pe_own g_is_number hr (by rfl) (pa_cons (pv 1) pa_nil)) (pe_one (pe_cmpR op_lt (pv 1) (pe_callB call_len_seq (by rfl) T.len_ PySem.boot_len (pa_cons (pe_ix ix_tup (pv 0) pe_int (fun _ _ => rfl)) pa_nil)) (nomark _)))))), ?_⟩
  refine ⟨_, rfl, i, rfl, h0, true, rfl, iteT ?_⟩
  refine ⟨_, rfl, _, rfl, a, _, 1, _, rfl, rfl, hS, rfl, c, _, rfl, .inr hC, _, _, rfl, rfl, ?_⟩
  show Q (.bl (decide (i < ((xs.length : Nat) : Int)))) H
  rw [hP.length, decide_eq_true h1]
  exact q
theorem ok_with_mark (T : Txt K mg aM aC) (D : Df K mg "with_mark" s_with_mark) (g_want : Own P w K mg base 1 "want" ["is_right", "word"] sp_want) (g_is_integer : Own P w K mg base 1 "is_integer" ["thing"] sp_is_integer) :
    Own P w K mg base 2 "with_mark" ["rule", "mark"] (sp_with_mark K) := by
  refine own_mk D sc_with_mark (fun _ _ _ _ _ _ us hl => match us, hl with | [_, _], _ => rfl) (fun vs H Q ⟨_, _, _, e, _⟩ => by rw [e] <;> rfl) fun f cdv A outer s H vs Q hr h => ?_
  obtain ⟨v, R, m, rfl, ⟨a, x, y, rfl, hS, ⟨b, rfl, hM⟩, hL⟩, sm, hm, q⟩ := h
  refine ⟨_, (pss_cons (ps_expr (pe_own g_want hr (by rfl) (pa_cons (pe_and (pe_own g_is_integer hr (by rfl) (pa_cons (pv 1) pa_nil)) (pe_one (pe_cmpR op_notIn_seq (pv 1) (pe_ix ix_tup (pv 0) pe_int (fun _ _ => rfl)) (by rfl)))) (pa_cons pe_str pa_nil))))
      (pss_cons (ps_setLc (i := 2) (own := [("own", 3)]) (g := (gName 3)) (tt := _) rfl sc_with_mark.nd rfl rfl (sw_true rfl rfl rfl (by decide +kernel)) (pi_tup (pe_ix ix_tup (pv 0) pe_int (fun _ _ => rfl))) (blkOk_by (N := N_with_mark) (sc := defScope s_with_mark) (by decide +kernel)) (fun _ _ _ _ _ => (pg_name (i := 3) sc_with_mark.nd rfl (Or.inl rfl))) (fun _ _ _ _ _ => (pts_one (pt_cmpR op_lt (pv 3) (pv 1) (nomark _)))) (fun _ _ _ _ _ => (pv 3)))
      (pss_one (ps_ret (pe_tupS (K := K) rfl (pa_cons (pe_tupS (K := K) rfl (StX.pa_star (pv 2) (pa_cons (pv 1) (StX.pa_star (pe_slice sl_tupS (pe_ix ix_tup (pv 0) pe_int (fun _ _ => rfl)) (po_some (pe_callB call_len_seq (by rfl) T.len_ PySem.boot_len (pa_cons (pv 2) pa_nil))) po_none) pa_nil)))) (pa_cons (pe_ix ix_tup (pv 0) pe_int (fun _ _ => rfl)) pa_nil))))))), ?_⟩
  refine ⟨_, rfl, m, rfl, true, rfl, iteT ?_⟩
  refine ⟨_, rfl, _, rfl, a, _, 0, _, rfl, rfl, hS, rfl, b, _, rfl, .inr hM, rfl, flat_int _, _, by rw [inV_int, decide_eq_false hm] <;> rfl, ?_⟩
  refine ⟨_, rfl, a, _, 0, _, rfl, rfl, hS, rfl, b, rfl, ⟨_, hM⟩, fun D' hD => comp_ints hD hM (by have := sm.m; omega) (fun x => decide (x < m)) id ?_ fun H1 s1 hy => ?_⟩
  · intro n H1 C C' hn s1 hC hC'
    refine ⟨rfl, _, rfl, _, rfl, _, _, rfl, rfl, _, rfl, ?_⟩
    refine ite2 (fun hk => ⟨_, rfl, hC hk⟩) (fun hk => hC' (by simpa using hk))
  · have hy' : H1 D' = some (.lst ((low R.1 m).map V.int)) := by rw [hy, List.map_id] <;> rfl
    have hS1 := sqT_tk (tk_same s1) hS
    have hM1 := sqT_tk (tk_same s1) hM
    have hle : (low R.1 m).length ≤ R.1.length := List.length_filter_le ..
    have := sm.m
    refine ⟨_, rfl, D', _, rfl, .inr (SqL.of hy'), _, rfl, _, rfl, a, _, 0, _, rfl, rfl, hS1, rfl, _, rfl, D', _, rfl, .inl (SqL.of hy'), _, rfl, b, _, rfl, hM1, fun p1 H2 s2 hp1 => ?_⟩
    rw [cut_from, List.length_map, ← List.map_drop] at hp1
    refine ⟨p1, _, rfl, .inl hp1, sz (by simp; omega), fun p2 H3 s3 hp2 => ?_⟩
    have s13 := s1.trans (s2.trans s3)
    refine ⟨_, rfl, a, _, 1, _, rfl, rfl, sqT_tk (tk_same s13) hS, rfl, sz (by simp), fun p3 H4 s4 hp3 => ?_⟩
    refine q _ _ (s13.trans s4) ⟨p3, _, _, rfl, hp3, ⟨p2, rfl, ?_⟩, hL.tk (tk_same (s13.trans s4))⟩
    have e : (putM R.1 m).map V.int = (low R.1 m).map V.int ++ V.int m :: ((R.1.drop (low R.1 m).length).map V.int ++ []) := by
      unfold putM
      rw [List.map_append, List.map_cons, List.append_nil]
    show SqT K H4 p2 ((putM R.1 m).map V.int)
    rw [e]
    exact sqT_tk (tk_same s4) hp2
theorem ok_without_mark (T : Txt K mg aM aC) (D : Df K mg "without_mark" s_without_mark) (g_want : Own P w K mg base 1 "want" ["is_right", "word"] sp_want) (g_is_integer : Own P w K mg base 1 "is_integer" ["thing"] sp_is_integer) :
    Own P w K mg base 2 "without_mark" ["rule", "mark"] (sp_without_mark K) := by
  refine own_mk D sc_without_mark (fun _ _ _ _ _ _ us hl => match us, hl with | [_, _], _ => rfl) (fun vs H Q ⟨_, _, _, e, _⟩ => by rw [e] <;> rfl) fun f cdv A outer s H vs Q hr h => ?_
  obtain ⟨v, R, m, rfl, ⟨a, x, y, rfl, hS, ⟨b, rfl, hM⟩, hL⟩, sm, hm, q⟩ := h
  refine ⟨_, (pss_cons (ps_expr (pe_own g_want hr (by rfl) (pa_cons (pe_and (pe_own g_is_integer hr (by rfl) (pa_cons (pv 1) pa_nil)) (pe_one (pe_cmpR op_in_seq (pv 1) (pe_ix ix_tup (pv 0) pe_int (fun _ _ => rfl)) (by rfl)))) (pa_cons pe_str pa_nil))))
      (pss_one (ps_ret (pe_tupS (K := K) rfl (pa_cons (pe_callTy call_tupL (by rfl) T.tuple_ (by decide +kernel) (pa_cons (pe_lc (own := [("own", 2)]) (g := (gName 2)) (tt := _) rfl sc_without_mark.nd (pi_tup (pe_ix ix_tup (pv 0) pe_int (fun _ _ => rfl))) (blkOk_by (N := N_without_mark) (sc := defScope s_without_mark) (by decide +kernel)) (fun _ _ _ _ _ => (pg_name (i := 2) sc_without_mark.nd rfl (Or.inl rfl))) (fun _ _ _ _ _ => (pts_one (pt_cmpR op_ne (pv 2) (pv 1) (nomark _)))) (fun _ _ _ _ _ => (pv 2))) pa_nil)) (pa_cons (pe_ix ix_tup (pv 0) pe_int (fun _ _ => rfl)) pa_nil)))))), ?_⟩
  refine ⟨_, rfl, m, rfl, true, rfl, iteT ?_⟩
  refine ⟨_, rfl, _, rfl, a, _, 0, _, rfl, rfl, hS, rfl, b, _, rfl, .inr hM, rfl, flat_int _, _, by rw [inV_int, decide_eq_true hm] <;> rfl, ?_⟩
  refine ⟨_, rfl, a, _, 0, _, rfl, rfl, hS, rfl, b, rfl, ⟨_, hM⟩, fun D' hD => comp_ints hD hM (by have := sm.m; omega) (fun x => decide (x ≠ m)) id ?_ fun H1 s1 hy => ?_⟩
  · intro n H1 C C' hn s1 hC hC'
    refine ⟨rfl, _, rfl, _, rfl, rfl, _, rfl, ?_⟩
    refine ite2 (fun hk => ⟨_, rfl, hC (by simpa using hk)⟩) (fun hk => hC' (by simpa using hk))
  · have hy' : H1 D' = some (.lst ((dropM R.1 m).map V.int)) := by rw [hy, List.map_id] <;> rfl
    refine ⟨D', _, rfl, SqL.of hy', fun p1 H2 s2 hp1 => ?_⟩
    have s12 := s1.trans s2
    refine ⟨_, rfl, a, _, 1, _, rfl, rfl, sqT_tk (tk_same s12) hS, rfl, sz (by simp), fun p3 H4 s4 hp3 => ?_⟩
    exact q _ _ (s12.trans s4) ⟨p3, _, _, rfl, hp3, ⟨p1, rfl, sqT_tk (tk_same s4) hp1⟩, hL.tk (tk_same (s12.trans s4))⟩
theorem ok_with_marks (T : Txt K mg aM aC) (D : Df K mg "with_marks" s_with_marks) (g_want : Own P w K mg base 1 "want" ["is_right", "word"] sp_want) (g_is_marks : Own P w K mg base 3 "is_marks" ["thing"] (sp_is_marks K)) :
    Own P w K mg base 4 "with_marks" ["rule", "marks"] (sp_with_marks K) := by
  refine own_mk D sc_with_marks (fun _ _ _ _ _ _ us hl => match us, hl with | [_, _], _ => rfl) (fun vs H Q ⟨_, _, _, _, e, _⟩ => by rw [e] <;> rfl) fun f cdv A outer s H vs Q hr h => ?_
  obtain ⟨v, u, R, ms, rfl, ⟨a, x, y, rfl, hS, _, hL⟩, hM, hR, q⟩ := h
  refine ⟨_, (pss_cons (ps_expr (pe_own g_want hr (by rfl) (pa_cons (pe_own g_is_marks hr (by rfl) (pa_cons (pv 1) pa_nil)) (pa_cons pe_str pa_nil))))
      (pss_one (ps_ret (pe_tupS (K := K) rfl (pa_cons (pv 1) (pa_cons (pe_ix ix_tup (pv 0) pe_int (fun _ _ => rfl)) pa_nil)))))), ?_⟩
  refine ⟨_, rfl, u, ms, rfl, hM, hR, fun H1 s1 => ⟨_, rfl, ?_⟩⟩
  refine ⟨_, rfl, _, rfl, a, _, 1, _, rfl, rfl, sqT_tk (tk_same s1) hS, rfl, sz (by simp), fun p3 H4 s4 hp3 => ?_⟩
  exact q _ _ (s1.trans s4) ⟨p3, _, _, rfl, hp3, hM.tk (tk_same (s1.trans s4)), hL.tk (tk_same (s1.trans s4))⟩
theorem ok_shifted (T : Txt K mg aM aC) (D : Df K mg "shifted" s_shifted) (g_want : Own P w K mg base 1 "want" ["is_right", "word"] sp_want) (g_is_integer : Own P w K mg base 1 "is_integer" ["thing"] sp_is_integer) :
    Own P w K mg base 2 "shifted" ["rule", "by"] (sp_shifted K) := by
  refine own_mk D sc_shifted (fun _ _ _ _ _ _ us hl => match us, hl with | [_, _], _ => rfl) (fun vs H Q ⟨_, _, _, e, _⟩ => by rw [e] <;> rfl) fun f cdv A outer s H vs Q hr h => ?_
  obtain ⟨v, R, m, rfl, ⟨a, x, y, rfl, hS, ⟨b, rfl, hM⟩, hL⟩, sm, q⟩ := h
  refine ⟨_, (pss_cons (ps_expr (pe_own g_want hr (by rfl) (pa_cons (pe_own g_is_integer hr (by rfl) (pa_cons (pv 1) pa_nil)) (pa_cons pe_str pa_nil))))
      (pss_one (ps_ret (pe_tupS (K := K) rfl (pa_cons (pe_callTy call_tupL (by rfl) T.tuple_ (by decide +kernel) (pa_cons (pe_lc (own := [("mark", 2)]) (g := (gName 2)) (tt := tYes) rfl sc_shifted.nd (pi_tup (pe_ix ix_tup (pv 0) pe_int (fun _ _ => rfl))) (blkOk_by (N := N_shifted) (sc := defScope s_shifted) (by decide +kernel)) (fun _ _ _ _ _ => (pg_name (i := 2) sc_shifted.nd rfl (Or.inl rfl))) (fun _ _ _ _ _ => pts_nil) (fun _ _ _ _ _ => (pe_op op_add (pv 2) (pv 1)))) pa_nil)) (pa_cons (pe_ix ix_tup (pv 0) pe_int (fun _ _ => rfl)) pa_nil)))))), ?_⟩
  refine ⟨_, rfl, m, rfl, _, rfl, ?_⟩
  refine ⟨_, rfl, a, _, 0, _, rfl, rfl, hS, rfl, b, rfl, ⟨_, hM⟩, fun D' hD => comp_ints hD hM (by have := sm.m; omega) (fun _ => true) (fun x => x + m) ?_ fun H1 s1 hy => ?_⟩
  · intro n H1 C C' hn s1 hC hC'
    exact ⟨rfl, _, rfl, _, rfl, _, _, rfl, rfl, hC rfl⟩
  · have hy' : H1 D' = some (.lst ((R.1.map (· + m)).map V.int)) := by rw [hy, List.filter_eq_self.mpr fun _ _ => rfl]
    refine ⟨D', _, rfl, SqL.of hy', fun p1 H2 s2 hp1 => ?_⟩
    have s12 := s1.trans s2
    refine ⟨_, rfl, a, _, 1, _, rfl, rfl, sqT_tk (tk_same s12) hS, rfl, sz (by simp), fun p3 H4 s4 hp3 => ?_⟩
    exact q _ _ (s12.trans s4) ⟨p3, _, _, rfl, hp3, ⟨p1, rfl, sqT_tk (tk_same s4) hp1⟩, hL.tk (tk_same (s12.trans s4))⟩
theorem ok_moved_up (T : Txt K mg aM aC) (D : Df K mg "moved_up" s_moved_up) : Own P w K mg base 1 "moved_up" ["phase", "spot"] (sp_moved_up K) := by
  refine own_mk D sc_moved_up (fun _ _ _ _ _ _ us hl => match us, hl with | [_, _], _ => rfl) (fun vs H Q ⟨_, _, _, e, _⟩ => by rw [e] <;> rfl) fun f cdv A outer s H vs Q hr h => ?_
  obtain ⟨v, ph, sp, rfl, ⟨a, xs, rfl, hS, hP⟩, hl, q⟩ := h
  refine ⟨_, (pss_one (ps_ret (pe_callTy call_tupL (by rfl) T.tuple_ (by decide +kernel) (pa_cons (pe_lc (own := [("move", 2), ("later", 3)]) (g := (gTup K 2 (gCons (gName 2) (gCons (gName 3) gNil)))) (tt := tYes) rfl sc_moved_up.nd (pi_tup (pv 0)) (blkOk_by (N := N_moved_up) (sc := defScope s_moved_up) (by decide +kernel)) (fun _ _ _ _ _ => (pg_tup rfl (pgs_cons (pg_name (i := 2) sc_moved_up.nd rfl (Or.inl rfl)) (pgs_cons (pg_name (i := 3) sc_moved_up.nd rfl (Or.inl rfl)) pgs_nil)))) (fun _ _ _ _ _ => pts_nil) (fun _ _ _ _ _ => (pe_tupS (K := K) rfl (pa_cons (pv 2) (pa_cons (pe_ifExp (pt_cmpR op_ge (pv 3) (pv 1) (nomark _)) (pe_op op_add (pv 3) pe_int) (pv 3)) pa_nil))))) pa_nil)))), ?_⟩
  refine ⟨_, rfl, a, rfl, ⟨_, hS⟩, fun D' hD => comp_pairs hD hS hP (by omega) (upN sp) ?_ fun H1 ys s1 hy hp => ?_⟩
  · intro p b H1 C C' hp s1 hb hC
    refine ⟨b, _, rfl, hb, rfl, _, _, rfl, _, _, rfl, rfl, rfl, ?_⟩
    refine ⟨_, rfl, _, rfl, _, rfl, _, _, rfl, rfl, _, rfl, ?_⟩
    unfold upN at hC
    by_cases hk : sp ≤ p.2
    · rw [decide_eq_true hk]
      rw [if_pos hk] at hC
      exact iteT ⟨_, rfl, _, _, rfl, rfl, sz (by simp), fun q H4 s4 hq => hC q H4 s4 hq⟩
    · rw [decide_eq_false hk]
      rw [if_neg hk] at hC
      exact iteF ⟨_, rfl, sz (by simp), fun q H4 s4 hq => hC q H4 s4 hq⟩
  · refine ⟨D', _, rfl, SqL.of hy, fun p1 H2 s2 hp1 => ?_⟩
    exact q _ _ (s1.trans s2) ⟨p1, ys, rfl, hp1, Paired.mapP hp fun _ _ z => z.tk (tk_same s2)⟩
theorem ok_later_without (T : Txt K mg aM aC) (D : Df K mg "later_without" s_later_without) : Own P w K mg base 1 "later_without" ["later", "index"] sp_later_without := by
  refine own_mk D sc_later_without (fun _ _ _ _ _ _ us hl => match us, hl with | [_, _], _ => rfl) (fun vs H Q ⟨_, _, e, _⟩ => by rw [e] <;> rfl) fun f cdv A outer s H vs Q hr h => ?_
  obtain ⟨n, i, rfl, q⟩ := h
  refine ⟨_, (pss_cons (ps_if (pt_cmpR op_eq (pv 0) (pv 1) (nomark _)) (pss_one (ps_ret pe_int)) pss_nil)
      (pss_one (ps_ret (pe_ifExp (pt_cmpR op_gt (pv 0) (pv 1) (nomark _)) (pe_op op_sub (pv 0) pe_int) (pv 0))))), ?_⟩
  unfold loN at q
  refine ⟨_, rfl, _, rfl, rfl, _, rfl, ?_⟩
  refine ite2 (fun hk => ?_) (fun hk => ?_)
  · have e : n = i := V.int.inj (of_decide_eq_true hk)
    rw [if_pos e] at q
    exact q
  · have e : ¬ n = i := fun z => hk (decide_eq_true (by rw [z]))
    rw [if_neg e] at q
    refine ⟨_, rfl, _, rfl, _, _, rfl, rfl, _, rfl, ?_⟩
    refine ite2 (fun hk => ?_) (fun hk => ?_)
    · rw [if_pos (of_decide_eq_true hk)] at q
      exact ⟨_, rfl, _, _, rfl, rfl, q⟩
    · rw [if_neg (fun z => hk (decide_eq_true z))] at q
      exact ⟨_, rfl, q⟩
end EC
namespace EC
open PySem PySem.Spec PyProof.Rows L2
/-! ### changed rules: phases, pairs -/
variable {P : Program} {w : World} {K : PySem.W.Frag} {mg : Str → Option Value} {base : Heap} {aM aC : Addr}
theorem dt {c : Prop} [Decidable c] (h : c) : V.bl (decide c) = V.bl true := by rw [decide_eq_true h]
theorem dl {c : Prop} [Decidable c] {z : Str} (h : c) : [V.bl (decide c), V.str z] = [V.bl true, V.str z] := by rw [decide_eq_true h]
theorem bl_true {n : Nat} {ys : List V} (h1 : ys.length = n) (h2 : ∀ (i : Nat) y, ys[i]? = some y → y = .bl true) : ys = (List.replicate n true).map V.bl := by
  apply List.ext_getElem?
  intro i
  rw [List.map_replicate, List.getElem?_replicate]
  by_cases hi : i < n
  · rw [if_pos hi]
    have e : ys[i]? = some ys[i] := by simp [h1, hi]
    rw [e, h2 i _ e]
  · rw [if_neg hi, List.getElem?_eq_none (by omega)]
theorem ok_with_phase (T : Txt K mg aM aC) (D : DfK K mg) (g_want : Own P w K mg base 1 "want" ["is_right", "word"] sp_want) (g_is_phase : Own P w K mg base 4 "is_phase" ["thing"] (sp_is_phase K)) (g_is_number : Own P w K mg base 2 "is_number" ["thing"] sp_is_number)
    (g_moved_up : Own P w K mg base 1 "moved_up" ["phase", "spot"] (sp_moved_up K)) : OwnK P w K mg base 5 (sp_with_phase K) := by
  refine ownK_mk D sc_with_phase (fun vs H Q ⟨_, _, _, _, _, _, e, _⟩ => by rw [e] <;> rfl) fun f cdv A outer s H vs Q hr h => ?_
  obtain ⟨v, u, at_, R, ph, sp, rfl, ⟨a, x, y, rfl, hS, hM, ⟨c, xs, rfl, hC, hP⟩⟩, sm, hPh, hl3, hmv, hle, hat, q⟩ := h
  refine ⟨_, (pss_cons (ps_asg (pv 0) (pg_tup rfl (pgs_cons (pg_name (i := 3) sc_with_phase.nd rfl (Or.inl rfl)) (pgs_cons (pg_name (i := 4) sc_with_phase.nd rfl (Or.inl rfl)) pgs_nil))))
      (pss_cons (ps_set (i := 5) sc_with_phase.nd rfl (Or.inr rfl) (pe_callB call_len_seq (by rfl) T.len_ PySem.boot_len (pa_cons (pv 4) pa_nil)))
      (pss_cons (ps_expr (pe_own g_want hr (by rfl) (pa_cons (pe_and (pe_own g_is_phase hr (by rfl) (pa_cons (pv 1) pa_nil)) (pe_one (pe_callB (cr_all rfl) (by rfl) T.all_ (by decide +kernel) (pa_cons (pe_lc (own := [("move", 9), ("later", 10)]) (g := (gTup K 2 (gCons (gName 9) (gCons (gName 10) gNil)))) (tt := tYes) rfl sc_with_phase.nd (pi_tup (pv 1)) (blkOk_by (N := N_with_phase) (sc := defScope s_with_phase) (by decide +kernel)) (fun _ _ _ _ _ => (pg_tup rfl (pgs_cons (pg_name (i := 9) sc_with_phase.nd rfl (Or.inl rfl)) (pgs_cons (pg_name (i := 10) sc_with_phase.nd rfl (Or.inl rfl)) pgs_nil)))) (fun _ _ _ _ _ => pts_nil) (fun _ _ _ _ _ => (pe_cmpR op_le (pv 10) (pv 5) (nomark _)))) pa_nil)))) (pa_cons pe_str pa_nil))))
      (pss_cons (ps_expr (pe_own g_want hr (by rfl) (pa_cons (pe_or (pe_cmpR op_isN (pv 2) pe_non (nomark _)) (pe_one (pe_and (pe_own g_is_number hr (by rfl) (pa_cons (pv 2) pa_nil)) (pe_one (pe_cmpR op_le (pv 2) (pv 5) (nomark _)))))) (pa_cons pe_str pa_nil))))
      (pss_cons (ps_set (i := 6) sc_with_phase.nd rfl (Or.inr rfl) (pe_ifExp (pt_cmpR op_isN (pv 2) pe_non (nomark _)) (pv 5) (pv 2)))
      (pss_cons (ps_setLc (i := 7) (own := [("own", 8)]) (g := (gName 8)) (tt := tYes) rfl sc_with_phase.nd rfl rfl (sw_true rfl rfl rfl (by decide +kernel)) (pi_tup (pv 4)) (blkOk_by (N := N_with_phase) (sc := defScope s_with_phase) (by decide +kernel)) (fun _ _ _ _ _ => (pg_name (i := 8) sc_with_phase.nd rfl (Or.inl rfl))) (fun _ _ _ _ _ => pts_nil) (fun _ _ _ _ _ => (pe_own g_moved_up hr (by rfl) (pa_cons (pv 8) (pa_cons (pv 6) pa_nil)))))
      (pss_one (ps_ret (pe_tupS (K := K) rfl (pa_cons (pv 3) (pa_cons (pe_tupS (K := K) rfl (StX.pa_star (pe_slice sl_listS (pv 7) po_none (po_some (pv 6))) (pa_cons (pv 1) (StX.pa_star (pe_slice sl_listS (pv 7) (po_some (pv 6)) po_none) pa_nil)))) pa_nil))))))))))), ?_⟩
  have hlen := hP.length
  have h500 := sm.p
  obtain ⟨pa, px, rfl, hpS, hpP⟩ := id hPh
  have hplen := hpP.length
  have hsp : sp ≤ R.2.length := by rcases hat with ⟨_, e⟩ | ⟨_, e⟩ <;> omega
  refine ⟨_, rfl, a, _, rfl, hS, rfl, _, _, rfl, _, _, rfl, rfl, ?_⟩
  refine ⟨_, rfl, c, _, rfl, .inr hC, ?_⟩
  refine ⟨_, rfl, _, ph, rfl, hPh, hl3, hmv, fun H1 s1 => ⟨true, rfl, iteT ?_⟩⟩
  refine ⟨_, rfl, pa, rfl, ⟨_, sqT_tk (tk_same s1) hpS⟩, fun D' hD => comp_each hD (sqT_tk (tk_same s1) hpS) (by omega) (fun _ _ y => y = .bl true) (fun _ _ _ _ _ e => e) ?_ fun H2 ys s2 hy hyl hyt => ?_⟩
  · intro i z H2 C C' e s2 hC'
    obtain ⟨p, e2, hpr⟩ := paired_at hpP e
    obtain ⟨b, rfl, hb⟩ := hpr.tk (tk_same (s1.trans s2))
    have hp := List.mem_of_getElem? e2
    refine ⟨b, _, rfl, hb, rfl, _, _, rfl, _, _, rfl, rfl, rfl, ?_⟩
    refine ⟨_, rfl, _, rfl, _, _, rfl, rfl, hC' _ _ (Same.refl _) ?_⟩
    have := hle p hp
    exact dt (c := p.2 ≤ ((xs.length : Nat) : Int)) (by omega)
  refine ⟨D', _, rfl, SqL.of (by rw [hy, bl_true hyl hyt]), ?_⟩
  rw [all_true]
  refine ⟨_, rfl, ?_⟩
  have s12 := s1.trans s2
  -- at is None or ..
  rcases hat with ⟨rfl, e⟩ | ⟨rfl, hs⟩
  case' inl =>
    refine ⟨_, rfl, rfl, true, rfl, iteT ⟨_, rfl, ?_⟩⟩
    refine ⟨_, rfl, rfl, true, rfl, iteT ⟨_, rfl, ?_⟩⟩
    have e2 : xs.length = sp := by omega
    rw [e2]
  case' inr =>
    refine ⟨_, rfl, rfl, false, rfl, iteF ?_⟩
    refine ⟨_, rfl, _, rfl, by omega, true, rfl, iteT ?_⟩
    refine ⟨_, rfl, _, rfl, _, _, rfl, rfl, _, dl (c := (sp : Int) ≤ ((xs.length : Nat) : Int)) (by omega), ?_⟩
    refine ⟨_, rfl, rfl, false, rfl, iteF ⟨_, rfl, ?_⟩⟩
  all_goals
    refine ⟨_, rfl, c, rfl, ⟨_, sqT_tk (tk_same s12) hC⟩, fun D2 hD2 => comp_each hD2 (sqT_tk (tk_same s12) hC) (by omega) (fun i H y => ∀ p, R.2[i]? = some p → Phs K H y (upP sp p)) (fun i H H' y k t p e => (t p e).tk k) ?_ fun H3 zs s3 hz hzl hzt => ?_⟩
    · intro i z H3 C C' e s3 hC'
      obtain ⟨p, e2, hpp⟩ := paired_at hP e
      refine ⟨rfl, _, rfl, _, rfl, z, p, sp, rfl, hpp.tk (tk_same (s12.trans s3)), sm.q p (List.mem_of_getElem? e2), fun v' H4 s4 hv => hC' _ _ s4 fun p' e' => ?_⟩
      rw [e2] at e'
      cases e'
      exact hv
    have hZ : Paired (Phs K H3) zs (R.2.map (upP sp)) := paired_of (by rw [List.length_map]; omega) fun i y p e1 e2 => by
      rw [List.getElem?_map] at e2
      cases e3 : R.2[i]? with
      | none => rw [e3] at e2; cases e2
      | some p0 =>
        rw [e3] at e2
        cases e2
        exact hzt i y e1 p0 e3
    refine ⟨_, rfl, _, rfl, _, rfl, _, rfl, D2, _, rfl, SqL.of hz, fun p1 H4 n4 s4 hp1 => ?_⟩
    rw [cut_to] at hp1
    refine ⟨p1, _, rfl, .inr (SqL.of hp1), _, rfl, _, rfl, _, rfl, _, rfl, D2, _, rfl, SqL.of (s4 _ _ hz), fun p2 H5 n5 s5 hp2 => ?_⟩
    rw [cut_from] at hp2
    refine ⟨p2, _, rfl, .inr (SqL.of hp2), sz (by simp; omega), fun p3 H6 s6 hp3 => ⟨sz (by simp), fun p4 H7 s7 hp4 => ?_⟩⟩
    have t37 : Tk H3 H7 := tk_same (s4.trans (s5.trans (s6.trans s7)))
    have s17 := s12.trans (s3.trans (s4.trans (s5.trans (s6.trans s7))))
    refine q _ _ s17 ⟨p4, _, _, rfl, hp4, hM.tk (tk_same s17), ⟨p3, _, rfl, sqT_tk (tk_same s7) hp3, ?_⟩⟩
    rw [List.append_nil]
    have hZ7 : Paired (Phs K H7) zs (R.2.map (upP sp)) := Paired.mapP hZ fun _ _ z => z.tk t37
    exact paired_app (paired_take hZ7 sp) (.cons (hPh.tk (tk_same s17)) (paired_drop hZ7 sp))
theorem erase_take {β : Type} (l : List β) {i j : Nat} {p : β} (h : l[i]? = some p) : (l.take (i + 1)).eraseIdx j = if i = j then (l.take i).eraseIdx j else (l.take i).eraseIdx j ++ [p] := by
  have hi : i < l.length := by
    rcases Nat.lt_or_ge i l.length with z | z
    · exact z
    · rw [List.getElem?_eq_none z] at h; cases h
  have e : l.take (i + 1) = l.take i ++ [p] := by
    rw [List.take_succ_eq_append_getElem hi]
    rw [List.getElem?_eq_getElem hi] at h
    rw [Option.some.inj h]
  have ln : (l.take i).length = i := by rw [List.length_take]; omega
  rw [e]
  by_cases hij : i = j
  · subst hij
    rw [if_pos rfl, List.eraseIdx_append_of_length_le (by omega), ln, Nat.sub_self, List.eraseIdx_of_length_le (l := l.take i) (by omega)]
    simp
  · rw [if_neg hij]
    rcases Nat.lt_or_ge j i with z | z
    · rw [List.eraseIdx_append_of_lt_length (by omega)]
    · rw [List.eraseIdx_of_length_le (l := l.take i) (by omega), List.eraseIdx_of_length_le (by rw [List.length_append, List.length_singleton]; omega)]
theorem ok_without_phase (T : Txt K mg aM aC) (D : Df K mg "without_phase" s_without_phase) (g_want : Own P w K mg base 1 "want" ["is_right", "word"] sp_want) (g_is_index : Own P w K mg base 3 "is_index" ["rule", "thing"] (sp_is_index K))
    (g_later_without : Own P w K mg base 1 "later_without" ["later", "index"] sp_later_without) : Own P w K mg base 4 "without_phase" ["rule", "index"] (sp_without_phase K) := by
  refine own_mk D sc_without_phase (fun _ _ _ _ _ _ us hl => match us, hl with | [_, _], _ => rfl) (fun vs H Q ⟨_, _, _, e, _⟩ => by rw [e] <;> rfl) fun f cdv A outer s H vs Q hr h => ?_
  obtain ⟨v, R, ix, rfl, hRul, sm, hix, h1, q⟩ := h
  obtain ⟨a, x, y, rfl, hS, hM, ⟨c, xs, rfl, hC, hP⟩⟩ := id hRul
  refine ⟨_, (pss_cons (ps_asg (pv 0) (pg_tup rfl (pgs_cons (pg_name (i := 2) sc_without_phase.nd rfl (Or.inl rfl)) (pgs_cons (pg_name (i := 3) sc_without_phase.nd rfl (Or.inl rfl)) pgs_nil))))
      (pss_cons (ps_expr (pe_own g_want hr (by rfl) (pa_cons (pe_and (pe_own g_is_index hr (by rfl) (pa_cons (pv 0) (pa_cons (pv 1) pa_nil))) (pe_one (pe_cmpR op_gt (pe_callB call_len_seq (by rfl) T.len_ PySem.boot_len (pa_cons (pv 3) pa_nil)) pe_int (nomark _)))) (pa_cons pe_str pa_nil))))
      (pss_cons (ps_set (i := 4) sc_without_phase.nd rfl (Or.inl rfl) (pe_lstS pa_nil))
      (pss_cons (ps_for PassesOwn.never rfl (pi_enumT (by rfl) T.enum_ (pa_cons (pv 3) pa_nil)) (pg_tup rfl (pgs_cons (pg_name (i := 5) sc_without_phase.nd rfl (Or.inl rfl)) (pgs_cons (pg_name (i := 6) sc_without_phase.nd rfl (Or.inl rfl)) pgs_nil)))
      (pss_one (ps_if (pt_cmpR op_ne (pv 5) (pv 1) (nomark _)) (pss_one (ps_expr (pe_bm PySem.F.plainAttrs_list PySem.F.slot_list_append PySem.F.type_list_append mt_append (pv 4) (pa_cons (pe_callTy call_tupL (by rfl) T.tuple_ (by decide +kernel) (pa_cons (pe_lc (own := [("move", 7), ("later", 8)]) (g := (gTup K 2 (gCons (gName 7) (gCons (gName 8) gNil)))) (tt := tYes) rfl sc_without_phase.nd (pi_tup (pv 6)) (blkOk_by (N := N_without_phase) (sc := defScope s_without_phase) (by decide +kernel)) (fun _ _ _ _ _ => (pg_tup rfl (pgs_cons (pg_name (i := 7) sc_without_phase.nd rfl (Or.inl rfl)) (pgs_cons (pg_name (i := 8) sc_without_phase.nd rfl (Or.inl rfl)) pgs_nil)))) (fun _ _ _ _ _ => pts_nil) (fun _ _ _ _ _ => (pe_tupS (K := K) rfl (pa_cons (pv 7) (pa_cons (pe_own g_later_without hr (by rfl) (pa_cons (pv 8) (pa_cons (pv 1) pa_nil))) pa_nil))))) pa_nil)) pa_nil)))) pss_nil)))
      (pss_one (ps_ret (pe_tupS (K := K) rfl (pa_cons (pv 2) (pa_cons (pe_callTy call_tupL (by rfl) T.tuple_ (by decide +kernel) (pa_cons (pv 4) pa_nil)) pa_nil))))))))), ?_⟩
  have hlen := hP.length
  have h500 := sm.p
  refine ⟨_, rfl, a, _, rfl, hS, rfl, _, _, rfl, _, _, rfl, rfl, ?_⟩
  refine ⟨_, rfl, _, rfl, _, R, ix, rfl, hRul, by omega, by omega, true, rfl, iteT ?_⟩
  refine ⟨_, rfl, c, _, rfl, .inr hC, _, _, rfl, rfl, _, dl (c := (1 : Int) < ((xs.length : Nat) : Int)) (by omega), ?_⟩
  refine ⟨sz (by simp), fun l H1 n1 s1 hl1 => ?_⟩
  refine ⟨_, rfl, c, _, rfl, sqT_tk (tk_same s1) hC, for_it walk_enumT (fun i σ H' => Same H H' ∧ ∃ ys u v, σ = [some (.ref a), some (.int ix), some x, some (.ref c), some (.ref l), u, v, none, none] ∧ H' l = some (.lst ys) ∧ Paired (Phs K H') ys (((R.2.take i).eraseIdx ix).map (loP ix)))
    ⟨s1, [], none, none, rfl, hl1, .nil⟩ (fun i σ H' _ p => sqT_tk (tk_same p.1) hC) ?_ ?_⟩
  · rintro i x' σ H2 H3 hi ⟨s2, ys, u, v, rfl, hl2, hp2⟩ ⟨T', w', y, rfl, hT, rfl, e1, e2⟩
    cases e1
    have s3 : Same H (upd H2 T' (.tup [.int (i : Nat), y])) := s2.trans (same_new hT)
    have nlT : l ≠ T' := ne_of_none hl2 hT
    have hl3 : (upd H2 T' (.tup [.int (i : Nat), y])) l = some (.lst ys) := by rw [upd_ne nlT]; exact hl2
    have tk3 : Tk H2 (upd H2 T' (.tup [.int (i : Nat), y])) := tk_upd (.inl hT)
    obtain ⟨p, e3, hpp⟩ := paired_at hP e2
    have hp := List.mem_of_getElem? e3
    have hyl := hp2.length
    have hyb : ys.length ≤ 500 := by
      rw [hyl, List.length_map]
      have := List.length_eraseIdx_le (R.2.take i) ix
      rw [List.length_take] at this
      omega
    refine ⟨T', _, rfl, SqT.of upd_same, rfl, _, _, rfl, _, _, rfl, rfl, ?_⟩
    refine ⟨_, rfl, _, rfl, rfl, _, rfl, ?_⟩
    have et := erase_take R.2 (j := ix) e3
    refine ite2 (fun hk => ?_) (fun hk => ?_)
    · have hne : ¬ i = ix := fun z => by
        subst z
        simp at hk
      rw [if_neg hne] at et
      generalize upd H2 T' (.tup [.int (i : Nat), y]) = H3 at s3 hl3 tk3 ⊢
      obtain ⟨b, bx, rfl, hb, hbP⟩ := hpp.tk (tk_same s3)
      refine ⟨_, rfl, .inl ⟨rfl, _, SqL.of hl3⟩, ?_⟩
      refine ⟨_, rfl, b, rfl, ⟨_, hb⟩, fun D' hD => comp_pairs hD hb hbP (by have := sm.q p hp; omega) (loN ix) ?_ fun H4 zs s4 hz hzP => ?_⟩
      · intro p' b' H4 C C' hp' s4 hb' hC'
        refine ⟨b', _, rfl, hb', rfl, _, _, rfl, _, _, rfl, rfl, rfl, ?_⟩
        exact ⟨_, rfl, _, rfl, _, rfl, _, _, rfl, sz (by simp), fun q' H5 s5 hq => hC' q' H5 s5 hq⟩
      · refine ⟨D', _, rfl, SqL.of hz, fun p1 H5 s5 hp1 => ?_⟩
        have s35 := s4.trans s5
        have hl5 := s35 _ _ hl3
        refine ⟨l, ys, _, rfl, rfl, hl5, szl (by omega), ?_⟩
        have tku : Tk H5 (upd H5 l (.lst (ys ++ [.ref p1]))) := tk_upd (.inr ⟨_, hl5⟩)
        refine ⟨same_upd (s3.trans s35) n1, _, _, _, rfl, upd_same, ?_⟩
        rw [et, List.map_append]
        refine paired_app (Paired.mapP hp2 fun _ _ z => z.tk (tk3.trans ((tk_same s35).trans tku))) (.cons ⟨p1, zs, rfl, sqT_tk tku hp1, Paired.mapP hzP fun _ _ z => z.tk ((tk_same s5).trans tku)⟩ .nil)
    · have he : i = ix := by
        by_cases z : i = ix
        · exact z
        · exact absurd (by simp; omega) hk
      rw [if_pos he] at et
      refine ⟨s3, ys, _, _, rfl, hl3, ?_⟩
      rw [et]
      exact Paired.mapP hp2 fun _ _ z => z.tk tk3
  · rintro σ H2 ⟨s2, ys, u, v, rfl, hl2, hp2⟩
    rw [hlen, List.take_length] at hp2
    have hyl := hp2.length
    refine ⟨_, rfl, _, rfl, l, _, rfl, SqL.of hl2, fun p1 H3 s3 hp1 => ⟨sz (by simp), fun p2 H4 s4 hp4 => ?_⟩⟩
    have s24 := s3.trans s4
    exact q _ _ (s2.trans s24) ⟨p2, _, _, rfl, hp4, hM.tk (tk_same (s2.trans s24)), ⟨p1, ys, rfl, sqT_tk (tk_same s4) hp1, Paired.mapP hp2 fun _ _ z => z.tk (tk_same s24)⟩⟩
theorem case_at {k : Nat} {c : Str} (h : cases3[k]? = some c) : k < 3 ∧ c ∈ cases3 ∧ ∀ m, m < k → cases3[m]? ≠ some c := by
  have hk : k < 3 := by
    rcases Nat.lt_or_ge k 3 with z | z
    · exact z
    · rw [List.getElem?_eq_none (by simpa [cases3] using z)] at h; cases h
  refine ⟨hk, List.mem_of_getElem? h, fun m hm e => ?_⟩
  have nd : cases3.Nodup := by decide +kernel
  obtain ⟨h1, e1⟩ := List.getElem?_eq_some_iff.mp h
  obtain ⟨h2, e2⟩ := List.getElem?_eq_some_iff.mp e
  have : m = k := (List.getElem_inj nd).mp (e2.trans e1.symm)
  omega
theorem ok_with_pair (T : Txt K mg aM aC) (D : Df K mg "with_pair" s_with_pair) (g_want : Own P w K mg base 1 "want" ["is_right", "word"] sp_want) (g_is_index : Own P w K mg base 3 "is_index" ["rule", "thing"] (sp_is_index K))
    (g_is_move : Own P w K mg base 1 "is_move" ["thing"] sp_is_move) : Own P w K mg base 4 "with_pair" ["rule", "phase", "case", "move", "later"] (sp_with_pair K) := by
  refine own_mk D sc_with_pair (fun _ _ _ _ _ _ us hl => match us, hl with | [_, _, _, _, _], _ => rfl) (fun vs H Q ⟨_, _, _, _, _, _, _, _, e, _⟩ => by rw [e] <;> rfl) fun f cdv A outer s H vs Q hr h => ?_
  obtain ⟨v, R, i, k, cs, mv, n, own, rfl, hRul, sm, hi, hl3, hk, hmv, h0, h1, q⟩ := h
  obtain ⟨a, x, y, rfl, hS, hM, ⟨c, xs, rfl, hC, hP⟩⟩ := id hRul
  refine ⟨_, (pss_cons (ps_expr (pe_own g_want hr (by rfl) (pa_cons (pe_own g_is_index hr (by rfl) (pa_cons (pv 0) (pa_cons (pv 1) pa_nil))) (pa_cons pe_str pa_nil))))
      (pss_cons (ps_expr (pe_own g_want hr (by rfl) (pa_cons (pe_and (pe_callB call_isi (by rfl) T.isin (by decide +kernel) (pa_cons (pv 2) (pa_cons (pe_bltn (v := .ty "str") (by rfl) T.str_ (by decide +kernel) rfl) pa_nil))) (pe_one (pe_cmpR op_in_seq (pv 2) (pe_glob (v := .ref aC) (by rfl) T.gC rfl) (by rfl)))) (pa_cons pe_str pa_nil))))
      (pss_cons (ps_expr (pe_own g_want hr (by rfl) (pa_cons (pe_own g_is_move hr (by rfl) (pa_cons (pv 3) pa_nil)) (pa_cons pe_str pa_nil))))
      (pss_cons (ps_expr (pe_own g_want hr (by rfl) (pa_cons (pe_own g_is_index hr (by rfl) (pa_cons (pv 0) (pa_cons (pv 4) pa_nil))) (pa_cons pe_str pa_nil))))
      (pss_cons (ps_asg (pv 0) (pg_tup rfl (pgs_cons (pg_name (i := 5) sc_with_pair.nd rfl (Or.inl rfl)) (pgs_cons (pg_name (i := 6) sc_with_pair.nd rfl (Or.inl rfl)) pgs_nil))))
      (pss_cons (ps_set (i := 7) sc_with_pair.nd rfl (Or.inl rfl) (pe_bm PySem.F.plainAttrs_tuple PySem.F.slot_tuple_index PySem.F.type_tuple_index mt_tup_index (pe_glob (v := .ref aC) (by rfl) T.gC rfl) (pa_cons (pv 2) pa_nil)))
      (pss_cons (ps_set (i := 8) sc_with_pair.nd rfl (Or.inl rfl) (pe_ix ix_tup (pv 6) (pv 1) (fun _ _ => rfl)))
      (pss_cons (ps_set (i := 9) sc_with_pair.nd rfl (Or.inl rfl) (pe_tupS (K := K) rfl (StX.pa_star (pe_slice sl_tupS (pv 8) po_none (po_some (pv 7))) (pa_cons (pe_tupS (K := K) rfl (pa_cons (pv 3) (pa_cons (pv 4) pa_nil))) (StX.pa_star (pe_slice sl_tupS (pv 8) (po_some (pe_op op_add (pv 7) pe_int)) po_none) pa_nil)))))
      (pss_one (ps_ret (pe_tupS (K := K) rfl (pa_cons (pv 5) (pa_cons (pe_tupS (K := K) rfl (StX.pa_star (pe_slice sl_tupS (pv 6) po_none (po_some (pv 1))) (pa_cons (pv 9) (StX.pa_star (pe_slice sl_tupS (pv 6) (po_some (pe_op op_add (pv 1) pe_int)) po_none) pa_nil)))) pa_nil))))))))))))), ?_⟩
  have hlen := hP.length
  have h500 := sm.p
  have hil : i < R.2.length := by
    rcases Nat.lt_or_ge i R.2.length with z | z
    · exact z
    · rw [List.getElem?_eq_none z] at hi; cases hi
  obtain ⟨hk3, hcm, hkn⟩ := case_at hk
  obtain ⟨ov, e1, o, os, rfl, hO, hOP⟩ := paired_ta hP hi
  have hol := hOP.length
  obtain ⟨oC, k1, k2, k3⟩ := T.kC
  refine ⟨_, rfl, _, rfl, _, R, i, rfl, hRul, by omega, by omega, _, rfl, ?_⟩
  refine ⟨_, rfl, _, _, _, _, true, rfl, .ty _, .base (.str cs), kit_ty (by decide +kernel), true, rfl, iteT ?_⟩
  refine ⟨_, rfl, aC, _, rfl, .inr (T.tC H), rfl, flat_str _, _, by rw [inV_str, decide_eq_true hcm] <;> rfl, ?_⟩
  refine ⟨_, rfl, mv, rfl, hmv, _, rfl, ?_⟩
  refine ⟨_, rfl, _, rfl, _, R, n, rfl, hRul, h0, h1, _, rfl, ?_⟩
  refine ⟨_, rfl, a, _, rfl, hS, rfl, _, _, rfl, _, _, rfl, rfl, ?_⟩
  refine ⟨.inr (.inl ⟨rfl, oC, k1, k2, k3⟩), _, rfl, aC, cases3, cs, k, rfl, rfl, T.tC H, hk, hkn, ?_⟩
  refine ⟨_, rfl, _, rfl, c, _, (i : Nat), _, rfl, rfl, hC, atI_nat e1, ?_⟩
  refine ⟨_, rfl, _, rfl, _, rfl, o, _, rfl, hO, fun p1 H1 s1 hp1 => ?_⟩
  rw [cut_to] at hp1
  refine ⟨p1, _, rfl, .inl hp1, _, rfl, _, rfl, sz (by simp), fun p2 H2 s2 hp2 => ?_⟩
  refine ⟨_, rfl, _, rfl, _, _, rfl, rfl, ((k + 1 : Nat) : Int), rfl, o, _, rfl, sqT_tk (tk_same (s1.trans s2)) hO, fun p3 H3 s3 hp3 => ?_⟩
  rw [cut_from] at hp3
  refine ⟨p3, _, rfl, .inl hp3, sz (by simp; omega), fun p4 H4 s4 hp4 => ?_⟩
  have s14 := s1.trans (s2.trans (s3.trans s4))
  have hC4 := sqT_tk (tk_same s14) hC
  refine ⟨_, rfl, _, rfl, _, rfl, _, rfl, c, _, rfl, hC4, fun p5 H5 s5 hp5 => ?_⟩
  rw [cut_to] at hp5
  refine ⟨p5, _, rfl, .inl hp5, _, rfl, _, rfl, _, rfl, _, _, rfl, rfl, ((i + 1 : Nat) : Int), rfl, c, _, rfl, sqT_tk (tk_same s5) hC4, fun p6 H6 s6 hp6 => ?_⟩
  rw [cut_from] at hp6
  refine ⟨p6, _, rfl, .inl hp6, sz (by simp; omega), fun p7 H7 s7 hp7 => ⟨sz (by simp), fun p8 H8 s8 hp8 => ?_⟩⟩
  have s58 := s5.trans (s6.trans (s7.trans s8))
  have s18 := s14.trans s58
  refine q _ _ s18 ⟨p8, _, _, rfl, hp8, hM.tk (tk_same s18), ⟨p7, _, rfl, sqT_tk (tk_same s8) hp7, ?_⟩⟩
  rw [← pair_own R (mv, n) hi (by omega), List.append_nil]
  have hP8 : Paired (Phs K H8) xs R.2 := Paired.mapP hP fun _ _ z => z.tk (tk_same s18)
  have hO8 : Paired (Pr K H8) os own := Paired.mapP hOP fun _ _ z => z.tk (tk_same s18)
  refine paired_app (paired_take hP8 i) (.cons ⟨p4, _, rfl, sqT_tk (tk_same s58) hp4, ?_⟩ (paired_drop hP8 (i + 1)))
  rw [List.append_nil]
  exact paired_app (paired_take hO8 k) (.cons ⟨p2, rfl, sqT_tk (tk_same (s3.trans (s4.trans s58))) hp2⟩ (paired_drop hO8 (k + 1)))
end EC
namespace EC
open PySem PySem.Spec PyProof.Rows L2
/-! ### the law's draws -/
variable {P : Program} {w : World} {K : PySem.W.Frag} {mg : Str → Option Value} {base : Heap} {aM aC : Addr}
def sp__law_feed (K : PySem.W.Frag) : Pm := fun vs H Q => ∃ (a : Addr) (ns : List Int), vs = [.ref a] ∧ SqL K H a (ns.map V.int) ∧ ∀ f c H', Same H H' → FeedAt H' f c 0 → Cells K H' c → Q (.ref f) H'
def sp__law_draw (K : PySem.W.Frag) : Pm := fun vs H Q => ∃ (f c : Addr) (n z : Int), vs = [.ref f, .int z] ∧ FeedAt H f c n ∧ Cells K H c ∧ n ≤ 1000000 ∧ 1 ≤ z ∧ z ≤ 1000000 ∧
  ∀ r H', 0 ≤ r → r < z → SB f H H' → FeedAt H' f c (n + 1) → Q (.int r) H'
def sp__law_pick (K : PySem.W.Frag) : Pm := fun vs H Q => ∃ (f c l : Addr) (n : Int) (xs : List V), vs = [.ref f, .ref l] ∧ FeedAt H f c n ∧ Cells K H c ∧ n ≤ 1000000 ∧ l ≠ f ∧ SqL K H l xs ∧ 1 ≤ xs.length ∧ xs.length ≤ 1000 ∧
  ∀ x H', x ∈ xs → SB f H H' → FeedAt H' f c (n + 1) → Q x H'
theorem ok__law_feed (T : Txt K mg aM aC) (D : Df K mg "_law_feed" s__law_feed) : Own P w K mg base 1 "_law_feed" ["_law_script"] (sp__law_feed K) := by
  refine own_mk D sc__law_feed (fun _ _ _ _ _ _ us hl => match us, hl with | [_], _ => rfl) (fun vs H Q ⟨_, _, e, _⟩ => by rw [e] <;> rfl) fun f cdv A outer s H vs Q hr h => ?_
  obtain ⟨a, ns, rfl, hS, q⟩ := h
  refine ⟨_, (pss_one (ps_ret (pe_lstS (pa_cons (pe_slice sl_listS (pv 0) po_none (po_some pe_int)) (pa_cons pe_int (pa_cons pe_int (pa_cons pe_int pa_nil))))))), ?_⟩
  refine ⟨_, rfl, ((63 : Nat) : Int), rfl, a, _, rfl, hS, fun p1 H1 n1 s1 hp1 => ?_⟩
  rw [cut_to, ← List.map_take] at hp1
  refine ⟨sz (by simp), fun p2 H2 n2 s2 hp2 => ?_⟩
  exact q p2 p1 H2 (s1.trans s2) ⟨0, 0, 0, hp2, Int.le_refl _, Int.le_refl _⟩ ⟨_, SqL.of (s2 _ _ hp1)⟩
theorem eqv_nil (ds : List PyData) : PyData.eqv (.list ds) (.list []) = decide (ds = []) := by
  show PyData.eqvAll ds [] = _
  cases ds with
  | nil => rfl
  | cons a r => rw [decide_eq_false (by simp)] <;> rfl
theorem canLay_ints (ms : List Int) : PyData.canLayAll0 (ms.map PyData.int) = true := by
  induction ms with
  | nil => rfl
  | cons m ms ih => simp [PyData.canLayAll0, PyData.canLay0, ih]
theorem depth_ints (ms : List Int) : PyData.depthAll (ms.map PyData.int) ≤ 1 := by
  induction ms with
  | nil => simp [PyData.depthAll]
  | cons m ms ih => simp [PyData.depthAll, PyData.depth]; omega
theorem shaped_ints (ms : List Int) : SeqAt.shaped (.list (ms.map PyData.int)) = true := by
  unfold SeqAt.shaped
  rw [Bool.and_eq_true]
  refine ⟨canLay_ints ms, decide_eq_true ?_⟩
  have := depth_ints ms
  simp only [PyData.depth]
  omega
theorem ok__law_draw (T : Txt K mg aM aC) (D : Df K mg "_law_draw" s__law_draw) : Own P w K mg base 1 "_law_draw" ["_law_feed_here", "_law_size"] (sp__law_draw K) := by
  refine own_mk D sc__law_draw (fun _ _ _ _ _ _ us hl => match us, hl with | [_, _], _ => rfl) (fun vs H Q ⟨_, _, _, _, e, _⟩ => by rw [e] <;> rfl) fun f0 cdv A outer s H vs Q hr h => ?_
  obtain ⟨f, c, n, z, rfl, hF, hC, hn, hz1, hz2, q⟩ := h
  refine ⟨_, (pss_cons (ps_asg (pe_op op_add (pe_ix ix_list (pv 0) pe_int (fun _ _ => rfl)) pe_int) (pg_sub (pv 0) pe_int set_list))
      (pss_cons (ps_if (pt_cmpR op_gt (pe_ix ix_list (pv 0) pe_int (fun _ _ => rfl)) pe_int (nomark _)) (pss_cons (ps_set (i := 2) sc__law_draw.nd rfl (Or.inl rfl) (pe_op op_modB (pe_callTy call_int1 (by rfl) T.int_ (by decide +kernel) (pa_cons (pe_ix ix_list (pv 0) pe_int (fun _ _ => rfl)) pa_nil)) (pv 1)))
      (pss_cons (ps_asg (pe_op op_fdivB (pe_ix ix_list (pv 0) pe_int (fun _ _ => rfl)) (pv 1)) (pg_sub (pv 0) pe_int set_list))
      (pss_one (ps_ret (pv 2))))) pss_nil)
      (pss_cons (ps_set (i := 3) sc__law_draw.nd rfl (Or.inl rfl) (pe_ix ix_list (pv 0) pe_int (fun _ _ => rfl)))
      (pss_cons (ps_asg (pe_op op_add (pv 3) pe_int) (pg_sub (pv 0) pe_int set_list))
      (pss_cons (ps_set (i := 4) sc__law_draw.nd rfl (Or.inl rfl) (pe_ifExp (pt_cmpR (op_neD hr.hu) (pe_ix ix_list (pv 0) pe_int (fun _ _ => rfl)) (pe_lstS pa_nil) (nomark _)) (pe_ix ix_list (pe_ix ix_list (pv 0) pe_int (fun _ _ => rfl)) (pe_op op_modB (pe_callTy call_int1 (by rfl) T.int_ (by decide +kernel) (pa_cons (pv 3) pa_nil)) (pe_callB call_len_seq (by rfl) T.len_ PySem.boot_len (pa_cons (pe_ix ix_list (pv 0) pe_int (fun _ _ => rfl)) pa_nil))) (fun _ _ => rfl)) pe_int))
      (pss_cons (ps_if (PW.pt (pw_and (pt_cmpR op_ge (pv 4) (pe_op op_pow pe_int pe_int) (nomark _)) (pw_and1 (pt_cmpR op_lt (pv 3) (pe_callB call_len_seq (by rfl) T.len_ PySem.boot_len (pa_cons (pe_ix ix_list (pv 0) pe_int (fun _ _ => rfl)) pa_nil)) (nomark _))))) (pss_cons (ps_asg (pe_op op_fdivB (pv 4) (pv 1)) (pg_sub (pv 0) pe_int set_list))
      (pss_one (ps_ret (pe_op op_modB (pe_callTy call_int1 (by rfl) T.int_ (by decide +kernel) (pa_cons (pv 4) pa_nil)) (pv 1))))) pss_nil)
      (pss_cons (ps_set (i := 5) sc__law_draw.nd rfl (Or.inl rfl) (pe_op op_modB (pe_callTy call_int1 (by rfl) T.int_ (by decide +kernel) (pa_cons (pe_op op_add (pe_op op_add (pe_op op_modB (pe_callTy call_int1 (by rfl) T.int_ (by decide +kernel) (pa_cons (pv 4) pa_nil)) pe_int) (pe_op op_mul pe_int (pe_ix ix_list (pv 0) pe_int (fun _ _ => rfl)))) pe_int) pa_nil)) pe_int))
      (pss_cons (ps_set (i := 5) sc__law_draw.nd rfl (Or.inl rfl) (pe_op op_modB (pe_callTy call_int1 (by rfl) T.int_ (by decide +kernel) (pa_cons (pe_op op_add (pe_op op_add (pe_op op_mul (pv 5) (pv 5)) (pe_op op_mul (pe_op op_mul pe_int (pe_ix ix_list (pv 0) pe_int (fun _ _ => rfl))) (pe_ix ix_list (pv 0) pe_int (fun _ _ => rfl)))) pe_int) pa_nil)) pe_int))
      (pss_one (ps_ret (pe_op op_modB (pe_callTy call_int1 (by rfl) T.int_ (by decide +kernel) (pa_cons (pe_op op_fdivB (pe_op op_modB (pe_callTy call_int1 (by rfl) T.int_ (by decide +kernel) (pa_cons (pe_op op_add (pe_op op_add (pe_op op_mul (pv 5) (pv 5)) (pe_op op_mul pe_int (pv 5))) pe_int) pa_nil)) pe_int) pe_int) pa_nil)) (pv 1)))))))))))), ?_⟩
  obtain ⟨i, l, d, e0, hd0, hd1⟩ := id hF
  have ncf : ∀ {H1 : Hp}, SB f H H1 → Cells K H1 c := fun sb => hC.sb hF sb
  refine ⟨_, rfl, f, _, 3, _, rfl, rfl, SqL.of e0, rfl, _, _, rfl, rfl, _, rfl, f, _, 3, 3, rfl, rfl, e0, rfl, ?_⟩
  -- the count is laid
  have sb1 : SB f H (upd H f (.lst [.ref c, .int i, .int l, .int (d + 1)])) := fun b o nb e => by rw [upd_ne nb]; exact e
  have e1 : (upd H f (.lst [.ref c, .int i, .int l, .int (d + 1)])) f = some (.lst [.ref c, .int i, .int l, .int (d + 1)]) := upd_same
  show tSeq _ _ _ _ (upd H f (.lst [.ref c, .int i, .int l, .int (d + 1)]))
  generalize upd H f (.lst [.ref c, .int i, .int l, .int (d + 1)]) = H1 at sb1 e1 ⊢
  refine ⟨_, rfl, f, _, 2, _, rfl, rfl, SqL.of e1, rfl, _, _, rfl, rfl, _, rfl, ?_⟩
  refine ite2 (fun hk => ?_) (fun hk => ?_)
  · -- the rest of a great cell
    refine ⟨_, rfl, f, _, 2, _, rfl, rfl, SqL.of e1, rfl, .inl ⟨_, rfl, _, rfl, _, _, rfl, rfl, by omega, fun r r0 r1 => ?_⟩⟩
    refine ⟨_, rfl, f, _, 2, _, rfl, rfl, SqL.of e1, rfl, _, rfl, _, _, rfl, rfl, ⟨by omega, by omega⟩, fun t => ⟨_, rfl, f, _, 2, 2, rfl, rfl, e1, rfl, ?_⟩⟩
    exact ⟨_, rfl, q _ _ r0 r1 (sb1.trans fun b o nb e => by rw [upd_ne nb]; exact e) ⟨_, _, _, upd_same, by omega, by omega⟩⟩
  · refine ⟨_, rfl, f, _, 1, _, rfl, rfl, SqL.of e1, rfl, ?_⟩
    refine ⟨_, rfl, _, _, rfl, rfl, _, rfl, f, _, 1, 1, rfl, rfl, e1, rfl, ?_⟩
    have sb2 : SB f H (upd H1 f (.lst [.ref c, .int (i + 1), .int l, .int (d + 1)])) := sb1.trans fun b o nb e => by rw [upd_ne nb]; exact e
    have e2 : (upd H1 f (.lst [.ref c, .int (i + 1), .int l, .int (d + 1)])) f = some (.lst [.ref c, .int (i + 1), .int l, .int (d + 1)]) := upd_same
    show tSeq _ _ _ _ (upd H1 f (.lst [.ref c, .int (i + 1), .int l, .int (d + 1)]))
    generalize upd H1 f (.lst [.ref c, .int (i + 1), .int l, .int (d + 1)]) = H2 at sb2 e2 ⊢
    obtain ⟨cells, hcells⟩ := ncf sb2
    refine ⟨_, rfl, f, _, 0, _, rfl, rfl, SqL.of e2, rfl, sz (by simp), fun p1 H3 n3 s3 hp1 => ?_⟩
    have sb3 := sb2.trans (sb_same (f := f) s3)
    have e3 := s3 _ _ e2
    have hcells3 : SqL K H3 c (cells.map V.int) := Same.seq s3 hcells
    refine ⟨.list (cells.map .int), .list [], .lst hcells3 (ints_dp cells), .lst (SqL.of hp1) .nil, shaped_ints cells, by decide +kernel, _, rfl, ?_⟩
    rw [eqv_nil]
    -- what follows, for any cell
    refine ite2 (fun hk2 => ?_) (fun hk2 => ?_)
    case' refine_1 =>
      have hne : cells ≠ [] := fun e => by subst e; simp at hk2
      have hpos : 0 < cells.length := List.length_pos_iff.mpr hne
      refine ⟨_, rfl, f, _, 0, _, rfl, rfl, SqL.of e3, rfl, _, rfl, .inl ⟨_, rfl, ?_⟩⟩
      refine ⟨_, rfl, f, _, 0, _, rfl, rfl, SqL.of e3, rfl, c, _, rfl, .inl hcells3, _, _, rfl, rfl, (by show (0 : Int) < (((cells.map V.int).length : Nat) : Int); rw [List.length_map]; omega), fun j j0 j1 => ?_⟩
      have j2 : j < ((cells.length : Nat) : Int) := by
        have j1 : j < (((cells.map V.int).length : Nat) : Int) := j1
        rw [List.length_map] at j1
        exact j1
      have hj : j.toNat < cells.length := by omega
      refine ⟨c, _, ((j.toNat : Nat) : Int), .int (cells[j.toNat]), rfl, by congr 1; omega, hcells3, atI_nat (by rw [List.getElem?_map, List.getElem?_eq_getElem hj] <;> rfl), ?_⟩
      generalize cells[j.toNat] = cell
    case' refine_2 =>
      obtain ⟨cell, hcell⟩ : ∃ cell : Int, cell = 252 := ⟨_, rfl⟩
    all_goals
      refine ⟨_, rfl, _, _, rfl, rfl, ⟨by decide, by decide, by decide⟩, _, _, rfl, rfl, _, rfl, ?_⟩
      refine ite2 (fun hk3 => ?_) (fun hk3 => iteF ?_)
      case' refine_1 =>
        refine ⟨_, rfl, _, rfl, f, _, 0, _, rfl, rfl, SqL.of e3, rfl, c, _, rfl, .inl hcells3, _, _, rfl, rfl, _, rfl, ?_⟩
        refine ite2 (fun hk4 => ?_) (fun hk4 => ?_)
        case refine_1 =>
          refine ⟨_, rfl, _, rfl, _, _, rfl, rfl, ⟨by omega, by omega⟩, fun t => ⟨_, rfl, f, _, 2, 2, rfl, rfl, e3, rfl, ?_⟩⟩
          refine ⟨_, rfl, .inl ⟨_, rfl, _, rfl, _, _, rfl, rfl, by omega, fun r r0 r1 => ?_⟩⟩
          exact q _ _ r0 r1 (sb3.trans fun b o nb e => by rw [upd_ne nb]; exact e) ⟨_, _, _, upd_same, by omega, by omega⟩
      all_goals
        refine ⟨_, rfl, .inl ⟨_, rfl, _, _, rfl, rfl, by decide, fun r1 a1 b1 => ?_⟩⟩
        refine ⟨_, rfl, f, _, 3, _, rfl, rfl, SqL.of e3, rfl, _, _, rfl, rfl, .inl ⟨by decide, by decide⟩, _, _, rfl, rfl, _, _, rfl, rfl, .inl ⟨_, rfl, _, _, rfl, rfl, by decide, fun m1 a2 b2 => ?_⟩⟩
        refine ⟨_, rfl, _, rfl, _, _, rfl, rfl, .inl ⟨by omega, by omega⟩, ?_⟩
        refine ⟨_, rfl, f, _, 3, _, rfl, rfl, SqL.of e3, rfl, _, _, rfl, rfl, .inl ⟨by decide, by decide⟩, _, rfl, f, _, 3, _, rfl, rfl, SqL.of e3, rfl, _, _, rfl, rfl, .inr ⟨by omega, by omega⟩, ?_⟩
        refine ⟨_, _, rfl, rfl, _, _, rfl, rfl, .inl ⟨_, rfl, _, _, rfl, rfl, by decide, fun m2 a3 b3 => ?_⟩⟩
        refine ⟨_, rfl, _, rfl, _, _, rfl, rfl, .inl ⟨by omega, by omega⟩, _, rfl, _, _, rfl, rfl, .inl ⟨by decide, by decide⟩, _, _, rfl, rfl, _, _, rfl, rfl, .inl ⟨_, rfl, _, _, rfl, rfl, by decide, fun m3 a4 b4 => ?_⟩⟩
        refine ⟨_, _, rfl, rfl, ⟨by decide, by decide⟩, fun m4 => .inl ⟨_, rfl, _, rfl, _, _, rfl, rfl, by omega, fun r r0 r1 => ?_⟩⟩
        exact q _ _ r0 r1 sb3 ⟨_, _, _, e3, by omega, by omega⟩
theorem ok__law_pick (T : Txt K mg aM aC) (D : Df K mg "_law_pick" s__law_pick) (g__law_draw : Own P w K mg base 1 "_law_draw" ["_law_feed_here", "_law_size"] (sp__law_draw K)) : Own P w K mg base 2 "_law_pick" ["_law_feed_here", "_law_some"] (sp__law_pick K) := by
  refine own_mk D sc__law_pick (fun _ _ _ _ _ _ us hl => match us, hl with | [_, _], _ => rfl) (fun vs H Q ⟨_, _, _, _, _, e, _⟩ => by rw [e] <;> rfl) fun f0 cdv A outer s H vs Q hr h => ?_
  obtain ⟨f, c, l, n, xs, rfl, hF, hC, hn, hlf, hL, h1, h2, q⟩ := h
  refine ⟨_, (pss_one (ps_ret (pe_ix ix_list (pv 1) (pe_own g__law_draw hr (by rfl) (pa_cons (pv 0) (pa_cons (pe_callB call_len_seq (by rfl) T.len_ PySem.boot_len (pa_cons (pv 1) pa_nil)) pa_nil))) (fun _ _ => rfl)))), ?_⟩
  refine ⟨_, rfl, _, rfl, _, rfl, l, _, rfl, .inl hL, f, c, n, _, rfl, hF, hC, hn, by omega, by omega, fun r H1 r0 r1 sb fd => ?_⟩
  have hj : r.toNat < xs.length := by omega
  refine ⟨l, xs, ((r.toNat : Nat) : Int), xs[r.toNat], rfl, by congr 1; omega, sqL_sb sb hlf hL, atI_nat (List.getElem?_eq_getElem hj), ?_⟩
  exact q _ _ (List.getElem_mem hj) sb fd
end EC
namespace EC
open PySem PySem.Spec PyProof.Rows L2
/-! ### the law's rules -/
variable {P : Program} {w : World} {K : PySem.W.Frag} {mg : Str → Option Value} {base : Heap} {aM aC : Addr}
/-- sizes: at most 6 + c marks, 4 + c phases -/
structure Sz (c : Nat) (R : Rl Str) : Prop where
  m : R.1.length ≤ 6 + c
  p : R.2.length ≤ 4 + c
  b : ∀ m ∈ R.1, m.natAbs ≤ (c + 1) * (2 * 10 ^ 58)
def phB (n : Nat) (ph : Ph Str) : Bool := decide (ph.length = 3) && ph.all fun p => decide (p.1 ∈ moves) && (decide (0 ≤ p.2) && decide (p.2 < n))
theorem phB_ok {n : Nat} {ph : Ph Str} (h : phB n ph = true) : PhOk moves n ph := by
  unfold phB at h
  rw [Bool.and_eq_true, List.all_eq_true] at h
  obtain ⟨h1, h2⟩ := h
  have h3 : ∀ p ∈ ph, p.1 ∈ moves ∧ 0 ≤ p.2 ∧ p.2 < n := fun p hp => by
    have q := h2 p hp
    rw [Bool.and_eq_true, Bool.and_eq_true] at q
    exact ⟨of_decide_eq_true q.1, of_decide_eq_true q.2.1, of_decide_eq_true q.2.2⟩
  exact ⟨of_decide_eq_true h1, fun p hp => (h3 p hp).1, fun p hp => (h3 p hp).2.1, fun p hp => (h3 p hp).2.2⟩
def rlB (R : Rl Str) : Bool := decide (R.1.Pairwise (· < ·)) && (decide (0 < R.2.length) && R.2.all (phB R.2.length))
theorem rlB_ok {R : Rl Str} (h : rlB R = true) : RlOk moves R := by
  unfold rlB at h
  rw [Bool.and_eq_true, Bool.and_eq_true, List.all_eq_true] at h
  exact ⟨show R.1.Pairwise (· < ·) from of_decide_eq_true h.1, of_decide_eq_true h.2.1, fun p hp => phB_ok (h.2.2 p hp)⟩
def szB (R : Rl Str) : Bool := decide (R.1.length ≤ 6) && (decide (R.2.length ≤ 4) && R.1.all fun m => decide (m.natAbs ≤ 2 * 10 ^ 58))
theorem szB_ok {R : Rl Str} (h : szB R = true) : Sz 0 R := by
  unfold szB at h
  rw [Bool.and_eq_true, Bool.and_eq_true, List.all_eq_true] at h
  exact ⟨of_decide_eq_true h.1, of_decide_eq_true h.2.1, fun m hm => by have := of_decide_eq_true (h.2.2 m hm); omega⟩
def sc0 : Rl Str := ([5], [[("take", 1), ("take", 0), ("out", 0)], [("out", 1), ("take", 0), ("out", 0)]])
def sc1 : Rl Str := ([5], [[("next", 0), ("take", 0), ("out", 0)]])
def sc2 : Rl Str := ([10], [[("take", 0), ("take", 1), ("out", 0)], [("out", 1), ("out", 1), ("out", 1)]])
def sc3 : Rl Str := ([], [[("take", 1), ("take", 1), ("take", 1)], [("next", 1), ("next", 1), ("next", 1)]])
def sc4 : Rl Str := ([0, 1, 2], [[("wait", 0), ("wait", 1), ("wait", 0)], [("take", 1), ("wait", 0), ("next", 0)]])
def sp__law_scene (K : PySem.W.Frag) : Pm := fun vs H Q => ∃ z : Int, vs = [.int z] ∧ ∀ v R H', Same H H' → Rul K H' v R → RlOk moves R → Sz 0 R → Q v H'
def sp__law_marks (K : PySem.W.Frag) : Pm := fun vs H Q => ∃ (f c : Addr) (n : Int), vs = [.ref f, .int 6] ∧ FeedAt H f c n ∧ Cells K H c ∧ n ≤ 900000 ∧
  ∀ v ms H', SB f H H' → FeedAt H' f c (n + 8) → Mks K H' v ms → Ris ms → ms.length ≤ 6 → (∀ m ∈ ms, m.natAbs ≤ 2 * 10 ^ 58) → Q v H'
def sp__law_phase (K : PySem.W.Frag) : Pm := fun vs H Q => ∃ (f c : Addr) (n : Int) (z : Nat), vs = [.ref f, .int z] ∧ FeedAt H f c n ∧ Cells K H c ∧ n ≤ 900000 ∧ 1 ≤ z ∧ z ≤ 1000 ∧
  ∀ v ph H', SB f H H' → FeedAt H' f c (n + 6) → Phs K H' v ph → PhOk moves z ph → Q v H'
def sp__law_rule (K : PySem.W.Frag) : Pm := fun vs H Q => ∃ (f c : Addr) (n : Int), vs = [.ref f] ∧ FeedAt H f c n ∧ Cells K H c ∧ n ≤ 800000 ∧
  ∀ v R H', SB f H H' → FeedAt H' f c (n + 50) → Rul K H' v R → RlOk moves R → Sz 0 R → Q v H'
theorem ok__law_scene (T : Txt K mg aM aC) (D : Df K mg "_law_scene" s__law_scene) : Own P w K mg base 1 "_law_scene" ["_law_which"] (sp__law_scene K) := by
  refine own_mk D sc__law_scene (fun _ _ _ _ _ _ us hl => match us, hl with | [_], _ => rfl) (fun vs H Q ⟨_, e, _⟩ => by rw [e] <;> rfl) fun f0 cdv A outer s H vs Q hr h => ?_
  obtain ⟨z, rfl, q⟩ := h
  refine ⟨_, (pss_cons (ps_asg (ed_tup (K := K) rfl (ad_cons (ed_tup (K := K) rfl (ad_cons ed_str (ad_cons ed_int ad_nil)) (by decide)) (ad_cons (ed_tup (K := K) rfl (ad_cons ed_str (ad_cons ed_int ad_nil)) (by decide)) (ad_cons (ed_tup (K := K) rfl (ad_cons ed_str (ad_cons ed_int ad_nil)) (by decide)) ad_nil))) (by decide)).pe (pg_tup rfl (pgs_cons (pg_name (i := 1) sc__law_scene.nd rfl (Or.inl rfl)) (pgs_cons (pg_name (i := 2) sc__law_scene.nd rfl (Or.inl rfl)) (pgs_cons (pg_name (i := 3) sc__law_scene.nd rfl (Or.inl rfl)) pgs_nil)))))
      (pss_cons (ps_if (pt_cmpR op_eq (pv 0) pe_int (nomark _)) (pss_one (ps_ret (ed_tup (K := K) rfl (ad_cons (ed_tup (K := K) rfl (ad_cons ed_int ad_nil) (by decide)) (ad_cons (ed_tup (K := K) rfl (ad_cons (ed_tup (K := K) rfl (ad_cons (ed_tup (K := K) rfl (ad_cons ed_str (ad_cons ed_int ad_nil)) (by decide)) (ad_cons (ed_name 1 (d := dPair ("take", 0)) (pv 1)) (ad_cons (ed_name 2 (d := dPair ("out", 0)) (pv 2)) ad_nil))) (by decide)) (ad_cons (ed_tup (K := K) rfl (ad_cons (ed_tup (K := K) rfl (ad_cons ed_str (ad_cons ed_int ad_nil)) (by decide)) (ad_cons (ed_name 1 (d := dPair ("take", 0)) (pv 1)) (ad_cons (ed_name 2 (d := dPair ("out", 0)) (pv 2)) ad_nil))) (by decide)) ad_nil)) (by decide)) ad_nil)) (by decide)).pe)) pss_nil)
      (pss_cons (ps_if (pt_cmpR op_eq (pv 0) pe_int (nomark _)) (pss_one (ps_ret (ed_tup (K := K) rfl (ad_cons (ed_tup (K := K) rfl (ad_cons ed_int ad_nil) (by decide)) (ad_cons (ed_tup (K := K) rfl (ad_cons (ed_tup (K := K) rfl (ad_cons (ed_tup (K := K) rfl (ad_cons ed_str (ad_cons ed_int ad_nil)) (by decide)) (ad_cons (ed_name 1 (d := dPair ("take", 0)) (pv 1)) (ad_cons (ed_name 2 (d := dPair ("out", 0)) (pv 2)) ad_nil))) (by decide)) ad_nil) (by decide)) ad_nil)) (by decide)).pe)) pss_nil)
      (pss_cons (ps_if (pt_cmpR op_eq (pv 0) pe_int (nomark _)) (pss_one (ps_ret (ed_tup (K := K) rfl (ad_cons (ed_tup (K := K) rfl (ad_cons ed_int ad_nil) (by decide)) (ad_cons (ed_tup (K := K) rfl (ad_cons (ed_tup (K := K) rfl (ad_cons (ed_name 1 (d := dPair ("take", 0)) (pv 1)) (ad_cons (ed_tup (K := K) rfl (ad_cons ed_str (ad_cons ed_int ad_nil)) (by decide)) (ad_cons (ed_name 2 (d := dPair ("out", 0)) (pv 2)) ad_nil))) (by decide)) (ad_cons (ed_tup (K := K) rfl (ad_cons (ed_tup (K := K) rfl (ad_cons ed_str (ad_cons ed_int ad_nil)) (by decide)) (ad_cons (ed_tup (K := K) rfl (ad_cons ed_str (ad_cons ed_int ad_nil)) (by decide)) (ad_cons (ed_tup (K := K) rfl (ad_cons ed_str (ad_cons ed_int ad_nil)) (by decide)) ad_nil))) (by decide)) ad_nil)) (by decide)) ad_nil)) (by decide)).pe)) pss_nil)
      (pss_cons (ps_if (pt_cmpR op_eq (pv 0) pe_int (nomark _)) (pss_one (ps_ret (ed_tup (K := K) rfl (ad_cons (ed_tup (K := K) rfl ad_nil (by decide)) (ad_cons (ed_tup (K := K) rfl (ad_cons (ed_tup (K := K) rfl (ad_cons (ed_tup (K := K) rfl (ad_cons ed_str (ad_cons ed_int ad_nil)) (by decide)) (ad_cons (ed_tup (K := K) rfl (ad_cons ed_str (ad_cons ed_int ad_nil)) (by decide)) (ad_cons (ed_tup (K := K) rfl (ad_cons ed_str (ad_cons ed_int ad_nil)) (by decide)) ad_nil))) (by decide)) (ad_cons (ed_tup (K := K) rfl (ad_cons (ed_tup (K := K) rfl (ad_cons ed_str (ad_cons ed_int ad_nil)) (by decide)) (ad_cons (ed_tup (K := K) rfl (ad_cons ed_str (ad_cons ed_int ad_nil)) (by decide)) (ad_cons (ed_tup (K := K) rfl (ad_cons ed_str (ad_cons ed_int ad_nil)) (by decide)) ad_nil))) (by decide)) ad_nil)) (by decide)) ad_nil)) (by decide)).pe)) pss_nil)
      (pss_one (ps_ret (ed_tup (K := K) rfl (ad_cons (ed_tup (K := K) rfl (ad_cons ed_int (ad_cons ed_int (ad_cons ed_int ad_nil))) (by decide)) (ad_cons (ed_tup (K := K) rfl (ad_cons (ed_tup (K := K) rfl (ad_cons (ed_name 3 (d := dPair ("wait", 0)) (pv 3)) (ad_cons (ed_tup (K := K) rfl (ad_cons ed_str (ad_cons ed_int ad_nil)) (by decide)) (ad_cons (ed_name 3 (d := dPair ("wait", 0)) (pv 3)) ad_nil))) (by decide)) (ad_cons (ed_tup (K := K) rfl (ad_cons (ed_tup (K := K) rfl (ad_cons ed_str (ad_cons ed_int ad_nil)) (by decide)) (ad_cons (ed_tup (K := K) rfl (ad_cons ed_str (ad_cons ed_int ad_nil)) (by decide)) (ad_cons (ed_tup (K := K) rfl (ad_cons ed_str (ad_cons ed_int ad_nil)) (by decide)) ad_nil))) (by decide)) ad_nil)) (by decide)) ad_nil)) (by decide)).pe))))))), ?_⟩
  refine ⟨⟨⟨trivial, trivial, trivial⟩, ⟨trivial, trivial, trivial⟩, ⟨trivial, trivial, trivial⟩, trivial⟩, fun v H1 s1 hv => ?_⟩
  cases hv with
  | tup hs ha =>
    cases ha with
    | cons h1 ha =>
      cases ha with
      | cons h2 ha =>
        cases ha with
        | cons h3 ha =>
          cases ha
          refine ⟨_, _, rfl, hs, rfl, _, _, rfl, _, _, rfl, _, _, rfl, rfl, ?_⟩
          refine ⟨_, rfl, rfl, _, rfl, ite2 (fun _ => ?_) (fun _ => ⟨_, rfl, rfl, _, rfl, ite2 (fun _ => ?_) (fun _ => ⟨_, rfl, rfl, _, rfl, ite2 (fun _ => ?_) (fun _ => ⟨_, rfl, rfl, _, rfl, ite2 (fun _ => ?_) (fun _ => ?_)⟩)⟩)⟩)⟩
          · refine ⟨?_, fun v H2 s2 hv => q v sc0 H2 (s1.trans s2) (dp_rul.mpr hv) (rlB_ok (by decide +kernel)) (szB_ok (by decide +kernel))⟩
            repeat' first | exact trivial | exact ⟨_, rfl, h1⟩ | exact ⟨_, rfl, h2⟩ | exact ⟨_, rfl, h3⟩ | apply And.intro
          · refine ⟨?_, fun v H2 s2 hv => q v sc1 H2 (s1.trans s2) (dp_rul.mpr hv) (rlB_ok (by decide +kernel)) (szB_ok (by decide +kernel))⟩
            repeat' first | exact trivial | exact ⟨_, rfl, h1⟩ | exact ⟨_, rfl, h2⟩ | exact ⟨_, rfl, h3⟩ | apply And.intro
          · refine ⟨?_, fun v H2 s2 hv => q v sc2 H2 (s1.trans s2) (dp_rul.mpr hv) (rlB_ok (by decide +kernel)) (szB_ok (by decide +kernel))⟩
            repeat' first | exact trivial | exact ⟨_, rfl, h1⟩ | exact ⟨_, rfl, h2⟩ | exact ⟨_, rfl, h3⟩ | apply And.intro
          · refine ⟨?_, fun v H2 s2 hv => q v sc3 H2 (s1.trans s2) (dp_rul.mpr hv) (rlB_ok (by decide +kernel)) (szB_ok (by decide +kernel))⟩
            repeat' first | exact trivial | exact ⟨_, rfl, h1⟩ | exact ⟨_, rfl, h2⟩ | exact ⟨_, rfl, h3⟩ | apply And.intro
          · refine ⟨?_, fun v H2 s2 hv => q v sc4 H2 (s1.trans s2) (dp_rul.mpr hv) (rlB_ok (by decide +kernel)) (szB_ok (by decide +kernel))⟩
            repeat' first | exact trivial | exact ⟨_, rfl, h1⟩ | exact ⟨_, rfl, h2⟩ | exact ⟨_, rfl, h3⟩ | apply And.intro
def intB (lo hi : Int) : V → Bool
  | .int k => decide (lo ≤ k) && decide (k ≤ hi)
  | _ => false
theorem intB_ok {lo hi : Int} {v : V} (h : intB lo hi v = true) : ∃ k, v = .int k ∧ lo ≤ k ∧ k ≤ hi := by
  cases v with
  | int k =>
    have h : (decide (lo ≤ k) && decide (k ≤ hi)) = true := h
    rw [Bool.and_eq_true] at h
    exact ⟨k, rfl, of_decide_eq_true h.1, of_decide_eq_true h.2⟩
  | _ => cases h
theorem ok__law_marks (T : Txt K mg aM aC) (D : Df K mg "_law_marks" s__law_marks) (g__law_draw : Own P w K mg base 1 "_law_draw" ["_law_feed_here", "_law_size"] (sp__law_draw K)) (g__law_pick : Own P w K mg base 2 "_law_pick" ["_law_feed_here", "_law_some"] (sp__law_pick K)) :
    Own P w K mg base 3 "_law_marks" ["_law_feed_here", "_law_most"] (sp__law_marks K) := by
  refine own_mk D sc__law_marks (fun _ _ _ _ _ _ us hl => match us, hl with | [_, _], _ => rfl) (fun vs H Q ⟨_, _, _, e, _⟩ => by rw [e] <;> rfl) fun f0 cdv A outer s H vs Q hr h => ?_
  obtain ⟨f, c, n, rfl, hF, hC, hn, q⟩ := h
  refine ⟨_, (pss_cons (ps_par (i := 2) (j := 3) rfl sc__law_marks.nd rfl rfl (by decide) rfl rfl (pa_cons (pe_lstS pa_nil) (pa_cons (pe_own g__law_pick hr (by rfl) (pa_cons (pv 0) (pa_cons (pe_lstS (pa_cons pe_int (pa_cons pe_int (pa_cons (pe_un un_neg pe_int) (pa_cons pe_int (pa_cons (pe_un un_neg (pe_op op_pow pe_int pe_int)) (pa_cons (pe_op op_pow pe_int pe_int) pa_nil))))))) pa_nil))) pa_nil)) (by rfl))
      (pss_cons (ps_for PassesOwn.never rfl (pi_range1 (by rfl) T.range_ (pa_cons (pe_own g__law_draw hr (by rfl) (pa_cons (pv 0) (pa_cons (pe_op op_add (pv 1) pe_int) pa_nil))) pa_nil)) (pg_name (i := 4) sc__law_marks.nd rfl (Or.inl rfl))
      (pss_cons (ps_set (i := 3) sc__law_marks.nd rfl (Or.inl rfl) (pe_op op_add (pv 3) (pe_own g__law_pick hr (by rfl) (pa_cons (pv 0) (pa_cons (pe_lstS (pa_cons pe_int (pa_cons pe_int (pa_cons pe_int (pa_cons pe_int (pa_cons pe_int (pa_cons (pe_op op_pow pe_int pe_int) pa_nil))))))) pa_nil)))))
      (pss_one (ps_expr (pe_bm PySem.F.plainAttrs_list PySem.F.slot_list_append PySem.F.type_list_append mt_append (pv 2) (pa_cons (pv 3) pa_nil))))))
      (pss_one (ps_ret (pe_callTy call_tupL (by rfl) T.tuple_ (by decide +kernel) (pa_cons (pv 2) pa_nil)))))), ?_⟩
  have A0 := At.start hF hC
  refine ⟨sz (by simp), fun l H1 n1 s1 hl1 => ?_⟩
  have A1 := A0.same s1
  refine ⟨_, rfl, _, rfl, _, _, rfl, rfl, ⟨by decide, by decide, by decide⟩, _, rfl, _, _, rfl, rfl, ⟨by decide, by decide, by decide⟩, sz (by simp), fun l2 H2 n2 s2 hl2 => ?_⟩
  have A2 := A1.same s2
  refine ⟨f, c, l2, n, _, rfl, A2.fd, A2.cells, by omega, (A1.fd.ne n2).symm, SqL.of hl2, by simp, by simp, fun x H3 hx sb3 fd3 => ?_⟩
  have A3 := A2.call sb3 fd3
  obtain ⟨k0, rfl, k1, k2⟩ := intB_ok (lo := -1000000000000000000000000000000) (hi := 10000000000000000000000000000000000000000000000000000000000) (List.all_eq_true.mp (by decide +kernel) x hx)
  have hl3 : H3 l = some (.lst []) := sb3 _ _ (hF.ne n1).symm (s2 _ _ hl1)
  refine ⟨_, _, rfl, ?_⟩
  refine ⟨_, rfl, _, rfl, _, _, rfl, rfl, f, c, n + 1, 7, rfl, A3.fd, A3.cells, by omega, by omega, by omega, fun r H4 r0 r1 sb4 fd4 => ?_⟩
  have A4 := A3.call sb4 fd4
  have hl4 : H4 l = some (.lst []) := sb4 _ _ (hF.ne n1).symm hl3
  refine ⟨_, rfl, by omega, by omega, ?_⟩
  refine for_range (lo := 0) (n := r.toNat) (fun i σ H' => At K f c H H' (n + 2 + i) ∧ ∃ (ms : List Int) (last : Int) (u : Option V), σ = [some (.ref f), some (.int 6), some (.ref l), some (.int last), u] ∧ H' l = some (.lst (ms.map V.int)) ∧ Ris ms ∧
    ms.length = i ∧ (∀ m ∈ ms, m ≤ last ∧ -1000000000000000000000000000000 ≤ m) ∧ -1000000000000000000000000000000 ≤ last ∧ last ≤ 10000000000000000000000000000000000000000000000000000000000 + i * 100000000000000000000)
    ⟨A4.mono (by omega), [], k0, none, rfl, hl4, List.Pairwise.nil, rfl, by simp, k1, by omega⟩ ?_ ?_
  · rintro i σ H5 hi ⟨A5, ms, last, u, rfl, hl5, hR, hlen, hms, hlo, hhi⟩
    refine ⟨_, rfl, _, rfl, _, _, rfl, rfl, ⟨by decide, by decide, by decide⟩, sz (by simp), fun l6 H6 n6 s6 hl6 => ?_⟩
    have A6 := A5.same s6
    refine ⟨f, c, l6, n + 2 + i, _, rfl, A6.fd, A6.cells, by omega, (A5.fd.ne n6).symm, SqL.of hl6, by simp, by simp, fun x H7 hx sb7 fd7 => ?_⟩
    have A7 := A6.call sb7 fd7
    obtain ⟨k, rfl, j1, j2⟩ := intB_ok (lo := 1) (hi := 100000000000000000000) (List.all_eq_true.mp (by decide +kernel) x hx)
    have hl7 : H7 l = some (.lst (ms.map V.int)) := sb7 _ _ (hF.ne n1).symm (s6 _ _ hl5)
    refine ⟨_, _, rfl, rfl, ?_⟩
    refine ⟨_, rfl, .inl ⟨rfl, _, SqL.of hl7⟩, _, rfl, l, _, _, rfl, rfl, hl7, szl (by rw [List.length_map]; omega), ?_⟩
    refine ⟨(A7.upd n1).mono (by omega), ms ++ [last + k], last + k, _, rfl, by rw [upd_same, List.map_append] <;> rfl, ?_, by simp [hlen], fun m hm => ?_, by omega, by rw [Int.natCast_add]; omega⟩
    · refine List.pairwise_append.mpr ⟨hR, List.pairwise_singleton .., fun a ha b hb => ?_⟩
      have := hms a ha
      rw [List.mem_singleton.mp hb]
      omega
    · rcases List.mem_append.mp hm with z | z
      · have := hms m z
        omega
      · rw [List.mem_singleton.mp z]
        omega
  · rintro σ H5 ⟨A5, ms, last, u, rfl, hl5, hR, hlen, hms, hlo, hhi⟩
    refine ⟨_, rfl, l, _, rfl, SqL.of hl5, fun p H6 s6 hp => ?_⟩
    refine q _ ms H6 (A5.sb.trans (sb_same s6)) ((A5.fd.same s6).mono (by omega)) ⟨p, rfl, hp⟩ hR (by omega) fun m hm => ?_
    have := hms m hm
    have hr : (r.toNat : Int) ≤ 6 := by omega
    have e : 2 * (10 : Nat) ^ 58 = 20000000000000000000000000000000000000000000000000000000000 := by decide +kernel
    rw [e]
    omega
theorem ok__law_phase (T : Txt K mg aM aC) (D : Df K mg "_law_phase" s__law_phase) (g__law_draw : Own P w K mg base 1 "_law_draw" ["_law_feed_here", "_law_size"] (sp__law_draw K)) (g__law_pick : Own P w K mg base 2 "_law_pick" ["_law_feed_here", "_law_some"] (sp__law_pick K)) :
    Own P w K mg base 3 "_law_phase" ["_law_feed_here", "_law_many"] (sp__law_phase K) := by
  refine own_mk D sc__law_phase (fun _ _ _ _ _ _ us hl => match us, hl with | [_, _], _ => rfl) (fun vs H Q ⟨_, _, _, _, e, _⟩ => by rw [e] <;> rfl) fun f0 cdv A outer s H vs Q hr h => ?_
  obtain ⟨f, c, n, z, rfl, hF, hC, hn, hz1, hz2, q⟩ := h
  refine ⟨_, (pss_cons (ps_set (i := 2) sc__law_phase.nd rfl (Or.inr rfl) (pe_lstS (pa_cons pe_str (pa_cons pe_str (pa_cons pe_str (pa_cons pe_str (pa_cons pe_str pa_nil)))))))
      (pss_one (ps_ret (pe_callTy call_tupL (by rfl) T.tuple_ (by decide +kernel) (pa_cons (pe_lc (own := [("_law_case", 3)]) (g := (gName 3)) (tt := tYes) rfl sc__law_phase.nd (pi_range1 (by rfl) T.range_ (pa_cons pe_int pa_nil)) (blkOk_by (N := N__law_phase) (sc := defScope s__law_phase) (by decide +kernel)) (fun _ _ _ _ _ => (pg_name (i := 3) sc__law_phase.nd rfl (Or.inl rfl))) (fun _ _ _ _ _ => pts_nil) (fun _ _ _ _ _ => (pe_tupS (K := K) rfl (pa_cons (pe_own g__law_pick hr (by rfl) (pa_cons (pv 0) (pa_cons (pv 2) pa_nil))) (pa_cons (pe_own g__law_draw hr (by rfl) (pa_cons (pv 0) (pa_cons (pv 1) pa_nil))) pa_nil))))) pa_nil))))), ?_⟩
  have A0 := At.start hF hC
  refine ⟨sz (by simp), fun l H1 n1 s1 hl1 => ?_⟩
  have A1 := A0.same s1
  have nlf : l ≠ f := (hF.ne n1).symm
  have A1' := At.start A1.fd A1.cells
  refine ⟨3, rfl, by decide, by decide, fun D' hD => comp_sel walk_range hD (fun i H' => At K f c H1 H' (n + 2 * i)) (fun _ => true) (fun _ H' y => ∃ p : Str × Int, Pr K H' y p ∧ p.1 ∈ moves ∧ 0 ≤ p.2 ∧ p.2 < z) (by decide)
    (fun H' s => (A1'.same s).mono (by omega)) (fun _ _ _ _ => trivial) (fun _ _ _ _ hD a => a.upd hD) (fun _ H2 H3 y k ⟨p, h1, h2⟩ => ⟨p, h1.tk k, h2⟩) ?_ ?_⟩
  · rintro i x _ H2 C C' hi A2 ⟨rfl, rfl⟩ hC2 _
    have hi : i < 3 := hi
    have hl2 : H2 l = some _ := A2.sb _ _ nlf hl1
    refine ⟨rfl, _, rfl, _, rfl, f, c, l, n + 2 * i, _, rfl, A2.fd, A2.cells, by omega, nlf, SqL.of hl2, by simp, by simp, fun x H3 hx sb3 fd3 => ?_⟩
    have A3 := A2.call sb3 fd3
    refine ⟨_, rfl, _, rfl, f, c, _, z, rfl, A3.fd, A3.cells, by omega, by omega, by omega, fun r H4 r0 r1 sb4 fd4 => ?_⟩
    have A4 := A3.call sb4 fd4
    refine ⟨sz (by simp), fun p H5 s5 hp => ?_⟩
    have A5 := A4.same s5
    have sb25 := sb3.trans (sb4.trans (sb_same s5))
    obtain ⟨mv, rfl, hmv⟩ : ∃ mv : Str, x = .str mv ∧ mv ∈ moves := by
      simp only [List.mem_cons, List.not_mem_nil, or_false] at hx
      rcases hx with e | e | e | e | e <;> (subst e; exact ⟨_, rfl, by decide +kernel⟩)
    exact hC2 _ _ rfl (A5.mono (by rw [Int.natCast_add]; omega)) (sb25.tk A2.fd.lst) (nk_sb sb25 A1.fd.some) ⟨(mv, r), ⟨p, rfl, hp⟩, hmv, r0, r1⟩
  · intro H2 ys A2 hy hs
    obtain ⟨hl, ht⟩ := hs.all
    refine ⟨D', _, rfl, SqL.of hy, fun p H3 s3 hp => ?_⟩
    have ex : ∀ (ys : List V), (∀ y ∈ ys, ∃ p : Str × Int, Pr K H2 y p ∧ p.1 ∈ moves ∧ 0 ≤ p.2 ∧ p.2 < z) → ∃ ph : Ph Str, Paired (Pr K H2) ys ph ∧ ∀ p ∈ ph, p.1 ∈ moves ∧ 0 ≤ p.2 ∧ p.2 < z := by
      intro ys
      induction ys with
      | nil => exact fun _ => ⟨[], .nil, by simp⟩
      | cons y ys ih =>
        intro h
        obtain ⟨p, h1, h2⟩ := h y List.mem_cons_self
        obtain ⟨ph, h3, h4⟩ := ih fun u hu => h u (List.mem_cons_of_mem _ hu)
        exact ⟨p :: ph, .cons h1 h3, fun u hu => (List.mem_cons.mp hu).elim (fun e => e ▸ h2) (h4 u)⟩
    obtain ⟨ph, h1, h2⟩ := ex ys fun y hy => by
      obtain ⟨i, hi⟩ := List.mem_iff_getElem?.mp hy
      exact ht i y hi
    have hl : ys.length = 3 := hl
    refine q _ ph H3 ((A0.same s1).sb.trans (A2.sb.trans (sb_same s3))) ((A2.fd.same s3).mono (by omega)) ⟨p, ys, rfl, hp, Paired.mapP h1 fun _ _ z => z.tk (tk_same s3)⟩ ⟨by rw [← h1.length, hl], fun p hp => (h2 p hp).1, fun p hp => (h2 p hp).2.1, fun p hp => (h2 p hp).2.2⟩
theorem ok__law_rule (T : Txt K mg aM aC) (D : Df K mg "_law_rule" s__law_rule) (g__law_draw : Own P w K mg base 1 "_law_draw" ["_law_feed_here", "_law_size"] (sp__law_draw K)) (g__law_scene : Own P w K mg base 1 "_law_scene" ["_law_which"] (sp__law_scene K))
    (g__law_marks : Own P w K mg base 3 "_law_marks" ["_law_feed_here", "_law_most"] (sp__law_marks K)) (g__law_phase : Own P w K mg base 3 "_law_phase" ["_law_feed_here", "_law_many"] (sp__law_phase K)) : Own P w K mg base 4 "_law_rule" ["_law_feed_here"] (sp__law_rule K) := by
  refine own_mk D sc__law_rule (fun _ _ _ _ _ _ us hl => match us, hl with | [_], _ => rfl) (fun vs H Q ⟨_, _, _, e, _⟩ => by rw [e] <;> rfl) fun f0 cdv A outer s H vs Q hr h => ?_
  obtain ⟨f, c, n, rfl, hF, hC, hn, q⟩ := h
  refine ⟨_, (pss_cons (ps_set (i := 1) sc__law_rule.nd rfl (Or.inl rfl) (pe_own g__law_draw hr (by rfl) (pa_cons (pv 0) (pa_cons pe_int pa_nil))))
      (pss_cons (ps_if (pt_cmpR op_lt (pv 1) pe_int (nomark _)) (pss_one (ps_ret (pe_own g__law_scene hr (by rfl) (pa_cons (pv 1) pa_nil)))) pss_nil)
      (pss_cons (ps_asg (pe_tupS (K := K) rfl (pa_cons (pe_own g__law_marks hr (by rfl) (pa_cons (pv 0) (pa_cons pe_int pa_nil))) (pa_cons (pe_op op_add pe_int (pe_own g__law_draw hr (by rfl) (pa_cons (pv 0) (pa_cons pe_int pa_nil)))) pa_nil))) (pg_tup rfl (pgs_cons (pg_name (i := 2) sc__law_rule.nd rfl (Or.inl rfl)) (pgs_cons (pg_name (i := 3) sc__law_rule.nd rfl (Or.inr rfl)) pgs_nil))))
      (pss_one (ps_ret (pe_tupS (K := K) rfl (pa_cons (pv 2) (pa_cons (pe_callTy call_tupL (by rfl) T.tuple_ (by decide +kernel) (pa_cons (pe_lc (own := [("_law_lap", 4)]) (g := (gName 4)) (tt := tYes) rfl sc__law_rule.nd (pi_range1 (by rfl) T.range_ (pa_cons (pv 3) pa_nil)) (blkOk_by (N := N__law_rule) (sc := defScope s__law_rule) (by decide +kernel)) (fun _ _ _ _ _ => (pg_name (i := 4) sc__law_rule.nd rfl (Or.inl rfl))) (fun _ _ _ _ _ => pts_nil) (fun _ _ _ _ _ => (pe_own g__law_phase hr (by rfl) (pa_cons (pv 0) (pa_cons (pv 3) pa_nil))))) pa_nil)) pa_nil)))))))), ?_⟩
  have A0 := At.start hF hC
  refine ⟨_, rfl, f, c, n, 12, rfl, hF, hC, by omega, by omega, by omega, fun way H1 w0 w1 sb1 fd1 => ?_⟩
  have A1 := A0.call sb1 fd1
  refine ⟨_, rfl, _, _, rfl, rfl, _, rfl, ite2 (fun hk => ?_) (fun hk => ?_)⟩
  · refine ⟨_, rfl, way, rfl, fun v R H2 s2 hR ok hz => ?_⟩
    have A2 := A1.same s2
    exact q v R H2 A2.sb (A2.fd.mono (by omega)) hR ok hz
  · refine ⟨_, rfl, f, c, n + 1, rfl, A1.fd, A1.cells, by omega, fun v ms H2 sb2 fd2 hM hRis hml hmb => ?_⟩
    have A2 := A1.call sb2 fd2
    refine ⟨_, rfl, f, c, _, 4, rfl, A2.fd, A2.cells, by omega, by omega, by omega, fun r H3 r0 r1 sb3 fd3 => ?_⟩
    have A3 := A2.call sb3 fd3
    refine ⟨_, _, rfl, rfl, sz (by simp), fun p H4 s4 hp => ?_⟩
    have A4 := A3.same s4
    obtain ⟨z, hz⟩ : ∃ z : Nat, (z : Int) = 1 + r := ⟨(1 + r).toNat, by omega⟩
    refine ⟨p, _, rfl, hp, rfl, _, _, rfl, V.int z, [], by show [V.int (1 + r)] = [V.int z]; rw [hz], rfl, ?_⟩
    have A4' := At.start A4.fd A4.cells
    refine ⟨_, rfl, _, rfl, _, rfl, by omega, by omega, fun D' hD => comp_sel walk_range hD (fun i H' => At K f c H4 H' (n + 10 + 6 * i)) (fun _ => true) (fun _ H' y => ∃ ph : Ph Str, Phs K H' y ph ∧ PhOk moves z ph) (by omega)
      (fun H' s => (A4'.same s).mono (by omega)) (fun _ _ _ _ => trivial) (fun _ _ _ _ hD a => a.upd hD) (fun _ H2 H3 y k ⟨p, h1, h2⟩ => ⟨p, h1.tk k, h2⟩) ?_ ?_⟩
    · rintro i x _ H5 C C' hi A5 ⟨rfl, rfl⟩ hC5 _
      have hi : i < (z : Int).toNat := hi
      refine ⟨rfl, _, rfl, _, rfl, f, c, n + 10 + 6 * i, z, rfl, A5.fd, A5.cells, by omega, by omega, by omega, fun v ph H6 sb6 fd6 hph hok => ?_⟩
      have A6 := A5.call sb6 fd6
      exact hC5 _ _ rfl (A6.mono (by rw [Int.natCast_add]; omega)) (sb6.tk A5.fd.lst) (nk_sb sb6 A4.fd.some) ⟨ph, hph, hok⟩
    · intro H5 ys A5 hy hs
      obtain ⟨hl, ht⟩ := hs.all
      have hl : ys.length = z := by rw [hl]; omega
      refine ⟨D', _, rfl, SqL.of hy, fun p2 H6 s6 hp2 => ⟨sz (by simp), fun p3 H7 s7 hp3 => ?_⟩⟩
      have ex : ∀ (ys : List V), (∀ y ∈ ys, ∃ ph : Ph Str, Phs K H5 y ph ∧ PhOk moves z ph) → ∃ l : List (Ph Str), Paired (Phs K H5) ys l ∧ ∀ p ∈ l, PhOk moves z p := by
        intro ys
        induction ys with
        | nil => exact fun _ => ⟨[], .nil, by simp⟩
        | cons y ys ih =>
          intro h
          obtain ⟨p, h1, h2⟩ := h y List.mem_cons_self
          obtain ⟨ph, h3, h4⟩ := ih fun u hu => h u (List.mem_cons_of_mem _ hu)
          exact ⟨p :: ph, .cons h1 h3, fun u hu => (List.mem_cons.mp hu).elim (fun e => e ▸ h2) (h4 u)⟩
      obtain ⟨l, h1, h2⟩ := ex ys fun y hy => by
        obtain ⟨i, hi⟩ := List.mem_iff_getElem?.mp hy
        exact ht i y hi
      have ll : l.length = z := by rw [← h1.length, hl]
      have s67 := s6.trans s7
      have sb27 : SB f H2 H7 := sb3.trans ((sb_same s4).trans (A5.sb.trans (sb_same s67)))
      refine q _ (ms, l) H7 (A2.sb.trans sb27) ((A5.fd.same s67).mono (by omega)) ⟨p3, _, _, rfl, hp3, hM.tk (sb27.tk A2.fd.lst), ⟨p2, ys, rfl, sqT_tk (tk_same s7) hp2, Paired.mapP h1 fun _ _ z => z.tk (tk_same s67)⟩⟩
        ⟨hRis, by show 0 < l.length; omega, fun p hp => by show PhOk moves l.length p; rw [ll]; exact h2 p hp⟩ ⟨hml, by show l.length ≤ 4 + 0; omega, fun m hm => by have := hmb m hm; omega⟩
end EC
namespace EC
open PySem PySem.Spec PyProof.Rows L2
/-! ### a rule's repr -/
theorem tupleText_le (ts : List Str) : (tupleText ts).length ≤ piled ts + 3 := by
  unfold tupleText
  rw [strLen_append, strLen_append]
  have e1 : ((("(" : String) : Str)).length = 1 := rfl
  have e3 : (((if ts.length == 1 then ",)" else ")" : String) : Str)).length ≤ 2 := by split <;> decide
  rw [e1]
  by_cases h : ts = []
  · subst h
    have e2 : (Str.join ", " []).length = 0 := rfl
    rw [e2]
    omega
  · have := join_length_add ts h
    omega
theorem piled_le {b : Nat} : ∀ {ts : List Str}, (∀ t ∈ ts, t.length ≤ b) → piled ts ≤ ts.length * (b + 2)
  | [], _ => by simp [piled]
  | t :: ts, h => by
    have h1 := h t List.mem_cons_self
    have h2 := piled_le fun u hu => h u (List.mem_cons_of_mem _ hu)
    rw [piled_cons, List.length_cons, Nat.add_mul]
    omega
theorem shownAll_map (xs : List PyData) : PyData.shownAll xs = xs.map PyData.shown := by
  induction xs with
  | nil => rfl
  | cons x xs ih => simp [PyData.shownAll, ih]
theorem showableAll_of {xs : List PyData} (h : ∀ x ∈ xs, x.showable = true) : PyData.showableAll xs = true := by
  induction xs with
  | nil => rfl
  | cons x xs ih => simp [PyData.showableAll, h x List.mem_cons_self, ih fun u hu => h u (List.mem_cons_of_mem _ hu)]
theorem hasDictAll_of {xs : List PyData} (h : ∀ x ∈ xs, x.hasDict = false) : PyData.hasDictAll xs = false := by
  induction xs with
  | nil => rfl
  | cons x xs ih => simp [PyData.hasDictAll, h x List.mem_cons_self, ih fun u hu => h u (List.mem_cons_of_mem _ hu)]
theorem depthAll_of {n : Nat} {xs : List PyData} (h : ∀ x ∈ xs, x.depth ≤ n) : PyData.depthAll xs ≤ n := by
  induction xs with
  | nil => simp [PyData.depthAll]
  | cons x xs ih =>
    have h1 := h x List.mem_cons_self
    have h2 := ih fun u hu => h u (List.mem_cons_of_mem _ hu)
    simp only [PyData.depthAll]
    omega
/-- what repr asks of data -/
structure Shw (d : PyData) (n l : Nat) : Prop where
  sh : d.showable = true
  nd : d.hasDict = false
  dp : d.depth ≤ n
  ln : d.shown.length ≤ l
theorem shw_tuple {xs : List PyData} {n l m : Nat} (h : ∀ x ∈ xs, Shw x n l) (hm : xs.length ≤ m) : Shw (.tuple xs) (n + 1) (m * (l + 2) + 3) := by
  refine ⟨?_, ?_, ?_, ?_⟩
  · simp only [PyData.showable]
    exact showableAll_of fun x hx => (h x hx).sh
  · simp only [PyData.hasDict]
    exact hasDictAll_of fun x hx => (h x hx).nd
  · simp only [PyData.depth]
    have := depthAll_of (n := n) fun x hx => (h x hx).dp
    omega
  · simp only [PyData.shown]
    have h1 := tupleText_le (PyData.shownAll xs)
    have h2 := piled_le (b := l) (ts := PyData.shownAll xs) fun t ht => by
      rw [shownAll_map] at ht
      obtain ⟨x, hx, rfl⟩ := List.mem_map.mp ht
      exact (h x hx).ln
    rw [shownAll_map, List.length_map, ← shownAll_map] at h2
    have h3 : xs.length * (l + 2) ≤ m * (l + 2) := Nat.mul_le_mul_right _ hm
    omega
theorem Shw.mono {d : PyData} {n l n' l' : Nat} (h : Shw d n l) (hn : n ≤ n') (hl : l ≤ l') : Shw d n' l' := ⟨h.sh, h.nd, Nat.le_trans h.dp hn, Nat.le_trans h.ln hl⟩
theorem shw_int {i : Int} (h : i.natAbs < 2 ^ 300) : Shw (.int i) 0 301 := by
  have hl : i.natAbs.log2 < 300 := by
    by_cases h0 : i.natAbs = 0
    · rw [h0]; decide
    · exact (Nat.log2_lt h0).mpr h
  refine ⟨?_, rfl, by simp [PyData.depth], ?_⟩
  · simp only [PyData.showable]
    exact decide_eq_true (by omega)
  · simp only [PyData.shown]
    show (Str.ofString (toString i)).length ≤ 301
    rw [PySem.ofString_length]
    exact int_text_length_le (by decide) hl
theorem shw_move {z : Str} (h : z ∈ moves) : Shw (.str z) 0 301 := by
  refine ⟨rfl, rfl, by simp [PyData.depth], ?_⟩
  simp only [PyData.shown]
  have e : ∀ z ∈ moves, (reprText z).length ≤ 301 := by decide +kernel
  exact e z h
theorem shw_rul {R : Rl Str} {c : Nat} (ok : RlOk moves R) (hz : Sz c R) (hc : c ≤ 60) : Shw (dRul R) 100 sizeLine := by
  have hp := hz.p
  have hm := hz.m
  have e1 : Shw (.tuple (R.1.map PyData.int)) 3 100000 := by
    refine (shw_tuple (n := 0) (l := 301) (m := 66) (fun x hx => ?_) (by rw [List.length_map]; omega)).mono (by omega) (by omega)
    obtain ⟨i, hi, rfl⟩ := List.mem_map.mp hx
    refine shw_int (Nat.lt_of_le_of_lt (hz.b i hi) ?_)
    refine Nat.lt_of_le_of_lt (Nat.mul_le_mul_right _ (show c + 1 ≤ 61 by omega)) ?_
    decide +kernel
  have e2 : Shw (.tuple (R.2.map dPh)) 3 100000 := by
    refine (shw_tuple (n := 2) (l := 1000) (m := 64) (fun x hx => ?_) (by rw [List.length_map]; omega)).mono (by omega) (by omega)
    obtain ⟨ph, hph, rfl⟩ := List.mem_map.mp hx
    have okp := ok.ph ph hph
    unfold dPh
    refine (shw_tuple (n := 1) (l := 300) (m := 3) (fun y hy => ?_) (by rw [List.length_map, okp.len]; exact Nat.le_refl _)).mono (by omega) (by omega)
    obtain ⟨p, hpp, rfl⟩ := List.mem_map.mp hy
    have h1 := okp.lo p hpp
    have h2 := okp.hi p hpp
    unfold dPair
    have hl : p.2.natAbs < 2 ^ 60 := by omega
    refine ⟨?_, rfl, by simp [PyData.depth, PyData.depthAll], ?_⟩
    · simp only [PyData.showable, PyData.showableAll]
      have := (shw_int (i := p.2) (Nat.lt_of_lt_of_le hl (by decide +kernel))).sh
      simp only [PyData.showable] at this
      simp [this]
    · simp only [PyData.shown]
      have h3 := tupleText_le (PyData.shownAll [.str p.1, .int p.2])
      have h4 : piled (PyData.shownAll [.str p.1, .int p.2]) = ((reprText p.1).length + 2) + (((Str.ofString (toString p.2)).length + 2) + 0) := rfl
      have h5 : (Str.ofString (toString p.2)).length ≤ 61 := by
        rw [PySem.ofString_length]
        refine int_text_length_le (by decide) ?_
        by_cases h0 : p.2.natAbs = 0
        · rw [h0]; decide
        · exact (Nat.log2_lt h0).mpr hl
      have h6 : ∀ z ∈ moves, (reprText z).length ≤ 20 := by decide +kernel
      have h7 := h6 _ (okp.mv p hpp)
      omega
  unfold dRul
  refine (shw_tuple (n := 3) (l := 100000) (m := 2) (fun x hx => ?_) (by simp)).mono (by omega) (by rw [sizeLine_eq]; omega)
  rcases List.mem_cons.mp hx with rfl | hx
  · exact e1
  · rw [List.mem_singleton.mp hx]
    exact e2
/-- repr of a rule, as the walk asks it -/
theorem repr_rul {K : PySem.W.Frag} {H : Hp} {v : V} {R : Rl Str} {c : Nat} (h : Rul K H v R) (ok : RlOk moves R) (hz : Sz c R) (hc : c ≤ 60) :
    ∃ a, v = .ref a ∧ Dp K H (.ref a) (dRul R) ∧ (dRul R).showable = true ∧ (dRul R).hasDict = false ∧ (dRul R).depth ≤ 100 ∧ (dRul R).shown.length ≤ sizeLine := by
  have s := shw_rul ok hz hc
  have hd := dp_rul.mp h
  obtain ⟨a, x, y, rfl, _⟩ := h
  exact ⟨a, rfl, hd, s.sh, s.nd, s.dp, s.ln⟩
end EC
namespace EC
open PySem PySem.Spec PyProof.Rows L2
/-! ### the law's own changes -/
variable {P : Program} {w : World} {K : PySem.W.Frag} {mg : Str → Option Value} {base : Heap} {aM aC : Addr}
def sp__law_put (K : PySem.W.Frag) : Pm := fun vs H Q => ∃ (v : V) (ms : List Int) (m : Int), vs = [v, .int m] ∧ Mks K H v ms ∧ ms.length ≤ 500 ∧ Ris ms ∧ m ∉ ms ∧ ∀ v' H', Same H H' → Mks K H' v' (putM ms m) → Q v' H'
def sp__law_with_phase (K : PySem.W.Frag) : Pm := fun vs H Q => ∃ (v u : V) (R : Rl Str) (ph : Ph Str) (s : Nat), vs = [v, u, .int s] ∧ Rul K H v R ∧ Sm R ∧ Phs K H u ph ∧ ∀ v' H', Same H H' → Rul K H' v' (wPhase R ph s) → Q v' H'
def sp__law_turned_next : Pm := fun vs H Q => ∃ n i : Int, vs = [.int n, .int i] ∧ 0 ≤ i ∧ Q (.int (loN i n)) H
def sp__law_without_phase (K : PySem.W.Frag) : Pm := fun vs H Q => ∃ (v : V) (R : Rl Str) (i : Nat), vs = [v, .int i] ∧ Rul K H v R ∧ Sm R ∧ ∀ v' H', Same H H' → Rul K H' v' (woPhase R i) → Q v' H'
theorem ok__law_put (T : Txt K mg aM aC) (D : Df K mg "_law_put" s__law_put) : Own P w K mg base 1 "_law_put" ["_law_some", "_law_one"] (sp__law_put K) := by
  refine own_mk D sc__law_put (fun _ _ _ _ _ _ us hl => match us, hl with | [_, _], _ => rfl) (fun vs H Q ⟨_, _, _, e, _⟩ => by rw [e] <;> rfl) fun f cdv A outer s H vs Q hr h => ?_
  obtain ⟨v, ms, m, rfl, ⟨a, rfl, hM⟩, hl, hR, hm, q⟩ := h
  refine ⟨_, (pss_one (ps_ret (pe_callTy call_tupL (by rfl) T.tuple_ (by decide +kernel) (pa_cons (pe_op op_catS (pe_op op_catS (pe_lc (own := [("_law_x", 2)]) (g := (gName 2)) (tt := _) rfl sc__law_put.nd (pi_tup (pv 0)) (blkOk_by (N := N__law_put) (sc := defScope s__law_put) (by decide +kernel)) (fun _ _ _ _ _ => (pg_name (i := 2) sc__law_put.nd rfl (Or.inl rfl))) (fun _ _ _ _ _ => (pts_one (pt_cmpR op_lt (pv 2) (pv 1) (nomark _)))) (fun _ _ _ _ _ => (pv 2))) (pe_lstS (pa_cons (pv 1) pa_nil))) (pe_lc (own := [("_law_x", 2)]) (g := (gName 2)) (tt := _) rfl sc__law_put.nd (pi_tup (pv 0)) (blkOk_by (N := N__law_put) (sc := defScope s__law_put) (by decide +kernel)) (fun _ _ _ _ _ => (pg_name (i := 2) sc__law_put.nd rfl (Or.inl rfl))) (fun _ _ _ _ _ => (pts_one (pt_cmpR op_gt (pv 2) (pv 1) (nomark _)))) (fun _ _ _ _ _ => (pv 2)))) pa_nil)))), ?_⟩
  refine ⟨_, rfl, a, rfl, ⟨_, hM⟩, fun D1 hD1 => comp_ints hD1 hM (by omega) (fun x => decide (x < m)) id ?_ fun H1 s1 hy1 => ?_⟩
  · intro n H1 C C' hn s1 hC hC'
    refine ⟨rfl, _, rfl, _, rfl, _, _, rfl, rfl, _, rfl, ?_⟩
    exact ite2 (fun hk => ⟨_, rfl, hC hk⟩) (fun hk => hC' (by simpa using hk))
  have hM1 := sqT_tk (tk_same s1) hM
  have l1 : (ms.filter fun x => decide (x < m)).length ≤ ms.length := List.length_filter_le ..
  have l2 : (ms.filter fun x => decide (m < x)).length ≤ ms.length := List.length_filter_le ..
  refine ⟨_, rfl, sz (by simp), fun p2 H2 n2 s2 hy2 => ?_⟩
  refine ⟨D1, p2, _, _, rfl, rfl, s2 _ _ hy1, hy2, sz (by simp; omega), fun p3 H3 n3 s3 hy3 => ?_⟩
  have s23 := s2.trans s3
  have hM3 := sqT_tk (tk_same s23) hM1
  refine ⟨_, rfl, a, rfl, ⟨_, hM3⟩, fun D4 hD4 => comp_ints hD4 hM3 (by omega) (fun x => decide (m < x)) id ?_ fun H4 s4 hy4 => ?_⟩
  · intro n H1 C C' hn s1 hC hC'
    refine ⟨rfl, _, rfl, _, rfl, _, _, rfl, rfl, _, rfl, ?_⟩
    exact ite2 (fun hk => ⟨_, rfl, hC hk⟩) (fun hk => hC' (by simpa using hk))
  refine ⟨p3, D4, _, _, rfl, rfl, s4 _ _ hy3, hy4, sz (by simp; omega), fun p5 H5 n5 s5 hy5 => ?_⟩
  refine ⟨p5, _, rfl, SqL.of hy5, fun p6 H6 s6 hp6 => ?_⟩
  refine q _ _ (s1.trans (s23.trans (s4.trans (s5.trans s6)))) ⟨p6, rfl, ?_⟩
  rw [← putM_own hR hm, List.map_append, List.map_append]
  rw [List.map_id, List.map_id] at hp6
  exact hp6
theorem ok__law_turned_next (T : Txt K mg aM aC) (D : Df K mg "_law_turned_next" s__law_turned_next) : Own P w K mg base 1 "_law_turned_next" ["_law_later", "_law_gone"] sp__law_turned_next := by
  refine own_mk D sc__law_turned_next (fun _ _ _ _ _ _ us hl => match us, hl with | [_, _], _ => rfl) (fun vs H Q ⟨_, _, e, _⟩ => by rw [e] <;> rfl) fun f cdv A outer s H vs Q hr h => ?_
  obtain ⟨n, i, rfl, h0, q⟩ := h
  refine ⟨_, (pss_cons (ps_set (i := 0) sc__law_turned_next.nd rfl (Or.inl rfl) (pe_ifExp (pt_cmpR op_eq (pv 0) (pv 1) (nomark _)) pe_int (pv 0)))
      (pss_one (ps_ret (pe_ifExp (pt_cmpR op_gt (pv 0) (pv 1) (nomark _)) (pe_op op_sub (pv 0) pe_int) (pv 0))))), ?_⟩
  unfold loN at q
  refine ⟨_, rfl, _, rfl, rfl, _, rfl, ?_⟩
  refine ite2 (fun hk => ?_) (fun hk => ?_)
  · have e : n = i := V.int.inj (of_decide_eq_true hk)
    rw [if_pos e] at q
    refine ⟨_, rfl, _, rfl, _, _, rfl, rfl, _, rfl, ?_⟩
    rw [decide_eq_false (by omega)]
    exact iteF ⟨_, rfl, q⟩
  · have e : ¬ n = i := fun z => hk (decide_eq_true (by rw [z]))
    rw [if_neg e] at q
    refine ⟨_, rfl, _, rfl, _, rfl, _, _, rfl, rfl, _, rfl, ?_⟩
    refine ite2 (fun hk => ?_) (fun hk => ?_)
    · rw [if_pos (of_decide_eq_true hk)] at q
      exact ⟨_, rfl, _, _, rfl, rfl, q⟩
    · rw [if_neg (fun z => hk (decide_eq_true z))] at q
      exact ⟨_, rfl, q⟩
theorem ok__law_with_phase (T : Txt K mg aM aC) (D : Df K mg "_law_with_phase" s__law_with_phase) : Own P w K mg base 1 "_law_with_phase" ["_law_rule_here", "_law_phase_here", "_law_spot"] (sp__law_with_phase K) := by
  refine own_mk D sc__law_with_phase (fun _ _ _ _ _ _ us hl => match us, hl with | [_, _, _], _ => rfl) (fun vs H Q ⟨_, _, _, _, _, e, _⟩ => by rw [e] <;> rfl) fun f cdv A outer s H vs Q hr h => ?_
  obtain ⟨v, u, R, ph, sp, rfl, hRul, sm, hPh, q⟩ := h
  obtain ⟨a, x, y, rfl, hS, hM, ⟨c, xs, rfl, hC, hP⟩⟩ := id hRul
  refine ⟨_, (pss_cons (ps_set (i := 3) sc__law_with_phase.nd rfl (Or.inl rfl) (pe_lstS pa_nil))
      (pss_cons (ps_for PassesOwn.never rfl (pi_tup (pe_ix ix_tup (pv 0) pe_int (fun _ _ => rfl))) (pg_name (i := 4) sc__law_with_phase.nd rfl (Or.inl rfl))
      (pss_one (ps_expr (pe_bm PySem.F.plainAttrs_list PySem.F.slot_list_append PySem.F.type_list_append mt_append (pv 3) (pa_cons (pe_callTy call_tupL (by rfl) T.tuple_ (by decide +kernel) (pa_cons (pe_lc (own := [("_law_move", 5), ("_law_later", 6)]) (g := (gTup K 2 (gCons (gName 5) (gCons (gName 6) gNil)))) (tt := tYes) rfl sc__law_with_phase.nd (pi_tup (pv 4)) (blkOk_by (N := N__law_with_phase) (sc := defScope s__law_with_phase) (by decide +kernel)) (fun _ _ _ _ _ => (pg_tup rfl (pgs_cons (pg_name (i := 5) sc__law_with_phase.nd rfl (Or.inl rfl)) (pgs_cons (pg_name (i := 6) sc__law_with_phase.nd rfl (Or.inl rfl)) pgs_nil)))) (fun _ _ _ _ _ => pts_nil) (fun _ _ _ _ _ => (pe_tupS (K := K) rfl (pa_cons (pv 5) (pa_cons (pe_ifExp (pt_cmpR op_ge (pv 6) (pv 2) (nomark _)) (pe_op op_add (pv 6) pe_int) (pv 6)) pa_nil))))) pa_nil)) pa_nil)))))
      (pss_one (ps_ret (pe_tupS (K := K) rfl (pa_cons (pe_ix ix_tup (pv 0) pe_int (fun _ _ => rfl)) (pa_cons (pe_callTy call_tupL (by rfl) T.tuple_ (by decide +kernel) (pa_cons (pe_op op_catS (pe_op op_catS (pe_slice sl_listS (pv 3) po_none (po_some (pv 2))) (pe_lstS (pa_cons (pv 1) pa_nil))) (pe_slice sl_listS (pv 3) (po_some (pv 2)) po_none)) pa_nil)) pa_nil))))))), ?_⟩
  have hlen := hP.length
  have h500 := sm.p
  refine ⟨sz (by simp), fun l H1 n1 s1 hl1 => ?_⟩
  refine ⟨_, rfl, a, _, 1, _, rfl, rfl, sqT_tk (tk_same s1) hS, rfl, c, rfl, ⟨_, sqT_tk (tk_same s1) hC⟩, for_it walk_tup (fun i σ H' => Same H H' ∧ ∃ ys t, σ = [some (.ref a), some u, some (.int sp), some (.ref l), t, none, none] ∧ H' l = some (.lst ys) ∧ Paired (Phs K H') ys ((R.2.take i).map (upP sp)))
    ⟨s1, [], none, rfl, hl1, .nil⟩ (fun i σ H' _ p => sqT_tk (tk_same p.1) hC) ?_ ?_⟩
  · rintro i x' σ _ H3 hi ⟨s3, ys, t, rfl, hl3, hp3⟩ ⟨rfl, e2⟩
    obtain ⟨p, e3, hpp⟩ := paired_at hP e2
    have hp := List.mem_of_getElem? e3
    have hyl := hp3.length
    have hyb : ys.length ≤ 500 := by
      rw [hyl, List.length_map, List.length_take]
      omega
    obtain ⟨b, bx, rfl, hb, hbP⟩ := hpp.tk (tk_same s3)
    refine ⟨_, rfl, .inl ⟨rfl, _, SqL.of hl3⟩, ?_⟩
    refine ⟨_, rfl, b, rfl, ⟨_, hb⟩, fun D' hD => comp_pairs hD hb hbP (by have := sm.q p hp; omega) (upN sp) ?_ fun H4 zs s4 hz hzP => ?_⟩
    · intro p' b' H4 C C' hp' s4 hb' hC'
      refine ⟨b', _, rfl, hb', rfl, _, _, rfl, _, _, rfl, rfl, rfl, ?_⟩
      refine ⟨_, rfl, _, rfl, _, rfl, _, _, rfl, rfl, _, rfl, ?_⟩
      unfold upN at hC'
      by_cases hk : (sp : Int) ≤ p'.2
      · rw [decide_eq_true hk]
        rw [if_pos hk] at hC'
        exact iteT ⟨_, rfl, _, _, rfl, rfl, sz (by simp), fun q H4 s4 hq => hC' q H4 s4 hq⟩
      · rw [decide_eq_false hk]
        rw [if_neg hk] at hC'
        exact iteF ⟨_, rfl, sz (by simp), fun q H4 s4 hq => hC' q H4 s4 hq⟩
    · refine ⟨D', _, rfl, SqL.of hz, fun p1 H5 s5 hp1 => ?_⟩
      have s35 := s4.trans s5
      have hl5 := s35 _ _ hl3
      refine ⟨l, ys, _, rfl, rfl, hl5, szl (by omega), ?_⟩
      have tku : Tk H5 (upd H5 l (.lst (ys ++ [.ref p1]))) := tk_upd (.inr ⟨_, hl5⟩)
      refine ⟨same_upd (s3.trans s35) n1, _, _, rfl, upd_same, ?_⟩
      have et : R.2.take (i + 1) = R.2.take i ++ [p] := by
        have hi' : i < R.2.length := by omega
        rw [List.take_succ_eq_append_getElem hi']
        rw [List.getElem?_eq_getElem hi'] at e3
        rw [Option.some.inj e3]
      rw [et, List.map_append]
      exact paired_app (Paired.mapP hp3 fun _ _ z => z.tk ((tk_same s35).trans tku)) (.cons ⟨p1, zs, rfl, sqT_tk tku hp1, Paired.mapP hzP fun _ _ z => z.tk ((tk_same s5).trans tku)⟩ .nil)
  · rintro σ H3 ⟨s3, ys, t, rfl, hl3, hp3⟩
    rw [hlen, List.take_length] at hp3
    have hyl := hp3.length
    rw [List.length_map] at hyl
    refine ⟨_, rfl, a, _, 0, _, rfl, rfl, sqT_tk (tk_same s3) hS, rfl, ?_⟩
    refine ⟨_, rfl, _, rfl, _, rfl, l, _, rfl, SqL.of hl3, fun p4 H4 n4 s4 hp4 => ?_⟩
    rw [cut_to] at hp4
    refine ⟨_, rfl, sz (by simp), fun p5 H5 n5 s5 hp5 => ?_⟩
    refine ⟨p4, p5, _, _, rfl, rfl, s5 _ _ hp4, hp5, sz (by simp; omega), fun p6 H6 n6 s6 hp6 => ?_⟩
    have s36 := s4.trans (s5.trans s6)
    refine ⟨_, rfl, _, rfl, _, rfl, l, _, rfl, SqL.of (s36 _ _ hl3), fun p7 H7 n7 s7 hp7 => ?_⟩
    rw [cut_from] at hp7
    refine ⟨p6, p7, _, _, rfl, rfl, s7 _ _ hp6, hp7, sz (by simp; omega), fun p8 H8 n8 s8 hp8 => ?_⟩
    refine ⟨p8, _, rfl, SqL.of hp8, fun p9 H9 s9 hp9 => ⟨sz (by simp), fun pA HA sA hpA => ?_⟩⟩
    have s3A := s36.trans (s7.trans (s8.trans (s9.trans sA)))
    have sHA := s3.trans s3A
    refine q _ _ sHA ⟨pA, _, _, rfl, hpA, hM.tk (tk_same sHA), ⟨p9, _, rfl, sqT_tk (tk_same sA) hp9, ?_⟩⟩
    have hZ : Paired (Phs K HA) ys (R.2.map (upP sp)) := Paired.mapP hp3 fun _ _ z => z.tk (tk_same s3A)
    rw [List.append_assoc]
    exact paired_app (paired_take hZ sp) (.cons (hPh.tk (tk_same sHA)) (paired_drop hZ sp))
theorem ok__law_without_phase (T : Txt K mg aM aC) (D : Df K mg "_law_without_phase" s__law_without_phase) (g__law_turned_next : Own P w K mg base 1 "_law_turned_next" ["_law_later", "_law_gone"] sp__law_turned_next) :
    Own P w K mg base 2 "_law_without_phase" ["_law_rule_here", "_law_gone"] (sp__law_without_phase K) := by
  refine own_mk D sc__law_without_phase (fun _ _ _ _ _ _ us hl => match us, hl with | [_, _], _ => rfl) (fun vs H Q ⟨_, _, _, e, _⟩ => by rw [e] <;> rfl) fun f cdv A outer s H vs Q hr h => ?_
  obtain ⟨v, R, ix, rfl, hRul, sm, q⟩ := h
  obtain ⟨a, x, y, rfl, hS, hM, ⟨c, xs, rfl, hC, hP⟩⟩ := id hRul
  refine ⟨_, (pss_cons (ps_set (i := 2) sc__law_without_phase.nd rfl (Or.inl rfl) (pe_lstS pa_nil))
      (pss_cons (ps_for PassesOwn.never rfl (pi_enumT (by rfl) T.enum_ (pa_cons (pe_ix ix_tup (pv 0) pe_int (fun _ _ => rfl)) pa_nil)) (pg_tup rfl (pgs_cons (pg_name (i := 3) sc__law_without_phase.nd rfl (Or.inl rfl)) (pgs_cons (pg_name (i := 4) sc__law_without_phase.nd rfl (Or.inl rfl)) pgs_nil)))
      (pss_one (ps_if (pt_cmpR op_ne (pv 3) (pv 1) (nomark _)) (pss_one (ps_expr (pe_bm PySem.F.plainAttrs_list PySem.F.slot_list_append PySem.F.type_list_append mt_append (pv 2) (pa_cons (pe_callTy call_tupL (by rfl) T.tuple_ (by decide +kernel) (pa_cons (pe_lc (own := [("_law_move", 5), ("_law_later", 6)]) (g := (gTup K 2 (gCons (gName 5) (gCons (gName 6) gNil)))) (tt := tYes) rfl sc__law_without_phase.nd (pi_tup (pv 4)) (blkOk_by (N := N__law_without_phase) (sc := defScope s__law_without_phase) (by decide +kernel)) (fun _ _ _ _ _ => (pg_tup rfl (pgs_cons (pg_name (i := 5) sc__law_without_phase.nd rfl (Or.inl rfl)) (pgs_cons (pg_name (i := 6) sc__law_without_phase.nd rfl (Or.inl rfl)) pgs_nil)))) (fun _ _ _ _ _ => pts_nil) (fun _ _ _ _ _ => (pe_tupS (K := K) rfl (pa_cons (pv 5) (pa_cons (pe_own g__law_turned_next hr (by rfl) (pa_cons (pv 6) (pa_cons (pv 1) pa_nil))) pa_nil))))) pa_nil)) pa_nil)))) pss_nil)))
      (pss_one (ps_ret (pe_tupS (K := K) rfl (pa_cons (pe_ix ix_tup (pv 0) pe_int (fun _ _ => rfl)) (pa_cons (pe_callTy call_tupL (by rfl) T.tuple_ (by decide +kernel) (pa_cons (pv 2) pa_nil)) pa_nil))))))), ?_⟩
  have hlen := hP.length
  have h500 := sm.p
  refine ⟨sz (by simp), fun l H1 n1 s1 hl1 => ?_⟩
  refine ⟨_, rfl, a, _, 1, _, rfl, rfl, sqT_tk (tk_same s1) hS, rfl, c, _, rfl, sqT_tk (tk_same s1) hC, for_it walk_enumT (fun i σ H' => Same H H' ∧ ∃ ys u v, σ = [some (.ref a), some (.int ix), some (.ref l), u, v, none, none] ∧ H' l = some (.lst ys) ∧ Paired (Phs K H') ys (((R.2.take i).eraseIdx ix).map (loP ix)))
    ⟨s1, [], none, none, rfl, hl1, .nil⟩ (fun i σ H' _ p => sqT_tk (tk_same p.1) hC) ?_ ?_⟩
  · rintro i x' σ H2 H3 hi ⟨s2, ys, u, v, rfl, hl2, hp2⟩ ⟨T', w', y, rfl, hT, rfl, e1, e2⟩
    cases e1
    have s3 : Same H (upd H2 T' (.tup [.int (i : Nat), y])) := s2.trans (same_new hT)
    have nlT : l ≠ T' := ne_of_none hl2 hT
    have hl3 : (upd H2 T' (.tup [.int (i : Nat), y])) l = some (.lst ys) := by rw [upd_ne nlT]; exact hl2
    have tk3 : Tk H2 (upd H2 T' (.tup [.int (i : Nat), y])) := tk_upd (.inl hT)
    obtain ⟨p, e3, hpp⟩ := paired_at hP e2
    have hp := List.mem_of_getElem? e3
    have hyl := hp2.length
    have hyb : ys.length ≤ 500 := by
      rw [hyl, List.length_map]
      have := List.length_eraseIdx_le (R.2.take i) ix
      rw [List.length_take] at this
      omega
    refine ⟨T', _, rfl, SqT.of upd_same, rfl, _, _, rfl, _, _, rfl, rfl, ?_⟩
    refine ⟨_, rfl, _, rfl, rfl, _, rfl, ?_⟩
    have et := erase_take R.2 (j := ix) e3
    refine ite2 (fun hk => ?_) (fun hk => ?_)
    · have hne : ¬ i = ix := fun z => by
        subst z
        simp at hk
      rw [if_neg hne] at et
      generalize upd H2 T' (.tup [.int (i : Nat), y]) = H3 at s3 hl3 tk3 ⊢
      obtain ⟨b, bx, rfl, hb, hbP⟩ := hpp.tk (tk_same s3)
      refine ⟨_, rfl, .inl ⟨rfl, _, SqL.of hl3⟩, ?_⟩
      refine ⟨_, rfl, b, rfl, ⟨_, hb⟩, fun D' hD => comp_pairs hD hb hbP (by have := sm.q p hp; omega) (loN ix) ?_ fun H4 zs s4 hz hzP => ?_⟩
      · intro p' b' H4 C C' hp' s4 hb' hC'
        refine ⟨b', _, rfl, hb', rfl, _, _, rfl, _, _, rfl, rfl, rfl, ?_⟩
        exact ⟨_, rfl, _, rfl, _, rfl, _, _, rfl, by omega, sz (by simp), fun q' H5 s5 hq => hC' q' H5 s5 hq⟩
      · refine ⟨D', _, rfl, SqL.of hz, fun p1 H5 s5 hp1 => ?_⟩
        have s35 := s4.trans s5
        have hl5 := s35 _ _ hl3
        refine ⟨l, ys, _, rfl, rfl, hl5, szl (by omega), ?_⟩
        have tku : Tk H5 (upd H5 l (.lst (ys ++ [.ref p1]))) := tk_upd (.inr ⟨_, hl5⟩)
        refine ⟨same_upd (s3.trans s35) n1, _, _, _, rfl, upd_same, ?_⟩
        rw [et, List.map_append]
        refine paired_app (Paired.mapP hp2 fun _ _ z => z.tk (tk3.trans ((tk_same s35).trans tku))) (.cons ⟨p1, zs, rfl, sqT_tk tku hp1, Paired.mapP hzP fun _ _ z => z.tk ((tk_same s5).trans tku)⟩ .nil)
    · have he : i = ix := by
        by_cases z : i = ix
        · exact z
        · exact absurd (by simp; omega) hk
      rw [if_pos he] at et
      refine ⟨s3, ys, _, _, rfl, hl3, ?_⟩
      rw [et]
      exact Paired.mapP hp2 fun _ _ z => z.tk tk3
  · rintro σ H2 ⟨s2, ys, u, v, rfl, hl2, hp2⟩
    rw [hlen, List.take_length] at hp2
    refine ⟨_, rfl, a, _, 0, _, rfl, rfl, sqT_tk (tk_same s2) hS, rfl, _, rfl, l, _, rfl, SqL.of hl2, fun p1 H3 s3 hp1 => ⟨sz (by simp), fun p2 H4 s4 hp4 => ?_⟩⟩
    have s24 := s3.trans s4
    exact q _ _ (s2.trans s24) ⟨p2, _, _, rfl, hp4, hM.tk (tk_same (s2.trans s24)), ⟨p1, ys, rfl, sqT_tk (tk_same s4) hp1, Paired.mapP hp2 fun _ _ z => z.tk (tk_same s24)⟩⟩
end EC
namespace EC
open PySem PySem.Spec PyProof.Rows L2
/-! ### each change taken back -/
variable {P : Program} {w : World} {K : PySem.W.Frag} {mg : Str → Option Value} {base : Heap} {aM aC : Addr}
def sp__law_back_right (K : PySem.W.Frag) : Pm := fun vs H Q => ∃ (f c : Addr) (n : Int) (v : V) (R : Rl Str), vs = [.ref f, v] ∧ FeedAt H f c n ∧ Cells K H c ∧ n ≤ 700000 ∧ Rul K H v R ∧ RlOk moves R ∧ Sz 0 R ∧
  ∀ H', SB f H H' → FeedAt H' f c (n + 1000) → Q (.bl true) H'
theorem sm_of {R : Rl Str} {c : Nat} (ok : RlOk moves R) (hz : Sz c R) (hc : c ≤ 60) : Sm R := ⟨by have := hz.m; omega, by have := hz.p; omega, fun p hp => by have := (ok.ph p hp).len; omega⟩
/-- the list at l holds values that are all R -/
structure Told (K : PySem.W.Frag) (f c l : Addr) (H H' : Hp) (m : Int) (cnt : Nat) (R : Rl Str) : Prop where
  at_ : At K f c H H' m
  nl : H l = none
  ys : ∃ ys, H' l = some (.lst ys) ∧ ys.length ≤ cnt ∧ ∀ u ∈ ys, Rul K H' u R
section
variable {f c l : Addr} {H H' H2 : Hp} {m m' : Int} {cnt cnt' : Nat} {R : Rl Str}
theorem Told.lf (t : Told K f c l H H' m cnt R) : l ≠ f := by
  obtain ⟨xs, e⟩ := t.at_.f0
  exact (ne_of_none e t.nl).symm
theorem Told.same (t : Told K f c l H H' m cnt R) (s : Same H' H2) : Told K f c l H H2 m cnt R := by
  obtain ⟨ys, h1, h2, h3⟩ := t.ys
  exact ⟨t.at_.same s, t.nl, ys, s _ _ h1, h2, fun u hu => (h3 u hu).tk (tk_same s)⟩
theorem Told.call (t : Told K f c l H H' m cnt R) (s : SB f H' H2) (hf : FeedAt H2 f c m') : Told K f c l H H2 m' cnt R := by
  obtain ⟨ys, h1, h2, h3⟩ := t.ys
  exact ⟨t.at_.call s hf, t.nl, ys, s _ _ t.lf h1, h2, fun u hu => (h3 u hu).tk (s.tk t.at_.fd.lst)⟩
theorem Told.mono (t : Told K f c l H H' m cnt R) (hm : m ≤ m') (hc : cnt ≤ cnt') : Told K f c l H H' m' cnt' R := by
  obtain ⟨ys, h1, h2, h3⟩ := t.ys
  exact ⟨t.at_.mono hm, t.nl, ys, h1, by omega, h3⟩
theorem Told.push {ys : List V} {u : V} (t : Told K f c l H H' m cnt R) (e : H' l = some (.lst ys)) (hu : Rul K H' u R) : Told K f c l H (upd H' l (.lst (ys ++ [u]))) m (cnt + 1) R := by
  obtain ⟨zs, h1, h2, h3⟩ := t.ys
  rw [e] at h1
  obtain rfl : ys = zs := by injection h1 with h1; injection h1
  have k : Tk H' (upd H' l (.lst (ys ++ [u]))) := tk_upd (.inr ⟨_, e⟩)
  refine ⟨t.at_.upd t.nl, t.nl, _, upd_same, by rw [List.length_append, List.length_singleton]; omega, fun z hz => ?_⟩
  rcases List.mem_append.mp hz with q | q
  · exact (h3 z q).tk k
  · rw [List.mem_singleton.mp q]
    exact hu.tk k
theorem Told.fill {ys zs : List V} {p : Addr} (t : Told K f c l H H' m cnt R) (e : H' l = some (.lst ys)) (hz : ∀ u ∈ zs, Rul K H' u R) (hl : zs.length ≤ 6) (hp : H' p = none) (s : Same H' H2) (e2 : H2 p = some (.lst (ys ++ zs))) : Told K f c p H H2 m (cnt + 6) R := by
  obtain ⟨xs, h1, h2, h3⟩ := t.ys
  rw [e] at h1
  obtain rfl : ys = xs := by injection h1 with h1; injection h1
  refine ⟨t.at_.same s, t.at_.new hp, _, e2, by rw [List.length_append]; omega, fun u hu => ?_⟩
  rcases List.mem_append.mp hu with q | q
  · exact (h3 u q).tk (tk_same s)
  · exact (hz u q).tk (tk_same s)
end
theorem sm_mark {R : Rl Str} (sm : R.1.length ≤ 400 ∧ R.2.length ≤ 400 ∧ ∀ p ∈ R.2, p.length ≤ 400) (m : Int) : Sm (wMark R m) := ⟨by show (putM R.1 m).length ≤ 500; rw [length_putM]; omega, by show R.2.length ≤ 500; omega, fun p hp => by have := sm.2.2 p hp; omega⟩
theorem sm_unmark {R : Rl Str} (sm : R.1.length ≤ 400 ∧ R.2.length ≤ 400 ∧ ∀ p ∈ R.2, p.length ≤ 400) (m : Int) : Sm (woMark R m) := ⟨by have := length_dropM R.1 m; show (dropM R.1 m).length ≤ 500; omega, by show R.2.length ≤ 500; omega, fun p hp => by have := sm.2.2 p hp; omega⟩
theorem sm_shift {R : Rl Str} (sm : R.1.length ≤ 400 ∧ R.2.length ≤ 400 ∧ ∀ p ∈ R.2, p.length ≤ 400) (b : Int) : Sm (shiftR R b) := ⟨by show (R.1.map _).length ≤ 500; rw [List.length_map]; omega, by show R.2.length ≤ 500; omega, fun p hp => by have := sm.2.2 p hp; omega⟩
theorem len_upP (s : Int) (ph : Ph Str) : (upP s ph).length = ph.length := by unfold upP; rw [List.length_map]
theorem sm_phase {R : Rl Str} (sm : R.1.length ≤ 400 ∧ R.2.length ≤ 400 ∧ ∀ p ∈ R.2, p.length ≤ 400) {ph : Ph Str} (hl : ph.length ≤ 400) {s : Nat} (hs : s ≤ R.2.length) : Sm (wPhase R ph s) := ⟨by show R.1.length ≤ 500; omega, by rw [length_wPhase R ph hs]; omega, fun p hp => by
  rcases mem_wPhase hp with e | ⟨q, hq, e⟩
  · rw [e]; omega
  · rw [e, len_upP]; have := sm.2.2 q hq; omega⟩
theorem getElem?_modify_self {β : Type} (l : List β) (i : Nat) (g : β → β) {x : β} (h : l[i]? = some x) : (l.modify i g)[i]? = some (g x) := by
  rw [List.getElem?_modify, h]
  show some (if i = i then g x else x) = _
  rw [if_pos rfl]
theorem sm_pair {R : Rl Str} (sm : R.1.length ≤ 400 ∧ R.2.length ≤ 400 ∧ ∀ p ∈ R.2, p.length ≤ 400) (i k : Nat) (q : Str × Int) : Sm (wPair R i k q) := ⟨by show R.1.length ≤ 500; omega, by rw [length_wPair]; omega, fun p hp => by
  have hp : p ∈ R.2.modify i fun ph => ph.set k q := hp
  obtain ⟨j, hj⟩ := List.mem_iff_getElem?.mp hp
  rw [List.getElem?_modify] at hj
  cases e : R.2[j]? with
  | none => rw [e] at hj; cases hj
  | some p0 =>
    rw [e] at hj
    have hj : (if i = j then p0.set k q else p0) = p := Option.some.inj hj
    have := sm.2.2 p0 (List.mem_of_getElem? e)
    rw [← hj]
    split
    · rw [List.length_set]; omega
    · omega⟩
theorem ok__law_back_right (T : Txt K mg aM aC) (D : Df K mg "_law_back_right" s__law_back_right) (g__law_draw : Own P w K mg base 1 "_law_draw" ["_law_feed_here", "_law_size"] (sp__law_draw K)) (g__law_pick : Own P w K mg base 2 "_law_pick" ["_law_feed_here", "_law_some"] (sp__law_pick K))
    (g__law_phase : Own P w K mg base 3 "_law_phase" ["_law_feed_here", "_law_many"] (sp__law_phase K)) (g_with_mark : Own P w K mg base 2 "with_mark" ["rule", "mark"] (sp_with_mark K)) (g_without_mark : Own P w K mg base 2 "without_mark" ["rule", "mark"] (sp_without_mark K))
    (g_with_marks : Own P w K mg base 4 "with_marks" ["rule", "marks"] (sp_with_marks K)) (g_shifted : Own P w K mg base 2 "shifted" ["rule", "by"] (sp_shifted K)) (g_with_phase : OwnK P w K mg base 5 (sp_with_phase K)) (g_without_phase : Own P w K mg base 4 "without_phase" ["rule", "index"] (sp_without_phase K))
    (g_with_pair : Own P w K mg base 4 "with_pair" ["rule", "phase", "case", "move", "later"] (sp_with_pair K)) : Own P w K mg base 6 "_law_back_right" ["_law_feed_here", "_law_rule_here"] (sp__law_back_right K) := by
  refine own_mk D sc__law_back_right (fun _ _ _ _ _ _ us hl => match us, hl with | [_, _], _ => rfl) (fun vs H Q ⟨_, _, _, _, _, e, _⟩ => by rw [e] <;> rfl) fun f0 cdv A outer s H vs Q hr h => ?_
  obtain ⟨f, c, n, v, R, rfl, hF, hC, hn, hRul, ok, hz, q⟩ := h
  obtain ⟨a, x, y, rfl, hS, ⟨b, rfl, hM⟩, ⟨cp, xs, rfl, hCp, hP⟩⟩ := id hRul
  refine ⟨_, (pss_cons (ps_asg (pv 1) (pg_tup rfl (pgs_cons (pg_name (i := 2) sc__law_back_right.nd rfl (Or.inl rfl)) (pgs_cons (pg_name (i := 3) sc__law_back_right.nd rfl (Or.inl rfl)) pgs_nil))))
      (pss_cons (ps_set (i := 4) sc__law_back_right.nd rfl (Or.inl rfl) (pe_lstS pa_nil))
      (pss_cons (ps_for PassesOwn.never rfl (pi_list (pe_op op_catS (pe_lstS (pa_cons (pe_op op_pow pe_int pe_int) (pa_cons (pe_un un_neg (pe_op op_pow pe_int pe_int)) (pa_cons pe_int pa_nil)))) (pe_lc (own := [("_law_one", 14)]) (g := (gName 14)) (tt := tYes) rfl sc__law_back_right.nd (pi_tup (pv 2)) (blkOk_by (N := N__law_back_right) (sc := defScope s__law_back_right) (by decide +kernel)) (fun _ _ _ _ _ => (pg_name (i := 14) sc__law_back_right.nd rfl (Or.inl rfl))) (fun _ _ _ _ _ => pts_nil) (fun _ _ _ _ _ => (pe_op op_add (pv 14) pe_int))))) (pg_name (i := 5) sc__law_back_right.nd rfl (Or.inl rfl))
      (pss_one (ps_if (pt_cmpR op_notIn_seq (pv 5) (pv 2) (by rfl)) (pss_one (ps_expr (pe_bm PySem.F.plainAttrs_list PySem.F.slot_list_append PySem.F.type_list_append mt_append (pv 4) (pa_cons (pe_own g_without_mark hr (by rfl) (pa_cons (pe_own g_with_mark hr (by rfl) (pa_cons (pv 1) (pa_cons (pv 5) pa_nil))) (pa_cons (pv 5) pa_nil))) pa_nil)))) pss_nil)))
      (pss_cons (ps_set (i := 4) sc__law_back_right.nd rfl (Or.inl rfl) (pe_op op_catS (pv 4) (pe_lc (own := [("_law_mark", 5)]) (g := (gName 5)) (tt := tYes) rfl sc__law_back_right.nd (pi_tup (pv 2)) (blkOk_by (N := N__law_back_right) (sc := defScope s__law_back_right) (by decide +kernel)) (fun _ _ _ _ _ => (pg_name (i := 5) sc__law_back_right.nd rfl (Or.inl rfl))) (fun _ _ _ _ _ => pts_nil) (fun _ _ _ _ _ => (pe_own g_with_mark hr (by rfl) (pa_cons (pe_own g_without_mark hr (by rfl) (pa_cons (pv 1) (pa_cons (pv 5) pa_nil))) (pa_cons (pv 5) pa_nil)))))))
      (pss_cons (ps_for PassesOwn.never rfl (pi_tup (pe_tupS (K := K) rfl (pa_cons pe_int (pa_cons pe_int (pa_cons (pe_un un_neg (pe_op op_pow pe_int pe_int)) (pa_cons (pe_op op_sub (pe_own g__law_draw hr (by rfl) (pa_cons (pv 0) (pa_cons pe_int pa_nil))) pe_int) pa_nil)))))) (pg_name (i := 6) sc__law_back_right.nd rfl (Or.inl rfl))
      (pss_one (ps_expr (pe_bm PySem.F.plainAttrs_list PySem.F.slot_list_append PySem.F.type_list_append mt_append (pv 4) (pa_cons (pe_own g_shifted hr (by rfl) (pa_cons (pe_own g_shifted hr (by rfl) (pa_cons (pv 1) (pa_cons (pv 6) pa_nil))) (pa_cons (pe_un un_neg (pv 6)) pa_nil))) pa_nil)))))
      (pss_cons (ps_for PassesOwn.never rfl (pi_range1 (by rfl) T.range_ (pa_cons (pe_op op_add (pe_callB call_len_seq (by rfl) T.len_ PySem.boot_len (pa_cons (pv 3) pa_nil)) pe_int) pa_nil)) (pg_name (i := 7) sc__law_back_right.nd rfl (Or.inl rfl))
      (pss_one (ps_expr (pe_bm PySem.F.plainAttrs_list PySem.F.slot_list_append PySem.F.type_list_append mt_append (pv 4) (pa_cons (pe_own g_without_phase hr (by rfl) (pa_cons (pe_wpK g_with_phase hr (by rfl) (pa_cons (pv 1) (pa_cons (pe_own g__law_phase hr (by rfl) (pa_cons (pv 0) (pa_cons (pe_op op_add (pe_callB call_len_seq (by rfl) T.len_ PySem.boot_len (pa_cons (pv 3) pa_nil)) pe_int) pa_nil))) pa_nil)) (pk_cons (pv 7) pk_nil)) (pa_cons (pv 7) pa_nil))) pa_nil)))))
      (pss_cons (ps_for PassesOwn.never rfl (pi_enumT (by rfl) T.enum_ (pa_cons (pv 3) pa_nil)) (pg_tup rfl (pgs_cons (pg_name (i := 8) sc__law_back_right.nd rfl (Or.inl rfl)) (pgs_cons (pg_name (i := 9) sc__law_back_right.nd rfl (Or.inl rfl)) pgs_nil)))
      (pss_one (ps_for PassesOwn.never rfl (pi_enum (by rfl) T.enum_ (pa_cons (pe_lstS (pa_cons pe_str (pa_cons pe_str (pa_cons pe_str pa_nil)))) pa_nil)) (pg_tup rfl (pgs_cons (pg_name (i := 10) sc__law_back_right.nd rfl (Or.inl rfl)) (pgs_cons (pg_name (i := 11) sc__law_back_right.nd rfl (Or.inl rfl)) pgs_nil)))
      (pss_cons (ps_set (i := 12) sc__law_back_right.nd rfl (Or.inl rfl) (pe_own g__law_pick hr (by rfl) (pa_cons (pv 0) (pa_cons (pe_lstS (pa_cons pe_str (pa_cons pe_str (pa_cons pe_str (pa_cons pe_str pa_nil))))) pa_nil))))
      (pss_cons (ps_set (i := 13) sc__law_back_right.nd rfl (Or.inl rfl) (pe_own g_with_pair hr (by rfl) (pa_cons (pv 1) (pa_cons (pv 8) (pa_cons (pv 11) (pa_cons (pv 12) (pa_cons (pe_own g__law_draw hr (by rfl) (pa_cons (pv 0) (pa_cons (pe_callB call_len_seq (by rfl) T.len_ PySem.boot_len (pa_cons (pv 3) pa_nil)) pa_nil))) pa_nil)))))))
      (pss_one (ps_expr (pe_bm PySem.F.plainAttrs_list PySem.F.slot_list_append PySem.F.type_list_append mt_append (pv 4) (pa_cons (pe_own g_with_pair hr (by rfl) (pa_cons (pv 13) (pa_cons (pv 8) (pa_cons (pv 11) (pa_cons (pe_ix ix_tup (pe_ix ix_tup (pv 9) (pv 10) (fun _ _ => rfl)) pe_int (fun _ _ => rfl)) (pa_cons (pe_ix ix_tup (pe_ix ix_tup (pv 9) (pv 10) (fun _ _ => rfl)) pe_int (fun _ _ => rfl)) pa_nil)))))) pa_nil)))))))))
      (pss_cons (ps_expr (pe_bm PySem.F.plainAttrs_list PySem.F.slot_list_append PySem.F.type_list_append mt_append (pv 4) (pa_cons (pe_own g_with_marks hr (by rfl) (pa_cons (pe_own g_with_marks hr (by rfl) (pa_cons (pv 1) (pa_cons (pe_tupS (K := K) rfl (pa_cons pe_int (pa_cons pe_int pa_nil))) pa_nil))) (pa_cons (pv 2) pa_nil))) pa_nil)))
      (pss_one (ps_ret (pe_cmpR (op_eqD hr.hu) (pe_lc (own := [("_law_one", 14)]) (g := (gName 14)) (tt := _) rfl sc__law_back_right.nd (pi_list (pv 4)) (blkOk_by (N := N__law_back_right) (sc := defScope s__law_back_right) (by decide +kernel)) (fun _ _ _ _ _ => (pg_name (i := 14) sc__law_back_right.nd rfl (Or.inl rfl))) (fun _ _ _ _ _ => (pts_one (pt_cmpR op_ne (pe_callB (call_reprD (K := K) rfl hr.g hr.un) (by rfl) T.repr_ (by decide +kernel) (pa_cons (pv 14) pa_nil)) (pe_callB (call_reprD (K := K) rfl hr.g hr.un) (by rfl) T.repr_ (by decide +kernel) (pa_cons (pv 1) pa_nil)) (nomark _)))) (fun _ _ _ _ _ => (pv 14))) (pe_lstS pa_nil) (nomark _)))))))))))), ?_⟩
  have hlen := hP.length
  have hzm : R.1.length ≤ 6 := hz.m
  have hzp : R.2.length ≤ 4 := hz.p
  have s4 : R.1.length ≤ 400 ∧ R.2.length ≤ 400 ∧ ∀ p ∈ R.2, p.length ≤ 400 := ⟨by omega, by omega, fun p hp => by have := (ok.ph p hp).len; omega⟩
  have sm : Sm R := ⟨by omega, by omega, fun p hp => by have := s4.2.2 p hp; omega⟩
  have A0 := At.start hF hC
  refine ⟨_, rfl, a, _, rfl, hS, rfl, _, _, rfl, _, _, rfl, rfl, ?_⟩
  refine ⟨sz (by simp), fun l H1 n1 s1 hl1 => ?_⟩
  have t1 : Told K f c l H H1 n 0 R := ⟨A0.same s1, n1, [], hl1, Nat.le_refl _, by simp⟩
  -- marks put in and taken out
  refine ⟨_, _, rfl, rfl, ⟨by decide, by decide, by decide⟩, _, _, rfl, rfl, ⟨by decide, by decide, by decide⟩, _, rfl, sz (by simp), fun p2 H2 n2 s2 hp2 => ?_⟩
  have t2 := t1.same s2
  refine ⟨_, rfl, b, rfl, ⟨_, sqT_tk t2.at_.tk hM⟩, fun D' hD => comp_ints hD (sqT_tk t2.at_.tk hM) (by omega) (fun _ => true) (fun x => x + 1) ?_ fun H3 s3 hy3 => ?_⟩
  · intro m H5 C C' hm s5 hC' _
    exact ⟨rfl, _, rfl, _, _, rfl, rfl, hC' rfl⟩
  have t3 := t2.same s3
  rw [List.filter_eq_self.mpr fun _ _ => rfl] at hy3
  refine ⟨p2, D', _, _, rfl, rfl, s3 _ _ hp2, hy3, sz (by simp; omega), fun p4 H4 n4 s4' hp4 => ?_⟩
  have t4 := t3.same s4'
  have np4 := t3.at_.new n4
  have p4l : p4 ≠ l := fun z => by
    subst z
    obtain ⟨_, e, _⟩ := t3.ys
    rw [n4] at e
    cases e
  have p4f : p4 ≠ f := (t3.at_.fd.ne n4).symm
  obtain ⟨L, hL, hLl⟩ : ∃ L : List Int, H4 p4 = some (.lst (L.map V.int)) ∧ L.length ≤ 9 := ⟨[10 ^ 59, -10 ^ 59, 4] ++ R.1.map (fun x => x + 1), by rw [hp4, List.map_append] <;> rfl, by simp; omega⟩
  refine ⟨p4, rfl, ⟨_, SqL.of hL⟩, for_it walk_list (fun i σ H' => Told K f c l H H' n i R ∧ H' p4 = some (.lst (L.map V.int)) ∧ ∃ s5, σ = [some (.ref f), some (.ref a), some (.ref b), some (.ref cp), some (.ref l), s5, none, none, none, none, none, none, none, none, none])
    ⟨t4, hL, none, rfl⟩ (fun i σ H' _ p => SqL.of p.2.1) ?_ ?_⟩
  · rintro i z σ _ H5 hi ⟨t5, hL5, s5, rfl⟩ ⟨rfl, e5⟩
    have hi : i < L.length := by simpa using hi
    obtain rfl : z = .int L[i] := by
      rw [List.getElem?_map, List.getElem?_eq_getElem hi] at e5
      exact (Option.some.inj e5).symm
    generalize L[i] = m
    have hM5 := sqT_tk t5.at_.tk hM
    refine ⟨_, rfl, _, rfl, b, _, rfl, .inr hM5, rfl, flat_int _, _, rfl, ite2 (fun hk => ?_) (fun hk => ⟨t5.mono (Int.le_refl _) (by omega), hL5, _, rfl⟩)⟩
    have hm : m ∉ R.1 := by
      have hk : (!inV (.int m) (R.1.map V.int)) = true := hk
      rw [inV_int] at hk
      simpa using hk
    obtain ⟨ys, hys, hyl, _⟩ := t5.ys
    refine ⟨_, rfl, .inl ⟨rfl, _, SqL.of hys⟩, ?_⟩
    refine ⟨_, rfl, _, rfl, _, R, m, rfl, hRul.tk t5.at_.tk, sm, hm, fun v6 H6 s6 h6 => ?_⟩
    refine ⟨_, rfl, v6, _, m, rfl, h6, sm_mark s4 m, (mem_putM ok.ris hm).mpr (.inl rfl), fun v7 H7 s7 h7 => ?_⟩
    have s57 := s6.trans s7
    rw [wo_w_mark ok.ris hm] at h7
    refine ⟨l, ys, _, rfl, rfl, s57 _ _ hys, szl (by omega), ?_⟩
    exact ⟨(t5.same s57).push (s57 _ _ hys) h7, by rw [upd_ne p4l]; exact s57 _ _ hL5, _, rfl⟩
  rintro σ H5 ⟨t5, -, s5, rfl⟩
  rw [List.length_map] at t5
  have t5 := t5.mono (m' := n) (Int.le_refl _) hLl
  obtain ⟨ys5, hys5, hyl5, _⟩ := t5.ys
  refine ⟨_, rfl, _, rfl, b, rfl, ⟨_, sqT_tk t5.at_.tk hM⟩, fun D6 hD6 => comp_each hD6 (sqT_tk t5.at_.tk hM) (by rw [List.length_map]; omega) (fun _ H y => Rul K H y R) (fun _ _ _ _ k z => z.tk k) ?_ fun H6 zs s6 hz6 hzl hzt => ?_⟩
  · intro i z H6 C C' e s6 hC'
    have hi : i < R.1.length := by
      rcases Nat.lt_or_ge i R.1.length with z | z
      · exact z
      · rw [List.getElem?_eq_none (by simpa using z)] at e; cases e
    obtain rfl : z = .int R.1[i] := by
      rw [List.getElem?_map, List.getElem?_eq_getElem hi] at e
      exact (Option.some.inj e).symm
    have hm : R.1[i] ∈ R.1 := List.getElem_mem hi
    generalize R.1[i] = m at hm ⊢
    have k6 := t5.at_.tk.trans (tk_same s6)
    refine ⟨rfl, _, rfl, _, rfl, _, R, m, rfl, hRul.tk k6, sm, hm, fun v7 H7 s7 h7 => ?_⟩
    refine ⟨_, rfl, v7, _, m, rfl, h7, sm_unmark s4 m, by show m ∉ dropM R.1 m; rw [mem_dropM]; simp, fun v8 H8 s8 h8 => ?_⟩
    rw [w_wo_mark ok.ris hm] at h8
    exact hC' _ _ (s7.trans s8) h8
  have t6 := t5.same s6
  rw [List.length_map] at hzl
  refine ⟨l, D6, _, _, rfl, rfl, s6 _ _ hys5, hz6, sz (by omega), fun l2 H7 n7 s7 hl7 => ?_⟩
  have t7 := t6.fill (s6 _ _ hys5) (fun u hu => by
    obtain ⟨i, hi⟩ := List.mem_iff_getElem?.mp hu
    exact hzt i u hi) (by omega) n7 s7 hl7
  clear hys5 hyl5 hz6 hzl hzt t5 t6 hl7 hD6 hD
  -- shifted there and back
  refine ⟨_, _, rfl, rfl, ⟨by decide, by decide, by decide⟩, _, rfl, ?_⟩
  refine ⟨_, rfl, f, c, n, 60, rfl, t7.at_.fd, t7.at_.cells, by omega, by omega, by omega, fun r H8 r0 r1 sb8 fd8 => ?_⟩
  have t8 := t7.call sb8 fd8
  refine ⟨_, _, rfl, rfl, sz (by simp), fun p9 H9 s9 hp9 => ?_⟩
  have t9 := t8.same s9
  refine ⟨p9, rfl, ⟨_, hp9⟩, for_it walk_tup (fun i σ H' => Told K f c l2 H H' (n + 1) (15 + i) R ∧ Tk H9 H' ∧ ∃ s5 s6, σ = [some (.ref f), some (.ref a), some (.ref b), some (.ref cp), some (.ref l2), s5, s6, none, none, none, none, none, none, none, none])
    ⟨t9, Tk.refl _, s5, none, rfl⟩ (fun i σ H' _ p => sqT_tk p.2.1 hp9) ?_ ?_⟩
  · rintro i z σ _ HA hi ⟨tA, kA, s5, s6, rfl⟩ ⟨rfl, eA⟩
    obtain ⟨by_, rfl⟩ : ∃ by_ : Int, z = .int by_ := by
      have hz := List.mem_of_getElem? eA
      simp only [List.mem_cons, List.not_mem_nil, or_false] at hz
      rcases hz with e | e | e | e <;> exact ⟨_, e⟩
    obtain ⟨ys, hys, hyl, _⟩ := tA.ys
    have hi : i < 4 := hi
    refine ⟨_, rfl, .inl ⟨rfl, _, SqL.of hys⟩, ?_⟩
    refine ⟨_, rfl, _, rfl, _, R, by_, rfl, hRul.tk tA.at_.tk, sm, fun v6 H6 s6 h6 => ?_⟩
    refine ⟨_, rfl, _, rfl, v6, _, -by_, rfl, h6, sm_shift s4 by_, fun v7 H7 s7 h7 => ?_⟩
    have s57 := s6.trans s7
    rw [shift_back] at h7
    refine ⟨l2, ys, _, rfl, rfl, s57 _ _ hys, szl (by omega), ?_⟩
    exact ⟨(tA.same s57).push (s57 _ _ hys) h7, kA.trans ((tk_same s57).trans (tk_upd (.inr ⟨_, s57 _ _ hys⟩))), _, _, rfl⟩
  rintro σ HB ⟨tB, -, s5, s6, rfl⟩
  have tB := tB.mono (m' := n + 1) (cnt' := 19) (Int.le_refl _) (Nat.le_refl _)
  have hlz : ∀ {z : Int}, z = ((xs.length : Nat) : Int) → z = R.2.length := fun e => by rw [e, hlen]
  -- phases put in and taken out
  refine ⟨_, rfl, cp, _, rfl, .inr (sqT_tk tB.at_.tk hCp), _, _, rfl, rfl, ((R.2.length + 1 : Nat) : Int), by rw [hlen] <;> rfl, by omega, by omega, ?_⟩
  refine for_range (lo := 0) (n := ((R.2.length + 1 : Nat) : Int).toNat) (fun i σ H' => Told K f c l2 H H' (n + 1 + 6 * i) (19 + i) R ∧ ∃ s5 s6 s7, σ = [some (.ref f), some (.ref a), some (.ref b), some (.ref cp), some (.ref l2), s5, s6, s7, none, none, none, none, none, none, none])
    ⟨tB.mono (by omega) (by omega), s5, s6, none, rfl⟩ ?_ ?_
  · rintro i σ HC hi ⟨tC, s5, s6, s7, rfl⟩
    have hi : i ≤ R.2.length := by omega
    obtain ⟨ys, hys, hyl, _⟩ := tC.ys
    refine ⟨_, rfl, .inl ⟨rfl, _, SqL.of hys⟩, ?_⟩
    refine ⟨_, rfl, _, rfl, _, rfl, cp, _, rfl, .inr (sqT_tk tC.at_.tk hCp), _, _, rfl, rfl, f, c, n + 1 + 6 * i, R.2.length + 1, by rw [hlen] <;> rfl, tC.at_.fd, tC.at_.cells, by omega, by omega, by omega, fun u ph HD sbD fdD hph okp => ?_⟩
    have tD := tC.call sbD fdD
    refine ⟨_, rfl, rfl, rfl, _, u, _, R, ph, i, rfl, hRul.tk tD.at_.tk, sm, hph, okp.len, fun p hp => ⟨okp.mv p hp, okp.lo p hp⟩, fun p hp => by have := okp.hi p hp; omega, .inr ⟨by rw [Int.zero_add], hi⟩, fun v6 H6 s6 h6 => ?_⟩
    have hsl := length_wPhase R ph hi
    have hpos := ok.pos
    refine ⟨_, rfl, v6, _, i, by rw [Int.zero_add], h6, sm_phase s4 (by have := okp.len; omega) hi, by omega, by omega, fun v7 H7 s7 h7 => ?_⟩
    have s57 := s6.trans s7
    rw [wo_w_phase ph hi] at h7
    have hysD : HD l2 = some (.lst ys) := sbD _ _ tC.lf hys
    refine ⟨l2, ys, _, rfl, rfl, s57 _ _ hysD, szl (by omega), ?_⟩
    exact ⟨((tD.same s57).push (s57 _ _ hysD) h7).mono (by rw [Int.natCast_add]; omega) (by omega), _, _, _, rfl⟩
  rintro σ HE ⟨tE, s5, s6, s7, rfl⟩
  have tE := tE.mono (m' := n + 40) (cnt' := 24) (by omega) (by omega)
  -- pairs put in and the old ones put back
  refine ⟨_, rfl, cp, _, rfl, sqT_tk tE.at_.tk hCp, for_it walk_enumT (fun i σ H' => Told K f c l2 H H' (n + 40 + 6 * i) (24 + 3 * i) R ∧ ∃ s5 s6 s7 s8 s9 s10 s11 s12 s13, σ = [some (.ref f), some (.ref a), some (.ref b), some (.ref cp), some (.ref l2), s5, s6, s7, s8, s9, s10, s11, s12, s13, none])
    ⟨tE.mono (by omega) (by omega), s5, s6, s7, none, none, none, none, none, none, rfl⟩ (fun i σ H' _ p => sqT_tk p.1.at_.tk hCp) ?_ ?_⟩
  · rintro i z σ HF HF' hi ⟨tF, s5, s6, s7, s8, s9, s10, s11, s12, s13, rfl⟩ ⟨T', z', ov, rfl, hT, rfl, e1, e2⟩
    cases e1
    have tG := tF.same (same_new (o := .tup [.int (i : Nat), ov]) hT)
    refine ⟨T', _, rfl, SqT.of upd_same, rfl, _, _, rfl, _, _, rfl, rfl, ?_⟩
    generalize upd HF T' (.tup [.int (i : Nat), ov]) = HG at tG ⊢
    obtain ⟨own, e3, hown⟩ := paired_at hP e2
    have hi' : i < R.2.length := by omega
    have hol := (ok.ph own (List.mem_of_getElem? e3)).len
    obtain ⟨o, os, rfl, hO, hOP⟩ := id hown
    refine ⟨sz (by simp), fun pC HH nC sC hpC => ?_⟩
    have tH := tG.same sC
    have pCl : pC ≠ l2 := fun z => by
      subst z
      obtain ⟨_, e, _⟩ := tG.ys
      rw [nC] at e
      cases e
    have pCf : pC ≠ f := (tG.at_.fd.ne nC).symm
    refine ⟨pC, _, rfl, SqL.of hpC, for_it walk_enum (fun k σ H' => Told K f c l2 H H' (n + 40 + 6 * i + 2 * k) (24 + 3 * i + k) R ∧ H' pC = some (.lst (cases3.map V.str)) ∧ ∃ s10 s11 s12 s13, σ = [some (.ref f), some (.ref a), some (.ref b), some (.ref cp), some (.ref l2), s5, s6, s7, some (.int (i : Nat)), some (.ref o), s10, s11, s12, s13, none])
      ⟨tH.mono (by omega) (by omega), hpC, s10, s11, s12, s13, rfl⟩ (fun k σ H' _ p => SqL.of p.2.1) ?_ ?_⟩
    · rintro k z σ HI HI' hk ⟨tI, hpI, s10, s11, s12, s13, rfl⟩ ⟨T2, z2, cv, rfl, hT2, rfl, e4, e5⟩
      cases e4
      have hk : k < 3 := hk
      have tJ := tI.same (same_new (o := .tup [.int (k : Nat), cv]) hT2)
      have hpJ : (upd HI T2 (.tup [.int (k : Nat), cv])) pC = some (.lst (cases3.map V.str)) := by rw [upd_ne (ne_of_none hpI hT2)]; exact hpI
      refine ⟨T2, _, rfl, SqT.of upd_same, rfl, _, _, rfl, _, _, rfl, rfl, ?_⟩
      generalize upd HI T2 (.tup [.int (k : Nat), cv]) = HJ at tJ hpJ ⊢
      obtain ⟨cs, e6, rfl⟩ : ∃ cs : Str, cases3[k]? = some cs ∧ cv = .str cs := by
        have e5 : (cases3.map V.str)[k]? = some cv := e5
        rw [List.getElem?_map] at e5
        cases e7 : cases3[k]? with
        | none => rw [e7] at e5; cases e5
        | some cs =>
          rw [e7] at e5
          exact ⟨cs, rfl, (Option.some.inj e5).symm⟩
      -- the move
      refine ⟨_, rfl, sz (by simp), fun pM HK nK sK hpM => ?_⟩
      have tK := tJ.same sK
      refine ⟨f, c, pM, _, _, rfl, tK.at_.fd, tK.at_.cells, by omega, (tJ.at_.fd.ne nK).symm, SqL.of hpM, by simp, by simp, fun mvv HL hmv sbL fdL => ?_⟩
      have tL := tK.call sbL fdL
      obtain ⟨mv, rfl, hmv2⟩ : ∃ mv : Str, mvv = .str mv ∧ mv ∈ moves := by
        simp only [List.mem_cons, List.not_mem_nil, or_false] at hmv
        rcases hmv with e | e | e | e <;> (subst e; exact ⟨_, rfl, by decide +kernel⟩)
      -- the pair
      refine ⟨_, rfl, _, rfl, _, rfl, _, rfl, _, rfl, _, rfl, cp, _, rfl, .inr (sqT_tk tL.at_.tk hCp), f, c, _, ((R.2.length : Nat) : Int), by rw [hlen], tL.at_.fd, tL.at_.cells, by omega, by omega, by omega, fun r HM r0 r1 sbM fdM => ?_⟩
      have tM := tL.call sbM fdM
      refine ⟨_, R, i, k, cs, mv, r, own, rfl, hRul.tk tM.at_.tk, sm, e3, hol, e6, hmv2, r0, r1, fun v6 H6 s6 h6 => ?_⟩
      have t6 := tM.same s6
      obtain ⟨ys, hys, hyl, _⟩ := t6.ys
      have hO6 := sqT_tk t6.at_.tk hO
      obtain ⟨pr, e8⟩ : ∃ pr, own[k]? = some pr := ⟨own[k], List.getElem?_eq_getElem (by omega)⟩
      obtain ⟨prv, e9, po, rfl, hpo⟩ := paired_ta hOP e8
      have hpo6 := sqT_tk t6.at_.tk hpo
      refine ⟨_, rfl, .inl ⟨rfl, _, SqL.of hys⟩, ?_⟩
      refine ⟨_, rfl, _, rfl, _, rfl, _, rfl, _, rfl, o, _, (k : Nat), _, rfl, rfl, hO6, atI_nat e9, po, _, 0, _, rfl, rfl, hpo6, rfl, ?_⟩
      refine ⟨_, rfl, _, rfl, o, _, (k : Nat), _, rfl, rfl, hO6, atI_nat e9, po, _, 1, _, rfl, rfl, hpo6, rfl, ?_⟩
      have okp := ok.ph own (List.mem_of_getElem? e3)
      have hprm := List.mem_of_getElem? e8
      refine ⟨v6, wPair R i k (mv, r), i, k, cs, pr.1, pr.2, own.set k (mv, r), rfl, h6, sm_pair s4 i k (mv, r), getElem?_modify_self _ _ _ e3, by rw [List.length_set]; exact hol, e6, okp.mv pr hprm, okp.lo pr hprm, by rw [length_wPair]; exact okp.hi pr hprm, fun v7 H7 s7 h7 => ?_⟩
      rw [pair_back (mv, r) pr e3 e8] at h7
      refine ⟨l2, ys, _, rfl, rfl, s7 _ _ hys, szl (by omega), ?_⟩
      refine ⟨((t6.same s7).push (s7 _ _ hys) h7).mono (by rw [Int.natCast_add]; omega) (by omega), ?_, _, _, _, _, rfl⟩
      rw [upd_ne pCl]
      exact s7 _ _ (s6 _ _ (sbM _ _ pCf (sbL _ _ pCf (sK _ _ hpJ))))
    · rintro σ HI ⟨tI, -, s10, s11, s12, s13, rfl⟩
      exact ⟨tI.mono (by show n + 40 + 6 * (i : Int) + 2 * ((3 : Nat) : Int) ≤ n + 40 + 6 * ((i + 1 : Nat) : Int); rw [Int.natCast_add]; omega) (by show 24 + 3 * i + 3 ≤ _; omega), _, _, _, _, _, _, _, _, _, rfl⟩
  rintro σ HN ⟨tN, s5, s6, s7, s8, s9, s10, s11, s12, s13, rfl⟩
  have tN := tN.mono (m' := n + 100) (cnt' := 50) (by omega) (by omega)
  -- other marks and the own ones
  obtain ⟨ys, hys, hyl, _⟩ := tN.ys
  refine ⟨_, rfl, .inl ⟨rfl, _, SqL.of hys⟩, ?_⟩
  refine ⟨_, rfl, sz (by simp), fun pO HO sO hpO => ?_⟩
  have tO := tN.same sO
  refine ⟨_, _, R, [1, 2], rfl, hRul.tk tO.at_.tk, ⟨pO, rfl, hpO⟩, by unfold Ris; decide, fun v6 H6 s6 h6 => ?_⟩
  have t6 := tO.same s6
  refine ⟨_, rfl, v6, _, ([1, 2], R.2), R.1, rfl, h6, ⟨b, rfl, sqT_tk t6.at_.tk hM⟩, ok.ris, fun v7 H7 s7 h7 => ?_⟩
  have sO7 := sO.trans (s6.trans s7)
  have t7' := (tN.same sO7).push (u := v7) (sO7 _ _ hys) h7
  refine ⟨l2, ys, _, rfl, rfl, sO7 _ _ hys, szl (by omega), ?_⟩
  generalize upd H7 l2 (.lst (ys ++ [v7])) = HP at t7' ⊢
  clear tO t6 tN hys hyl
  -- what is told
  obtain ⟨zs, hzs, hzl, hzR⟩ := t7'.ys
  refine ⟨_, rfl, l2, rfl, ⟨_, SqL.of hzs⟩, fun DQ hDQ => comp_sel walk_list hDQ (fun _ H' => Same HP H') (fun _ => false) (fun _ _ _ => True) (by omega) (fun H' s => s) (fun _ H' _ s => SqL.of (s _ _ hzs)) (fun _ _ _ _ hD s => same_upd s hD) (fun _ _ _ _ _ t => t) ?_ ?_⟩
  · rintro i z _ HQ C C' hi sQ ⟨rfl, eQ⟩ _ hC'
    have hz' := hzR z (List.mem_of_getElem? eQ)
    obtain ⟨za, rfl, d1, d2, d3, d4, d5⟩ := repr_rul (hz'.tk (tk_same sQ)) ok hz (by omega)
    obtain ⟨ra, er, d6, _⟩ := repr_rul (hRul.tk (t7'.at_.tk.trans (tk_same sQ))) ok hz (by omega)
    cases er
    refine ⟨rfl, _, rfl, za, _, rfl, d1, d2, d3, d4, d5, _, rfl, a, _, rfl, d6, d2, d3, d4, d5, rfl, _, rfl, ?_⟩
    exact iteNS rfl (hC' _ rfl sQ (Tk.refl _) fun _ _ _ e => e)
  · intro HQ ys sQ hy hs
    rw [hs.none] at hy
    refine ⟨sz (by simp), fun pR HR nR sR hpR => ?_⟩
    refine ⟨.list [], .list [], .lst (SqL.of (sR _ _ hy)) .nil, .lst (SqL.of hpR) .nil, by decide +kernel, by decide +kernel, ?_⟩
    have tR := t7'.at_.same (sQ.trans sR)
    exact q _ tR.sb (tR.fd.mono (by omega))
end EC
namespace EC
open PySem PySem.Spec PyProof.Rows L2
/-! ### two changes in both orders -/
variable {P : Program} {w : World} {K : PySem.W.Frag} {mg : Str → Option Value} {base : Heap} {aM aC : Addr}
def sp__law_orders_right (K : PySem.W.Frag) : Pm := fun vs H Q => ∃ (f c : Addr) (n : Int) (v : V) (R : Rl Str), vs = [.ref f, v] ∧ FeedAt H f c n ∧ Cells K H c ∧ n ≤ 700000 ∧ Rul K H v R ∧ RlOk moves R ∧ Sz 0 R ∧
  ∀ H', SB f H H' → FeedAt H' f c (n + 100) → Q (.bl true) H'
section
variable {R : Rl Str} {c c' : Nat}
theorem Sz.mono (h : Sz c R) (hc : c ≤ c') : Sz c' R := ⟨Nat.le_trans h.m (by omega), Nat.le_trans h.p (by omega), fun m hm => Nat.le_trans (h.b m hm) (Nat.mul_le_mul_right _ (by omega))⟩
theorem Sz.mark (h : Sz c R) {m : Int} (hr : Ris R.1) (hm : m ∉ R.1) (hb : m.natAbs ≤ (c + 2) * (2 * 10 ^ 58)) : Sz (c + 1) (wMark R m) := by
  refine ⟨?_, Nat.le_trans h.p (by omega), fun x hx => ?_⟩
  · show (putM R.1 m).length ≤ _
    rw [length_putM]
    have := h.m
    omega
  · rcases (mem_putM hr hm).mp hx with e | e
    · rw [e]; exact hb
    · exact (h.mono (c' := c + 1) (by omega)).b x e
theorem Sz.unmark (h : Sz c R) (m : Int) : Sz c (woMark R m) := ⟨Nat.le_trans (length_dropM R.1 m) h.m, h.p, fun x hx => h.b x (mem_dropM.mp hx).1⟩
theorem Sz.shift (h : Sz c R) {b : Int} (hb : b.natAbs ≤ 2 * 10 ^ 58) : Sz (c + 1) (shiftR R b) := by
  refine ⟨by show (R.1.map _).length ≤ _; rw [List.length_map]; have := h.m; omega, Nat.le_trans h.p (by omega), fun x hx => ?_⟩
  obtain ⟨y, hy, rfl⟩ := List.mem_map.mp hx
  have := h.b y hy
  show (y + b).natAbs ≤ _
  have e : (c + 1 + 1) * (2 * 10 ^ 58) = (c + 1) * (2 * 10 ^ 58) + 2 * 10 ^ 58 := by rw [Nat.succ_mul]
  rw [e]
  exact Nat.le_trans (Int.natAbs_add_le y b) (Nat.add_le_add this hb)
theorem Sz.phase (h : Sz c R) {ph : Ph Str} {s : Nat} (hs : s ≤ R.2.length) : Sz (c + 1) (wPhase R ph s) := ⟨Nat.le_trans h.m (by omega), by rw [length_wPhase R ph hs]; have := h.p; omega, (h.mono (c' := c + 1) (by omega)).b⟩
theorem Sz.unphase (h : Sz c R) {i : Nat} (hi : i < R.2.length) : Sz c (woPhase R i) := ⟨h.m, by rw [length_woPhase R hi]; have := h.p; omega, h.b⟩
theorem Sz.pair (h : Sz c R) (i k : Nat) (p : Str × Int) : Sz c (wPair R i k p) := ⟨h.m, by rw [length_wPair]; exact h.p, h.b⟩
theorem PhOk.set {n : Nat} {ph : Ph Str} (h : PhOk moves n ph) (k : Nat) {p : Str × Int} (h1 : p.1 ∈ moves) (h2 : 0 ≤ p.2) (h3 : p.2 < n) : PhOk moves n (ph.set k p) := by
  refine ⟨by rw [List.length_set]; exact h.len, fun q hq => ?_, fun q hq => ?_, fun q hq => ?_⟩
  all_goals rcases List.mem_or_eq_of_mem_set hq with e | e
  · exact h.mv q e
  · rw [e]; exact h1
  · exact h.lo q e
  · rw [e]; exact h2
  · exact h.hi q e
  · rw [e]; exact h3
theorem RlOk.pair (h : RlOk moves R) (i k : Nat) {p : Str × Int} (h1 : p.1 ∈ moves) (h2 : 0 ≤ p.2) (h3 : p.2 < R.2.length) : RlOk moves (wPair R i k p) := by
  refine ⟨h.ris, by rw [length_wPair]; exact h.pos, fun q hq => ?_⟩
  rw [length_wPair]
  have hq : q ∈ R.2.modify i fun ph => ph.set k p := hq
  obtain ⟨j, hj⟩ := List.mem_iff_getElem?.mp hq
  rw [List.getElem?_modify] at hj
  cases e : R.2[j]? with
  | none => rw [e] at hj; cases hj
  | some p0 =>
    rw [e] at hj
    have hj : (if i = j then p0.set k p else p0) = q := Option.some.inj hj
    have := h.ph p0 (List.mem_of_getElem? e)
    rw [← hj]
    split
    · exact this.set k h1 h2 h3
    · exact this
theorem sm_small (h : Sz c R) (ok : RlOk moves R) (hc : c ≤ 60) : R.1.length ≤ 400 ∧ R.2.length ≤ 400 ∧ ∀ p ∈ R.2, p.length ≤ 400 := ⟨by have := h.m; omega, by have := h.p; omega, fun p hp => by have := (ok.ph p hp).len; omega⟩
end
/-- a pair of two rules that are the same -/
def Two (K : PySem.W.Frag) (H : Hp) (u : V) : Prop := ∃ (p : Addr) (u1 u2 : V) (R : Rl Str), u = .ref p ∧ SqT K H p [u1, u2] ∧ Rul K H u1 R ∧ Rul K H u2 R ∧ RlOk moves R ∧ Sz 20 R
theorem Two.tk {H H' : Hp} {u : V} (k : Tk H H') (h : Two K H u) : Two K H' u := let ⟨p, u1, u2, R, e, q, r1, r2, ok, hz⟩ := h; ⟨p, u1, u2, R, e, sqT_tk k q, r1.tk k, r2.tk k, ok, hz⟩
structure Duo (K : PySem.W.Frag) (f c l : Addr) (H H' : Hp) (m : Int) (cnt : Nat) : Prop where
  at_ : At K f c H H' m
  nl : H l = none
  ys : ∃ ys, H' l = some (.lst ys) ∧ ys.length ≤ cnt ∧ ∀ u ∈ ys, Two K H' u
section
variable {f c l : Addr} {H H' H2 : Hp} {m m' : Int} {cnt cnt' : Nat} {R : Rl Str}
theorem Duo.same (t : Duo K f c l H H' m cnt) (s : Same H' H2) : Duo K f c l H H2 m cnt := by
  obtain ⟨ys, h1, h2, h3⟩ := t.ys
  exact ⟨t.at_.same s, t.nl, ys, s _ _ h1, h2, fun u hu => (h3 u hu).tk (tk_same s)⟩
theorem Duo.push {ys : List V} {u : V} (t : Duo K f c l H H' m cnt) (e : H' l = some (.lst ys)) (hu : Two K H' u) : Duo K f c l H (upd H' l (.lst (ys ++ [u]))) m (cnt + 1) := by
  obtain ⟨zs, h1, h2, h3⟩ := t.ys
  rw [e] at h1
  obtain rfl : ys = zs := by injection h1 with h1; injection h1
  have k : Tk H' (upd H' l (.lst (ys ++ [u]))) := tk_upd (.inr ⟨_, e⟩)
  refine ⟨t.at_.upd t.nl, t.nl, _, upd_same, by rw [List.length_append, List.length_singleton]; omega, fun z hz => ?_⟩
  rcases List.mem_append.mp hz with q | q
  · exact (h3 z q).tk k
  · rw [List.mem_singleton.mp q]
    exact hu.tk k
end
theorem big_out {R : Rl Str} (hz : Sz 0 R) {m : Int} (h : 3 * 10 ^ 58 ≤ m) : m ∉ R.1 := fun hm => by
  have := hz.b m hm
  have e : (0 + 1) * (2 * 10 ^ 58) = (20000000000000000000000000000000000000000000000000000000000 : Nat) := by decide +kernel
  have e2 : (3 * 10 ^ 58 : Int) = 30000000000000000000000000000000000000000000000000000000000 := by decide +kernel
  rw [e] at this
  rw [e2] at h
  omega
theorem st_is {α β : Type} {t : α → L2.St → β → Prop} {k : α} {σ : L2.St} {H : β} (σ' : L2.St) (e : σ = σ') (h : t k σ' H) : t k σ H := by
  rw [e]
  exact h
theorem big_is {M : Int} (h : M = 10 ^ 59) : 3 * 10 ^ 58 ≤ M ∧ 3 * 10 ^ 58 ≤ M - 100 ∧ M.natAbs ≤ (5 + 2) * (2 * 10 ^ 58) ∧ (M - 100).natAbs ≤ (5 + 2) * (2 * 10 ^ 58) := by
  subst h
  decide +kernel
theorem ok__law_orders_right (T : Txt K mg aM aC) (D : Df K mg "_law_orders_right" s__law_orders_right) (g__law_draw : Own P w K mg base 1 "_law_draw" ["_law_feed_here", "_law_size"] (sp__law_draw K))
    (g__law_phase : Own P w K mg base 3 "_law_phase" ["_law_feed_here", "_law_many"] (sp__law_phase K)) (g_with_mark : Own P w K mg base 2 "with_mark" ["rule", "mark"] (sp_with_mark K))
    (g_shifted : Own P w K mg base 2 "shifted" ["rule", "by"] (sp_shifted K)) (g_with_phase : OwnK P w K mg base 5 (sp_with_phase K)) (g_without_phase : Own P w K mg base 4 "without_phase" ["rule", "index"] (sp_without_phase K))
    (g_with_pair : Own P w K mg base 4 "with_pair" ["rule", "phase", "case", "move", "later"] (sp_with_pair K)) : Own P w K mg base 6 "_law_orders_right" ["_law_feed_here", "_law_rule_here"] (sp__law_orders_right K) := by
  refine own_mk D sc__law_orders_right (fun _ _ _ _ _ _ us hl => match us, hl with | [_, _], _ => rfl) (fun vs H Q ⟨_, _, _, _, _, e, _⟩ => by rw [e] <;> rfl) fun f0 cdv A outer s H vs Q hr h => ?_
  obtain ⟨f, c, n, v, R, rfl, hF, hC, hn, hRul, ok, hz, q⟩ := h
  obtain ⟨a, x, y, rfl, hS, ⟨b, rfl, hM⟩, ⟨cp, xs, rfl, hCp, hP⟩⟩ := id hRul
  refine ⟨_, (pss_cons (ps_par (i := 2) (j := 3) rfl sc__law_orders_right.nd rfl rfl (by decide) rfl rfl (pa_cons (pe_callB call_len_seq (by rfl) T.len_ PySem.boot_len (pa_cons (pe_ix ix_tup (pv 1) pe_int (fun _ _ => rfl)) pa_nil)) (pa_cons (pe_op op_sub (pe_own g__law_draw hr (by rfl) (pa_cons (pv 0) (pa_cons pe_int pa_nil))) pe_int) pa_nil)) (by rfl))
      (pss_cons (ps_par3 (i := 4) (j := 5) (l := 6) rfl sc__law_orders_right.nd rfl rfl rfl (by decide) (by decide) (by decide) rfl rfl rfl (pa_cons (pe_op op_pow pe_int pe_int) (pa_cons (pe_own g__law_phase hr (by rfl) (pa_cons (pv 0) (pa_cons (pe_op op_add (pv 2) pe_int) pa_nil))) (pa_cons (pe_own g__law_draw hr (by rfl) (pa_cons (pv 0) (pa_cons (pe_op op_add (pv 2) pe_int) pa_nil))) pa_nil))) (by rfl))
      (pss_cons (ps_par (i := 7) (j := 8) rfl sc__law_orders_right.nd rfl rfl (by decide) rfl rfl (pa_cons (pe_own g__law_draw hr (by rfl) (pa_cons (pv 0) (pa_cons (pv 2) pa_nil))) (pa_cons (pe_own g__law_draw hr (by rfl) (pa_cons (pv 0) (pa_cons (pv 2) pa_nil))) pa_nil)) (by rfl))
      (pss_cons (ps_set (i := 9) sc__law_orders_right.nd rfl (Or.inl rfl) (pe_lstS (pa_cons (pe_tupS (K := K) rfl (pa_cons (pe_own g_shifted hr (by rfl) (pa_cons (pe_own g_with_mark hr (by rfl) (pa_cons (pv 1) (pa_cons (pe_op op_sub (pv 4) pe_int) pa_nil))) (pa_cons (pv 3) pa_nil))) (pa_cons (pe_own g_with_mark hr (by rfl) (pa_cons (pe_own g_shifted hr (by rfl) (pa_cons (pv 1) (pa_cons (pv 3) pa_nil))) (pa_cons (pe_op op_add (pe_op op_sub (pv 4) pe_int) (pv 3)) pa_nil))) pa_nil))) pa_nil)))
      (pss_cons (ps_par (i := 10) (j := 11) rfl sc__law_orders_right.nd rfl rfl (by decide) rfl rfl (pa_cons (pe_wpK g_with_phase hr (by rfl) (pa_cons (pv 1) (pa_cons (pv 5) pa_nil)) (pk_cons (pv 6) pk_nil)) (pa_cons (pe_own g_with_mark hr (by rfl) (pa_cons (pv 1) (pa_cons (pv 4) pa_nil))) pa_nil)) (by rfl))
      (pss_cons (ps_expr (pe_bm PySem.F.plainAttrs_list PySem.F.slot_list_append PySem.F.type_list_append mt_append (pv 9) (pa_cons (pe_tupS (K := K) rfl (pa_cons (pe_own g_with_mark hr (by rfl) (pa_cons (pv 10) (pa_cons (pv 4) pa_nil))) (pa_cons (pe_wpK g_with_phase hr (by rfl) (pa_cons (pv 11) (pa_cons (pv 5) pa_nil)) (pk_cons (pv 6) pk_nil)) pa_nil))) pa_nil)))
      (pss_cons (ps_par (i := 10) (j := 11) rfl sc__law_orders_right.nd rfl rfl (by decide) rfl rfl (pa_cons (pe_own g_with_pair hr (by rfl) (pa_cons (pv 1) (pa_cons (pv 7) (pa_cons pe_str (pa_cons pe_str (pa_cons (pv 8) pa_nil)))))) (pa_cons (pe_own g_with_pair hr (by rfl) (pa_cons (pv 1) (pa_cons (pv 7) (pa_cons pe_str (pa_cons pe_str (pa_cons (pv 8) pa_nil)))))) pa_nil)) (by rfl))
      (pss_cons (ps_expr (pe_bm PySem.F.plainAttrs_list PySem.F.slot_list_append PySem.F.type_list_append mt_append (pv 9) (pa_cons (pe_tupS (K := K) rfl (pa_cons (pe_own g_with_pair hr (by rfl) (pa_cons (pv 10) (pa_cons (pv 7) (pa_cons pe_str (pa_cons pe_str (pa_cons (pv 8) pa_nil)))))) (pa_cons (pe_own g_with_pair hr (by rfl) (pa_cons (pv 11) (pa_cons (pv 7) (pa_cons pe_str (pa_cons pe_str (pa_cons (pv 8) pa_nil)))))) pa_nil))) pa_nil)))
      (pss_cons (ps_expr (pe_bm PySem.F.plainAttrs_list PySem.F.slot_list_append PySem.F.type_list_append mt_append (pv 9) (pa_cons (pe_tupS (K := K) rfl (pa_cons (pe_own g_shifted hr (by rfl) (pa_cons (pe_wpD g_with_phase hr (by rfl) (pa_cons (pv 1) (pa_cons (pv 5) pa_nil))) (pa_cons (pv 3) pa_nil))) (pa_cons (pe_wpD g_with_phase hr (by rfl) (pa_cons (pe_own g_shifted hr (by rfl) (pa_cons (pv 1) (pa_cons (pv 3) pa_nil))) (pa_cons (pv 5) pa_nil))) pa_nil))) pa_nil)))
      (pss_cons (ps_expr (pe_bm PySem.F.plainAttrs_list PySem.F.slot_list_append PySem.F.type_list_append mt_append (pv 9) (pa_cons (pe_tupS (K := K) rfl (pa_cons (pe_own g_shifted hr (by rfl) (pa_cons (pe_own g_shifted hr (by rfl) (pa_cons (pv 1) (pa_cons (pv 3) pa_nil))) (pa_cons pe_int pa_nil))) (pa_cons (pe_own g_shifted hr (by rfl) (pa_cons (pv 1) (pa_cons (pe_op op_add (pv 3) pe_int) pa_nil))) pa_nil))) pa_nil)))
      (pss_cons (ps_if (pt_cmpR op_gt (pv 2) pe_int (nomark _)) (pss_one (ps_expr (pe_bm PySem.F.plainAttrs_list PySem.F.slot_list_append PySem.F.type_list_append mt_append (pv 9) (pa_cons (pe_tupS (K := K) rfl (pa_cons (pe_own g_shifted hr (by rfl) (pa_cons (pe_own g_without_phase hr (by rfl) (pa_cons (pv 1) (pa_cons (pv 7) pa_nil))) (pa_cons (pv 3) pa_nil))) (pa_cons (pe_own g_without_phase hr (by rfl) (pa_cons (pe_own g_shifted hr (by rfl) (pa_cons (pv 1) (pa_cons (pv 3) pa_nil))) (pa_cons (pv 7) pa_nil))) pa_nil))) pa_nil)))) pss_nil)
      (pss_one (ps_ret (pe_cmpR (op_eqD hr.hu) (pe_lc (own := [("_law_one", 10), ("_law_other", 11)]) (g := (gTup K 2 (gCons (gName 10) (gCons (gName 11) gNil)))) (tt := _) rfl sc__law_orders_right.nd (pi_list (pv 9)) (blkOk_by (N := N__law_orders_right) (sc := defScope s__law_orders_right) (by decide +kernel)) (fun _ _ _ _ _ => (pg_tup rfl (pgs_cons (pg_name (i := 10) sc__law_orders_right.nd rfl (Or.inl rfl)) (pgs_cons (pg_name (i := 11) sc__law_orders_right.nd rfl (Or.inl rfl)) pgs_nil)))) (fun _ _ _ _ _ => (pts_one (pt_cmpR op_ne (pe_callB (call_reprD (K := K) rfl hr.g hr.un) (by rfl) T.repr_ (by decide +kernel) (pa_cons (pv 10) pa_nil)) (pe_callB (call_reprD (K := K) rfl hr.g hr.un) (by rfl) T.repr_ (by decide +kernel) (pa_cons (pv 11) pa_nil)) (nomark _)))) (fun _ _ _ _ _ => pe_int)) (pe_lstS pa_nil) (nomark _))))))))))))))), ?_⟩
  have hlen := hP.length
  have hzm : R.1.length ≤ 6 := hz.m
  have hzp : R.2.length ≤ 4 := hz.p
  have hpos := ok.pos
  have s4 := sm_small hz ok (by omega)
  have sm : Sm R := sm_of ok hz (by omega)
  have A0 := At.start hF hC
  refine ⟨_, rfl, a, _, 1, _, rfl, rfl, hS, rfl, cp, _, rfl, .inr hCp, ?_⟩
  refine ⟨_, rfl, f, c, n, 40, rfl, A0.fd, A0.cells, by omega, by omega, by omega, fun r H1 r0 r1 sb1 fd1 => ?_⟩
  have A1 := A0.call sb1 fd1
  obtain ⟨by_, hby⟩ : ∃ by_ : Int, by_ = r - 20 := ⟨_, rfl⟩
  refine ⟨_, _, rfl, rfl, _, .int by_, by rw [hby] <;> rfl, ?_⟩
  refine st_is [some (.ref f), some (.ref a), some (.int xs.length), some (.int by_), none, none, none, none, none, none, none, none] rfl ?_
  have hb20 : by_.natAbs ≤ 20 := by omega
  have hbb : by_.natAbs ≤ 2 * 10 ^ 58 := Nat.le_trans hb20 (by decide +kernel)
  refine ⟨_, _, rfl, rfl, ⟨by decide, by decide, by decide⟩, ?_⟩
  refine ⟨_, rfl, _, rfl, _, _, rfl, rfl, f, c, n + 1, R.2.length + 1, by rw [hlen] <;> rfl, A1.fd, A1.cells, by omega, by omega, by omega, fun u ph H2 sb2 fd2 hph okp => ?_⟩
  have A2 := A1.call sb2 fd2
  refine ⟨_, rfl, _, rfl, _, _, rfl, rfl, f, c, n + 7, ((R.2.length + 1 : Nat) : Int), by rw [hlen] <;> rfl, A2.fd.mono (by omega), A2.cells, by omega, by omega, by omega, fun sp_ H3 p0 p1 sb3 fd3 => ?_⟩
  have A3 := A2.call sb3 fd3
  obtain ⟨s, rfl⟩ : ∃ s : Nat, sp_ = s := ⟨sp_.toNat, by omega⟩
  have hs : s ≤ R.2.length := by omega
  obtain ⟨M, hMK⟩ : ∃ M : Int, M = 10 ^ 59 := ⟨_, rfl⟩
  obtain ⟨hB0, hB1, hB2, hB3⟩ := big_is hMK
  refine ⟨.int M, _, _, by rw [hMK] <;> rfl, ?_⟩
  refine st_is [some (.ref f), some (.ref a), some (.int xs.length), some (.int by_), some (.int M), some u, some (.int s), none, none, none, none, none] rfl ?_
  refine ⟨_, rfl, _, rfl, f, c, n + 8, ((R.2.length : Nat) : Int), by rw [hlen], A3.fd.mono (by omega), A3.cells, by omega, by omega, by omega, fun i_ H4 i0 i1 sb4 fd4 => ?_⟩
  have A4 := A3.call sb4 fd4
  obtain ⟨i, rfl⟩ : ∃ i : Nat, i_ = i := ⟨i_.toNat, by omega⟩
  have hi : i < R.2.length := by omega
  refine ⟨_, rfl, _, rfl, f, c, n + 9, ((R.2.length : Nat) : Int), by rw [hlen], A4.fd.mono (by omega), A4.cells, by omega, by omega, by omega, fun la H5 l0 l1 sb5 fd5 => ?_⟩
  have A5 := (A4.call sb5 fd5).mono (m := n + 10) (by omega)
  refine ⟨_, _, rfl, ?_⟩
  refine st_is [some (.ref f), some (.ref a), some (.int xs.length), some (.int by_), some (.int M), some u, some (.int s), some (.int i), some (.int la), none, none, none] rfl ?_
  have hph5 := hph.tk ((sb3.trans (sb4.trans sb5)).tk A2.fd.lst)
  clear hph
  -- a mark and a shift
  have hM1 : M - 100 ∉ R.1 := big_out hz hB1
  have hM0 : M ∉ R.1 := big_out hz hB0
  have hM2 : M - 100 + by_ ∉ (shiftR R by_).1 := fun h => by
    obtain ⟨y, hy, e⟩ := List.mem_map.mp h
    exact hM1 (by rwa [show M - 100 = y by omega])
  refine ⟨_, rfl, _, rfl, _, _, rfl, rfl, _, R, M - 100, rfl, hRul.tk A5.tk, sm, hM1, fun v6 H6 s6 h6 => ?_⟩
  have ok1 := ok.mark hM1
  have z1 : Sz 6 (wMark R (M - 100)) := (hz.mono (c' := 5) (by omega)).mark ok.ris hM1 hB3
  refine ⟨_, rfl, v6, _, by_, rfl, h6, sm_of ok1 z1 (by omega), fun v7 H7 s7 h7 => ?_⟩
  have A7 := (A5.same s6).same s7
  refine ⟨_, rfl, _, rfl, _, R, by_, rfl, hRul.tk A7.tk, sm, fun v8 H8 s8 h8 => ?_⟩
  have A8 := A7.same s8
  have okS := ok.shift by_
  have zS : Sz 1 (shiftR R by_) := hz.shift hbb
  refine ⟨_, rfl, _, _, rfl, rfl, _, rfl, _, _, rfl, rfl, v8, _, M - 100 + by_, rfl, h8, sm_of okS zS (by omega), hM2, fun v9 H9 s9 h9 => ?_⟩
  have A9 := A8.same s9
  refine ⟨sz (by simp), fun pA HA sA hpA => ?_⟩
  have AA := A9.same sA
  refine ⟨sz (by simp), fun l HB nB sB hlB => ?_⟩
  have t0 : Duo K f c l H HB (n + 10) 1 := ⟨AA.same sB, AA.new nB, [.ref pA], hlB, Nat.le_refl _, fun u hu => by
    rw [List.mem_singleton.mp hu]
    rw [← shift_mark] at h9
    have k7 := tk_same ((s8.trans s9).trans (sA.trans sB))
    exact ⟨pA, v7, v9, _, rfl, sqT_tk (tk_same sB) hpA, h7.tk k7, h9.tk (tk_same (sA.trans sB)), ok1.shift by_, (z1.shift hbb).mono (by omega)⟩⟩
  have hph := hph5.tk (tk_same (s6.trans (s7.trans (s8.trans (s9.trans (sA.trans sB))))))
  clear h6 h7 h8 h9 hpA hlB nB A7 A8 A9 AA hph5
  have hz2 := okp.len
  have hmv : ∀ p ∈ ph, p.1 ∈ moves ∧ 0 ≤ p.2 := fun p hp => ⟨okp.mv p hp, okp.lo p hp⟩
  have hhi : ∀ p ∈ ph, p.2 ≤ R.2.length := fun p hp => by have := okp.hi p hp; omega
  -- a mark and a phase
  refine ⟨_, rfl, _, rfl, _, rfl, rfl, rfl, _, u, _, R, ph, s, rfl, hRul.tk t0.at_.tk, sm, hph, hz2, hmv, hhi, .inr ⟨rfl, hs⟩, fun v6 H6 s6 h6 => ?_⟩
  have t6 := t0.same s6
  refine ⟨_, rfl, _, rfl, _, R, M, rfl, hRul.tk t6.at_.tk, sm, hM0, fun v7 H7 s7 h7 => ?_⟩
  have t7 := t6.same s7
  refine ⟨_, _, rfl, ?_⟩
  refine st_is [some (.ref f), some (.ref a), some (.int xs.length), some (.int by_), some (.int M), some u, some (.int s), some (.int i), some (.int la), some (.ref l), some v6, some v7] rfl ?_
  have ok0 := ok.mark hM0
  have z0 : Sz 6 (wMark R M) := (hz.mono (c' := 5) (by omega)).mark ok.ris hM0 hB2
  have okp1 := ok.phase hs okp
  have zp1 : Sz 1 (wPhase R ph s) := hz.phase hs
  obtain ⟨ys, hys, hyl, -⟩ := t7.ys
  refine ⟨_, rfl, .inl ⟨rfl, _, SqL.of hys⟩, ?_⟩
  refine ⟨_, rfl, _, rfl, v6, _, M, rfl, h6.tk (tk_same s7), sm_of okp1 zp1 (by omega), hM0, fun v8 H8 s8 h8 => ?_⟩
  refine ⟨_, rfl, _, rfl, _, rfl, rfl, rfl, v7, u, _, _, ph, s, rfl, h7.tk (tk_same s8), sm_of ok0 z0 (by omega), hph.tk (tk_same (s6.trans (s7.trans s8))), hz2, hmv, hhi, .inr ⟨rfl, hs⟩, fun v9 H9 s9 h9 => ?_⟩
  refine ⟨sz (by simp), fun pA HA sA hpA => ?_⟩
  rw [mark_phase] at h8
  have s7A := s8.trans (s9.trans sA)
  refine ⟨l, ys, _, rfl, rfl, s7A _ _ hys, szl (by omega), ?_⟩
  have t8 := (t7.same s7A).push (u := .ref pA) (s7A _ _ hys) ⟨pA, v8, v9, _, rfl, hpA, h8.tk (tk_same (s9.trans sA)), h9.tk (tk_same sA), ok0.phase (R := wMark R M) hs okp, (z0.phase (R := wMark R M) hs).mono (by omega)⟩
  have hph8 := hph.tk ((tk_same (s6.trans (s7.trans s7A))).trans (tk_upd (o := .lst (ys ++ [V.ref pA])) (.inr ⟨_, s7A _ _ hys⟩)))
  generalize upd HA l (.lst (ys ++ [V.ref pA])) = HC at t8 hph8 ⊢
  clear hph h6 h7 h8 h9 hpA t6 t7 hys hyl
  -- two pairs
  obtain ⟨own, e3⟩ : ∃ own, R.2[i]? = some own := ⟨_, List.getElem?_eq_getElem hi⟩
  have hol := (ok.ph own (List.mem_of_getElem? e3)).len
  have m1 : ("out" : Str) ∈ moves := by decide +kernel
  have m2 : ("next" : Str) ∈ moves := by decide +kernel
  have la1 : la < R.2.length := by omega
  refine ⟨_, rfl, _, rfl, _, rfl, _, R, i, 0, "near", "out", la, own, rfl, hRul.tk t8.at_.tk, sm, e3, hol, rfl, m1, l0, la1, fun v6 H6 s6 h6 => ?_⟩
  refine ⟨_, rfl, _, rfl, _, rfl, _, R, i, 2, "far", "next", la, own, rfl, hRul.tk (t8.same s6).at_.tk, sm, e3, hol, rfl, m2, l0, la1, fun v7 H7 s7 h7 => ?_⟩
  have t7 := (t8.same s6).same s7
  refine ⟨_, _, rfl, ?_⟩
  refine st_is [some (.ref f), some (.ref a), some (.int xs.length), some (.int by_), some (.int M), some u, some (.int s), some (.int i), some (.int la), some (.ref l), some v6, some v7] rfl ?_
  obtain ⟨ys, hys, hyl, -⟩ := t7.ys
  refine ⟨_, rfl, .inl ⟨rfl, _, SqL.of hys⟩, ?_⟩
  refine ⟨_, rfl, _, rfl, _, rfl, v6, _, i, 2, "far", "next", la, own.set 0 ("out", la), rfl, h6.tk (tk_same s7), sm_pair s4 i 0 _, getElem?_modify_self _ _ _ e3, by rw [List.length_set]; exact hol, rfl, m2, l0, by rw [length_wPair]; exact la1, fun v8 H8 s8 h8 => ?_⟩
  refine ⟨_, rfl, _, rfl, _, rfl, v7, _, i, 0, "near", "out", la, own.set 2 ("next", la), rfl, h7.tk (tk_same s8), sm_pair s4 i 2 _, getElem?_modify_self _ _ _ e3, by rw [List.length_set]; exact hol, rfl, m1, l0, by rw [length_wPair]; exact la1, fun v9 H9 s9 h9 => ?_⟩
  refine ⟨sz (by simp), fun pA HA sA hpA => ?_⟩
  rw [pair_comm R i (by decide)] at h8
  have s7A := s8.trans (s9.trans sA)
  refine ⟨l, ys, _, rfl, rfl, s7A _ _ hys, szl (by omega), ?_⟩
  have t9 := (t7.same s7A).push (u := .ref pA) (s7A _ _ hys) ⟨pA, v8, v9, _, rfl, hpA, h8.tk (tk_same (s9.trans sA)), h9.tk (tk_same sA), (ok.pair i 2 m2 l0 la1).pair i 0 m1 l0 (by rw [length_wPair]; exact la1), ((hz.pair i 2 _).pair i 0 _).mono (by omega)⟩
  have hph := hph8.tk ((tk_same (s6.trans (s7.trans s7A))).trans (tk_upd (o := .lst (ys ++ [V.ref pA])) (.inr ⟨_, s7A _ _ hys⟩)))
  generalize upd HA l (.lst (ys ++ [V.ref pA])) = HC at t9 hph ⊢
  clear hph8 h6 h7 h8 h9 hpA t7 hys hyl t8
  -- a phase at the end and a shift
  obtain ⟨ys, hys, hyl, -⟩ := t9.ys
  have okE := ok.phase (Nat.le_refl _) okp
  have zE : Sz 1 (wPhase R ph R.2.length) := hz.phase (Nat.le_refl _)
  refine ⟨_, rfl, .inl ⟨rfl, _, SqL.of hys⟩, ?_⟩
  refine ⟨_, rfl, _, rfl, _, u, _, R, ph, R.2.length, rfl, hRul.tk t9.at_.tk, sm, hph, hz2, hmv, hhi, .inl ⟨rfl, rfl⟩, fun v6 H6 s6 h6 => ?_⟩
  refine ⟨_, rfl, v6, _, by_, rfl, h6, sm_of okE zE (by omega), fun v7 H7 s7 h7 => ?_⟩
  refine ⟨_, rfl, _, rfl, _, R, by_, rfl, hRul.tk ((t9.same s6).same s7).at_.tk, sm, fun v8 H8 s8 h8 => ?_⟩
  have s68 := s6.trans (s7.trans s8)
  refine ⟨_, rfl, v8, u, _, shiftR R by_, ph, R.2.length, rfl, h8, sm_of okS zS (by omega), hph.tk (tk_same s68), hz2, hmv, hhi, .inl ⟨rfl, rfl⟩, fun v9 H9 s9 h9 => ?_⟩
  refine ⟨sz (by simp), fun pA HA sA hpA => ?_⟩
  rw [shift_phase] at h7
  have s7A := s68.trans (s9.trans sA)
  refine ⟨l, ys, _, rfl, rfl, s7A _ _ hys, szl (by omega), ?_⟩
  have tA := (t9.same s7A).push (u := .ref pA) (s7A _ _ hys) ⟨pA, v7, v9, _, rfl, hpA, h7.tk (tk_same (s8.trans (s9.trans sA))), h9.tk (tk_same sA), okE.shift by_, (zE.shift hbb).mono (by omega)⟩
  generalize upd HA l (.lst (ys ++ [V.ref pA])) = HC at tA ⊢
  clear hph h6 h7 h8 h9 hpA hys hyl t9
  -- two shifts
  obtain ⟨ys, hys, hyl, -⟩ := tA.ys
  have hb3 : (3 : Int).natAbs ≤ 2 * 10 ^ 58 := by decide +kernel
  refine ⟨_, rfl, .inl ⟨rfl, _, SqL.of hys⟩, ?_⟩
  refine ⟨_, rfl, _, rfl, _, R, by_, rfl, hRul.tk tA.at_.tk, sm, fun v6 H6 s6 h6 => ?_⟩
  refine ⟨v6, _, 3, rfl, h6, sm_of okS zS (by omega), fun v7 H7 s7 h7 => ?_⟩
  refine ⟨_, rfl, _, rfl, _, _, rfl, rfl, _, R, by_ + 3, rfl, hRul.tk ((tA.same s6).same s7).at_.tk, sm, fun v8 H8 s8 h8 => ?_⟩
  refine ⟨sz (by simp), fun pA HA sA hpA => ?_⟩
  rw [shift_shift] at h7
  have s7A := s6.trans (s7.trans (s8.trans sA))
  refine ⟨l, ys, _, rfl, rfl, s7A _ _ hys, szl (by omega), ?_⟩
  have tB := (tA.same s7A).push (u := .ref pA) (s7A _ _ hys) ⟨pA, v7, v8, _, rfl, hpA, h7.tk (tk_same (s8.trans sA)), h8.tk (tk_same sA), ok.shift _, (hz.shift (Nat.le_trans (show (by_ + 3).natAbs ≤ 23 by omega) (by decide +kernel))).mono (by omega)⟩
  generalize upd HA l (.lst (ys ++ [V.ref pA])) = HC at tB ⊢
  clear h6 h7 h8 hpA hys hyl tA
  refine ⟨_, rfl, _, _, rfl, rfl, _, rfl, ite2 (fun hk => ?caseA) (fun hk => ?caseB)⟩
  case' caseA =>
    have h1n : 1 < R.2.length := by have := of_decide_eq_true hk; omega
    obtain ⟨ys, hys, hyl, -⟩ := tB.ys
    have okW := ok.unphase hi h1n
    have zW : Sz 0 (woPhase R i) := hz.unphase hi
    refine ⟨_, rfl, .inl ⟨rfl, _, SqL.of hys⟩, ?_⟩
    refine ⟨_, rfl, _, rfl, _, R, i, rfl, hRul.tk tB.at_.tk, sm, hi, h1n, fun v6 H6 s6 h6 => ?_⟩
    refine ⟨_, rfl, v6, _, by_, rfl, h6, sm_of okW zW (by omega), fun v7 H7 s7 h7 => ?_⟩
    refine ⟨_, rfl, _, rfl, _, R, by_, rfl, hRul.tk ((tB.same s6).same s7).at_.tk, sm, fun v8 H8 s8 h8 => ?_⟩
    refine ⟨_, rfl, v8, _, i, rfl, h8, sm_of okS zS (by omega), hi, h1n, fun v9 H9 s9 h9 => ?_⟩
    refine ⟨sz (by simp), fun pA HA sA hpA => ?_⟩
    rw [shift_wo] at h7
    have s7A := s6.trans (s7.trans (s8.trans (s9.trans sA)))
    refine ⟨l, ys, _, rfl, rfl, s7A _ _ hys, szl (by omega), ?_⟩
    have tC := (tB.same s7A).push (u := .ref pA) (s7A _ _ hys) ⟨pA, v7, v9, _, rfl, hpA, h7.tk (tk_same (s8.trans (s9.trans sA))), h9.tk (tk_same sA), okW.shift by_, (zW.shift hbb).mono (by omega)⟩
    generalize upd HA l (.lst (ys ++ [V.ref pA])) = HD at tC ⊢
    clear h6 h7 h8 h9 hpA hys hyl tB
  case' caseB =>
    have tC : Duo K f c l H HC (n + 10) 6 := ⟨tB.at_, tB.nl, let ⟨ys, h1, h2, h3⟩ := tB.ys; ⟨ys, h1, by omega, h3⟩⟩
    clear tB
  all_goals
    obtain ⟨zs, hzs, hzl, hzR⟩ := tC.ys
    refine ⟨_, rfl, l, rfl, ⟨_, SqL.of hzs⟩, fun DQ hDQ => comp_sel walk_list hDQ (fun _ H' => Same _ H') (fun _ => false) (fun _ _ _ => True) (by omega) (fun H' s => s) (fun _ H' _ s => SqL.of (s _ _ hzs)) (fun _ _ _ _ hD s => same_upd s hD) (fun _ _ _ _ _ t => t) ?_ ?_⟩
    · rintro j z _ HQ C C' hj sQ ⟨rfl, eQ⟩ _ hC'
      obtain ⟨pz, u1, u2, Rz, rfl, hpz, hr1, hr2, okz, hzz⟩ := (hzR z (List.mem_of_getElem? eQ)).tk (tk_same sQ)
      obtain ⟨za, rfl, d1, d2, d3, d4, d5⟩ := repr_rul hr1 okz hzz (by omega)
      obtain ⟨zb, rfl, d6, _⟩ := repr_rul hr2 okz hzz (by omega)
      refine ⟨pz, _, rfl, hpz, rfl, _, _, rfl, _, _, rfl, rfl, rfl, ?_⟩
      refine ⟨_, rfl, za, _, rfl, d1, d2, d3, d4, d5, _, rfl, zb, _, rfl, d6, d2, d3, d4, d5, rfl, _, rfl, ?_⟩
      exact iteNS rfl (hC' _ rfl sQ (Tk.refl _) fun _ _ _ e => e)
    · intro HQ ys sQ hy hs
      rw [hs.none] at hy
      refine ⟨sz (by simp), fun pR HR nR sR hpR => ?_⟩
      refine ⟨.list [], .list [], .lst (SqL.of (sR _ _ hy)) .nil, .lst (SqL.of hpR) .nil, by decide +kernel, by decide +kernel, ?_⟩
      have tR := tC.at_.same (sQ.trans sR)
      exact q _ tR.sb (tR.fd.mono (by omega))
end EC
namespace EC
open PySem PySem.Spec PyProof.Rows L2
/-! ### a day of changes -/
variable {P : Program} {w : World} {K : PySem.W.Frag} {mg : Str → Option Value} {base : Heap} {aM aC : Addr}
def sp__law_day (K : PySem.W.Frag) : Pm := fun vs H Q => ∃ (f c : Addr) (n : Int) (v : V) (R : Rl Str), vs = [.ref f, v] ∧ FeedAt H f c n ∧ Cells K H c ∧ n ≤ 700000 ∧ Rul K H v R ∧ RlOk moves R ∧ Sz 0 R ∧
  ∀ H', SB f H H' → FeedAt H' f c (n + 1000) → Q (.bl true) H'
theorem gv {Q : VK} {v v2 : V} {H : Hp} (e : v = v2) (h : Q v2 H) : Q v H := by
  rw [e]
  exact h
theorem and_split {c : Bool} {U A B : Prop} (hB : B) (h : c = true → B → U) : if c = true then U else (if false = true then A else B) := by
  cases c
  · exact iteF (iteF hB)
  · exact iteT (h rfl hB)
theorem Sz.mark15 {R : Rl Str} {c : Nat} (h : Sz c R) {m : Int} (hr : Ris R.1) (hm : m ∉ R.1) (hb : m.natAbs ≤ 15) : Sz (c + 1) (wMark R m) :=
  h.mark hr hm (Nat.le_trans hb (Nat.le_trans (show 15 ≤ 1 * (2 * 10 ^ 58) by decide +kernel) (Nat.mul_le_mul_right _ (by omega))))
theorem ok__law_day (T : Txt K mg aM aC) (D : Df K mg "_law_day" s__law_day) (g__law_draw : Own P w K mg base 1 "_law_draw" ["_law_feed_here", "_law_size"] (sp__law_draw K))
    (g__law_phase : Own P w K mg base 3 "_law_phase" ["_law_feed_here", "_law_many"] (sp__law_phase K)) (g_with_mark : Own P w K mg base 2 "with_mark" ["rule", "mark"] (sp_with_mark K)) (g_without_mark : Own P w K mg base 2 "without_mark" ["rule", "mark"] (sp_without_mark K))
    (g_shifted : Own P w K mg base 2 "shifted" ["rule", "by"] (sp_shifted K)) (g_with_phase : OwnK P w K mg base 5 (sp_with_phase K)) (g_without_phase : Own P w K mg base 4 "without_phase" ["rule", "index"] (sp_without_phase K))
    (g__law_put : Own P w K mg base 1 "_law_put" ["_law_some", "_law_one"] (sp__law_put K)) (g__law_with_phase : Own P w K mg base 1 "_law_with_phase" ["_law_rule_here", "_law_phase_here", "_law_spot"] (sp__law_with_phase K))
    (g__law_without_phase : Own P w K mg base 2 "_law_without_phase" ["_law_rule_here", "_law_gone"] (sp__law_without_phase K)) (g_lets_rule : Own P w K mg base 6 "lets_rule" ["thing"] (sp_lets_rule K)) :
    Own P w K mg base 7 "_law_day" ["_law_feed_here", "_law_rule_here"] (sp__law_day K) := by
  refine own_mk D sc__law_day (fun _ _ _ _ _ _ us hl => match us, hl with | [_, _], _ => rfl) (fun vs H Q ⟨_, _, _, _, _, e, _⟩ => by rw [e] <;> rfl) fun f0 cdv A outer s H vs Q hr h => ?_
  obtain ⟨f, c, n, v, R, rfl, hF, hC, hn, hRul, ok, hz, q⟩ := h
  refine ⟨_, (pss_cons (ps_set (i := 2) sc__law_day.nd rfl (Or.inl rfl) (pv 1))
      (pss_cons (ps_for PassesOwn.never rfl (pi_range1 (by rfl) T.range_ (pa_cons pe_int pa_nil)) (pg_name (i := 3) sc__law_day.nd rfl (Or.inl rfl))
      (pss_cons (ps_par (i := 4) (j := 5) rfl sc__law_day.nd rfl rfl (by decide) rfl rfl (pa_cons (pe_own g__law_draw hr (by rfl) (pa_cons (pv 0) (pa_cons pe_int pa_nil))) (pa_cons (pe_callB call_len_seq (by rfl) T.len_ PySem.boot_len (pa_cons (pe_ix ix_tup (pv 2) pe_int (fun _ _ => rfl)) pa_nil)) pa_nil)) (by rfl))
      (pss_cons (ps_if (PW.pt (pw_and (pt_cmpR op_eq (pv 4) pe_int (nomark _)) (pw_and1 (pt_cmpR op_lt (pv 5) pe_int (nomark _))))) (pss_cons (ps_par (i := 6) (j := 7) rfl sc__law_day.nd rfl rfl (by decide) rfl rfl (pa_cons (pe_own g__law_phase hr (by rfl) (pa_cons (pv 0) (pa_cons (pe_op op_add (pv 5) pe_int) pa_nil))) (pa_cons (pe_own g__law_draw hr (by rfl) (pa_cons (pv 0) (pa_cons (pe_op op_add (pv 5) pe_int) pa_nil))) pa_nil)) (by rfl))
      (pss_one (ps_par (i := 1) (j := 2) rfl sc__law_day.nd rfl rfl (by decide) rfl rfl (pa_cons (pe_wpK g_with_phase hr (by rfl) (pa_cons (pv 1) (pa_cons (pv 6) pa_nil)) (pk_cons (pv 7) pk_nil)) (pa_cons (pe_own g__law_with_phase hr (by rfl) (pa_cons (pv 2) (pa_cons (pv 6) (pa_cons (pv 7) pa_nil)))) pa_nil)) (by rfl)))) (pss_one (ps_if (PW.pt (pw_and (pt_cmpR op_eq (pv 4) pe_int (nomark _)) (pw_and1 (pt_cmpR op_gt (pv 5) pe_int (nomark _))))) (pss_cons (ps_set (i := 8) sc__law_day.nd rfl (Or.inl rfl) (pe_own g__law_draw hr (by rfl) (pa_cons (pv 0) (pa_cons (pv 5) pa_nil))))
      (pss_one (ps_par (i := 1) (j := 2) rfl sc__law_day.nd rfl rfl (by decide) rfl rfl (pa_cons (pe_own g_without_phase hr (by rfl) (pa_cons (pv 1) (pa_cons (pv 8) pa_nil))) (pa_cons (pe_own g__law_without_phase hr (by rfl) (pa_cons (pv 2) (pa_cons (pv 8) pa_nil))) pa_nil)) (by rfl)))) (pss_one (ps_if (pt_cmpR op_eq (pv 4) pe_int (nomark _)) (pss_cons (ps_set (i := 9) sc__law_day.nd rfl (Or.inr rfl) (pe_op op_sub (pe_own g__law_draw hr (by rfl) (pa_cons (pv 0) (pa_cons pe_int pa_nil))) pe_int))
      (pss_one (ps_par (i := 1) (j := 2) rfl sc__law_day.nd rfl rfl (by decide) rfl rfl (pa_cons (pe_own g_shifted hr (by rfl) (pa_cons (pv 1) (pa_cons (pv 9) pa_nil))) (pa_cons (pe_tupS (K := K) rfl (pa_cons (pe_callTy call_tupL (by rfl) T.tuple_ (by decide +kernel) (pa_cons (pe_lc (own := [("_law_mark", 10)]) (g := (gName 10)) (tt := tYes) rfl sc__law_day.nd (pi_tup (pe_ix ix_tup (pv 2) pe_int (fun _ _ => rfl))) (blkOk_by (N := N__law_day) (sc := defScope s__law_day) (by decide +kernel)) (fun _ _ _ _ _ => (pg_name (i := 10) sc__law_day.nd rfl (Or.inl rfl))) (fun _ _ _ _ _ => pts_nil) (fun _ _ _ _ _ => (pe_op op_add (pv 10) (pv 9)))) pa_nil)) (pa_cons (pe_ix ix_tup (pv 2) pe_int (fun _ _ => rfl)) pa_nil))) pa_nil)) (by rfl)))) (pss_cons (ps_set (i := 10) sc__law_day.nd rfl (Or.inr rfl) (pe_op op_sub (pe_own g__law_draw hr (by rfl) (pa_cons (pv 0) (pa_cons pe_int pa_nil))) pe_int))
      (pss_one (ps_if (pt_cmpR op_in_seq (pv 10) (pe_ix ix_tup (pv 2) pe_int (fun _ _ => rfl)) (by rfl)) (pss_one (ps_par (i := 1) (j := 2) rfl sc__law_day.nd rfl rfl (by decide) rfl rfl (pa_cons (pe_own g_without_mark hr (by rfl) (pa_cons (pv 1) (pa_cons (pv 10) pa_nil))) (pa_cons (pe_tupS (K := K) rfl (pa_cons (pe_callTy call_tupL (by rfl) T.tuple_ (by decide +kernel) (pa_cons (pe_lc (own := [("_law_one", 11)]) (g := (gName 11)) (tt := _) rfl sc__law_day.nd (pi_tup (pe_ix ix_tup (pv 2) pe_int (fun _ _ => rfl))) (blkOk_by (N := N__law_day) (sc := defScope s__law_day) (by decide +kernel)) (fun _ _ _ _ _ => (pg_name (i := 11) sc__law_day.nd rfl (Or.inl rfl))) (fun _ _ _ _ _ => (pts_one (pt_cmpR op_ne (pv 11) (pv 10) (nomark _)))) (fun _ _ _ _ _ => (pv 11))) pa_nil)) (pa_cons (pe_ix ix_tup (pv 2) pe_int (fun _ _ => rfl)) pa_nil))) pa_nil)) (by rfl))) (pss_one (ps_par (i := 1) (j := 2) rfl sc__law_day.nd rfl rfl (by decide) rfl rfl (pa_cons (pe_own g_with_mark hr (by rfl) (pa_cons (pv 1) (pa_cons (pv 10) pa_nil))) (pa_cons (pe_tupS (K := K) rfl (pa_cons (pe_own g__law_put hr (by rfl) (pa_cons (pe_ix ix_tup (pv 2) pe_int (fun _ _ => rfl)) (pa_cons (pv 10) pa_nil))) (pa_cons (pe_ix ix_tup (pv 2) pe_int (fun _ _ => rfl)) pa_nil))) pa_nil)) (by rfl)))))))))))
      (pss_one (ps_if (PW.pt (pw_or (pt_cmpR op_ne (pe_callB (call_reprD (K := K) rfl hr.g hr.un) (by rfl) T.repr_ (by decide +kernel) (pa_cons (pv 1) pa_nil)) (pe_callB (call_reprD (K := K) rfl hr.g hr.un) (by rfl) T.repr_ (by decide +kernel) (pa_cons (pv 2) pa_nil)) (nomark _)) (pw_or1 (pt_cmpR op_ne (pe_own g_lets_rule hr (by rfl) (pa_cons (pv 1) pa_nil)) (pe_callB call_len_seq (by rfl) T.len_ PySem.boot_len (pa_cons (pe_ix ix_tup (pv 2) pe_int (fun _ _ => rfl)) pa_nil)) (nomark _))))) (pss_one (ps_ret pe_bl)) pss_nil)))))
      (pss_one (ps_ret pe_bl)))), ?_⟩
  have A0 := At.start hF hC
  refine ⟨v, rfl, ?_⟩
  refine ⟨6, rfl, by decide, by decide, ?_⟩
  refine for_range (lo := 0) (n := 6) (fun i σ H' => At K f c H H' (n + 20 * i) ∧ ∃ v1 v2 R s3 s4 s5 s6 s7 s8 s9 s10 s11, σ = [some (.ref f), some v1, some v2, s3, s4, s5, s6, s7, s8, s9, s10, s11] ∧ Rul K H' v1 R ∧ Rul K H' v2 R ∧ RlOk moves R ∧ Sz i R)
    ⟨A0.mono (by omega), v, v, R, none, none, none, none, none, none, none, none, none, rfl, hRul, hRul, ok, hz⟩ ?_ ?_
  · rintro i σ HC hi ⟨A1, v1, v2, R, s3, s4, s5, s6, s7, s8, s9, s10, s11, rfl, hr1, hr2, ok, hz⟩
    refine st_is [some (.ref f), some v1, some v2, some (.int (0 + (i : Nat))), s4, s5, s6, s7, s8, s9, s10, s11] rfl ?_
    obtain ⟨a2, x2, y2, rfl, hS2, ⟨b2, rfl, hM2⟩, ⟨cp2, xs2, rfl, hC2, hP2⟩⟩ := id hr2
    have hL2 : PhL K HC (.ref cp2) R.2 := ⟨cp2, xs2, rfl, hC2, hP2⟩
    have hL2 : PhL K HC (.ref cp2) R.2 := ⟨cp2, xs2, rfl, hC2, hP2⟩
    have hL2 : PhL K HC (.ref cp2) R.2 := ⟨cp2, xs2, rfl, hC2, hP2⟩
    have hL2 : PhL K HC (.ref cp2) R.2 := ⟨cp2, xs2, rfl, hC2, hP2⟩
    have hL2 : PhL K HC (.ref cp2) R.2 := ⟨cp2, xs2, rfl, hC2, hP2⟩
    have hlen := hP2.length
    have hzm := hz.m
    have hzp := hz.p
    have hpos := ok.pos
    have sm : Sm R := sm_of ok hz (by omega)
    refine ⟨_, rfl, f, c, n + 20 * i, 5, rfl, A1.fd, A1.cells, by omega, by omega, by omega, fun way H1 w0 w1 sb1 fd1 => ?_⟩
    have A2 := A1.call sb1 fd1
    have k1 := sb1.tk A1.fd.lst
    have hr1 := hr1.tk k1
    have hr2 := hr2.tk k1
    have hS2 := sqT_tk k1 hS2
    have hM2 := sqT_tk k1 hM2
    have hC2 := sqT_tk k1 hC2
    refine ⟨_, rfl, a2, _, 1, _, rfl, rfl, hS2, rfl, cp2, _, rfl, .inr hC2, _, .int ((R.2.length : Nat) : Int), by rw [hlen] <;> rfl, ?_⟩
    refine st_is [some (.ref f), some v1, some (.ref a2), some (.int (0 + (i : Nat))), some (.int way), some (.int ((R.2.length : Nat) : Int)), s6, s7, s8, s9, s10, s11] rfl ?_
    refine ⟨_, rfl, rfl, _, rfl, and_split ?eA fun h0 hB => ⟨_, rfl, _, _, rfl, rfl, _, rfl, ite2 (fun h1 => ?cA) (fun _ => hB)⟩⟩
    case' cA =>
      clear hB
      have h7 : R.2.length < 7 := by have := of_decide_eq_true h1; omega
      refine ⟨_, rfl, _, rfl, _, _, rfl, rfl, f, c, n + 20 * i + 1, R.2.length + 1, rfl, A2.fd, A2.cells, by omega, by omega, by omega, fun u ph H2 sb2 fd2 hph okp => ?_⟩
      have A3 := A2.call sb2 fd2
      refine ⟨_, rfl, _, rfl, _, _, rfl, rfl, f, c, n + 20 * i + 7, ((R.2.length + 1 : Nat) : Int), rfl, A3.fd.mono (by omega), A3.cells, by omega, by omega, by omega, fun sp_ H3 p0 p1 sb3 fd3 => ?_⟩
      have A4 := A3.call sb3 fd3
      obtain ⟨s, rfl⟩ : ∃ s : Nat, sp_ = s := ⟨sp_.toNat, by omega⟩
      have hs : s ≤ R.2.length := by omega
      refine ⟨_, _, rfl, ?_⟩
      refine st_is [some (.ref f), some v1, some (.ref a2), some (.int (0 + (i : Nat))), some (.int way), some (.int ((R.2.length : Nat) : Int)), some u, some (.int s), s8, s9, s10, s11] rfl ?_
      have k2 := (sb2.trans sb3).tk A2.fd.lst
      have hph3 := hph.tk (sb3.tk A3.fd.lst)
      refine ⟨_, rfl, _, rfl, _, rfl, rfl, rfl, v1, u, _, R, ph, s, rfl, hr1.tk k2, sm, hph3, okp.len, fun p hp => ⟨okp.mv p hp, okp.lo p hp⟩, fun p hp => by have := okp.hi p hp; omega, .inr ⟨rfl, hs⟩, fun w1 H6 s6_ h6 => ?_⟩
      refine ⟨_, rfl, _, rfl, _, rfl, _, u, R, ph, s, rfl, hr2.tk (k2.trans (tk_same s6_)), sm, hph3.tk (tk_same s6_), fun w2 H7 s7_ h7_ => ?_⟩
      refine ⟨_, _, rfl, ?_⟩
      refine st_is [some (.ref f), some w1, some w2, some (.int (0 + (i : Nat))), some (.int way), some (.int ((R.2.length : Nat) : Int)), some u, some (.int s), s8, s9, s10, s11] rfl ?_
      have AE := ((A4.same s6_).same s7_).mono (m := n + 20 * i + 15) (by omega)
      have e1 := h6.tk (tk_same s7_)
      have okE := ok.phase hs okp
      have zE : Sz (i + 1) (wPhase R ph s) := hz.phase hs
      generalize wPhase R ph s = RE at h6 h7_ e1 okE zE
      have e2 := h7_
      clear h6 h7_ hph hph3 A2 A3 A4 hr1 hr2 hM2 hC2 hS2
    case' eA =>
      refine ⟨_, rfl, rfl, _, rfl, and_split ?eB fun h0 hB => ⟨_, rfl, _, _, rfl, rfl, _, rfl, ite2 (fun h1 => ?cB) (fun _ => hB)⟩⟩
    case' cB =>
      clear hB
      have h1n : 1 < R.2.length := by have := of_decide_eq_true h1; omega
      refine ⟨_, rfl, _, rfl, f, c, n + 20 * i + 1, ((R.2.length : Nat) : Int), rfl, A2.fd, A2.cells, by omega, by omega, by omega, fun g_ H3 p0 p1 sb3 fd3 => ?_⟩
      have A4 := A2.call sb3 fd3
      obtain ⟨g, rfl⟩ : ∃ g : Nat, g_ = g := ⟨g_.toNat, by omega⟩
      have hg : g < R.2.length := by omega
      have k2 := sb3.tk A2.fd.lst
      refine ⟨_, rfl, _, rfl, v1, R, g, rfl, hr1.tk k2, sm, hg, h1n, fun w1 H6 s6_ h6 => ?_⟩
      refine ⟨_, rfl, _, rfl, _, R, g, rfl, hr2.tk (k2.trans (tk_same s6_)), sm, fun w2 H7 s7_ h7_ => ?_⟩
      refine ⟨_, _, rfl, ?_⟩
      refine st_is [some (.ref f), some w1, some w2, some (.int (0 + (i : Nat))), some (.int way), some (.int ((R.2.length : Nat) : Int)), s6, s7, some (.int g), s9, s10, s11] rfl ?_
      have AE := ((A4.same s6_).same s7_).mono (m := n + 20 * i + 15) (by omega)
      have e1 := h6.tk (tk_same s7_)
      have okE := ok.unphase hg h1n
      have zE : Sz (i + 1) (woPhase R g) := (hz.unphase hg).mono (by omega)
      generalize woPhase R g = RE at h6 h7_ e1 okE zE
      have e2 := h7_
      clear h6 h7_ A2 A4 hr1 hr2 hM2 hC2 hS2
    case' eB =>
      refine ⟨_, rfl, rfl, _, rfl, ite2 (fun h0 => ?cC) (fun h0 => ?cD)⟩
    case' cC =>
      refine ⟨_, rfl, f, c, n + 20 * i + 1, 9, rfl, A2.fd, A2.cells, by omega, by omega, by omega, fun b_ H3 p0 p1 sb3 fd3 => ?_⟩
      have A4 := A2.call sb3 fd3
      have hbb : (b_ - 4).natAbs ≤ 2 * 10 ^ 58 := Nat.le_trans (show (b_ - 4).natAbs ≤ 5 by omega) (by decide +kernel)
      refine ⟨_, _, rfl, rfl, ?_⟩
      have k2 := sb3.tk A2.fd.lst
      refine ⟨_, rfl, _, rfl, v1, R, (b_ - 4), rfl, hr1.tk k2, sm, fun w1 H6 s6_ h6 => ?_⟩
      have k3 := k2.trans (tk_same s6_)
      refine ⟨_, rfl, a2, _, 0, _, rfl, rfl, sqT_tk k3 hS2, rfl, b2, rfl, ⟨_, sqT_tk k3 hM2⟩, fun DD hDD => comp_ints hDD (sqT_tk k3 hM2) (by omega) (fun _ => true) (fun x => x + (b_ - 4)) ?_ fun H7 s7_ hy7 => ?_⟩
      · intro m H5 C C' hm s5' hC' _
        exact ⟨rfl, _, rfl, _, rfl, _, _, rfl, rfl, hC' rfl⟩
      rw [List.filter_eq_self.mpr fun _ _ => rfl] at hy7
      refine ⟨DD, _, rfl, SqL.of hy7, fun pM H8 s8_ hpM => ?_⟩
      have k5 := k3.trans (tk_same (s7_.trans s8_))
      refine ⟨_, rfl, a2, _, 1, _, rfl, rfl, sqT_tk k5 hS2, rfl, sz (by simp), fun w2 H9 s9_ hw2 => ?_⟩
      refine ⟨_, _, rfl, ?_⟩
      refine st_is [some (.ref f), some w1, some (.ref w2), some (.int (0 + (i : Nat))), some (.int way), some (.int ((R.2.length : Nat) : Int)), s6, s7, s8, some (.int (b_ - 4)), s10, s11] rfl ?_
      have AE := ((A4.same s6_).same (s7_.trans (s8_.trans s9_))).mono (m := n + 20 * i + 15) (by omega)
      have e1 := h6.tk (tk_same (s7_.trans (s8_.trans s9_)))
      have okE := ok.shift (b_ - 4)
      have zE : Sz (i + 1) (shiftR R (b_ - 4)) := hz.shift hbb
      have e2 : Rul K H9 (.ref w2) (shiftR R (b_ - 4)) := ⟨w2, _, _, rfl, hw2, ⟨pM, rfl, sqT_tk (tk_same s9_) hpM⟩, hL2.tk (k1.trans (k5.trans (tk_same s9_)))⟩
      generalize shiftR R (b_ - 4) = RE at h6 e1 okE zE e2
      generalize V.ref w2 = w2 at e2 ⊢
      clear h6 A2 A4 hr1 hr2 hM2 hC2 hS2 hy7
    case' cD =>
      refine ⟨_, rfl, f, c, n + 20 * i + 1, 30, rfl, A2.fd, A2.cells, by omega, by omega, by omega, fun b_ H3 p0 p1 sb3 fd3 => ?_⟩
      have A4 := A2.call sb3 fd3
      have hbb : (b_ - 15).natAbs ≤ 15 := by omega
      have k2 := sb3.tk A2.fd.lst
      refine ⟨_, _, rfl, rfl, ?_⟩
      refine ⟨_, rfl, _, rfl, a2, _, 0, _, rfl, rfl, sqT_tk k2 hS2, rfl, b2, _, rfl, .inr (sqT_tk k2 hM2), rfl, flat_int _, _, rfl, ite2 (fun hk => ?cX) (fun hk => ?cY)⟩
    case' cX =>
      have hm : b_ - 15 ∈ R.1 := by
        have hk : inV (.int (b_ - 15)) (R.1.map V.int) = true := hk
        rw [inV_int] at hk
        simpa using hk
      refine ⟨_, rfl, _, rfl, v1, R, b_ - 15, rfl, hr1.tk k2, sm, hm, fun w1 H6 s6_ h6 => ?_⟩
      have k3 := k2.trans (tk_same s6_)
      refine ⟨_, rfl, a2, _, 0, _, rfl, rfl, sqT_tk k3 hS2, rfl, b2, rfl, ⟨_, sqT_tk k3 hM2⟩, fun DD hDD => comp_ints hDD (sqT_tk k3 hM2) (by omega) (fun x => decide (x ≠ b_ - 15)) id ?_ fun H7 s7_ hy7 => ?_⟩
      · intro m H5 C C' hm s5' hC hC'
        refine ⟨rfl, _, rfl, _, rfl, rfl, _, rfl, ?_⟩
        by_cases hk : m = b_ - 15
        · exact iteNS (by rw [hk] <;> rfl) (hC' (by simpa using hk))
        · have e : decide (V.int m = V.int (b_ - 15)) = false := decide_eq_false fun z => hk (V.int.inj z)
          have e : (!decide (V.int m = V.int (b_ - 15))) = true := by rw [e] <;> rfl
          exact (if_pos e).mpr ⟨_, rfl, hC (by simpa using hk)⟩
      refine ⟨DD, _, rfl, SqL.of hy7, fun pM H8 s8_ hpM => ?_⟩
      have k5 := k3.trans (tk_same (s7_.trans s8_))
      refine ⟨_, rfl, a2, _, 1, _, rfl, rfl, sqT_tk k5 hS2, rfl, sz (by simp), fun w2 H9 s9_ hw2 => ?_⟩
      refine ⟨_, _, rfl, ?_⟩
      refine st_is [some (.ref f), some w1, some (.ref w2), some (.int (0 + (i : Nat))), some (.int way), some (.int ((R.2.length : Nat) : Int)), s6, s7, s8, s9, some (.int (b_ - 15)), s11] rfl ?_
      have AE := ((A4.same s6_).same (s7_.trans (s8_.trans s9_))).mono (m := n + 20 * i + 15) (by omega)
      have e1 := h6.tk (tk_same (s7_.trans (s8_.trans s9_)))
      have okE := ok.unmark (b_ - 15)
      have zE : Sz (i + 1) (woMark R (b_ - 15)) := (hz.unmark _).mono (by omega)
      rw [List.map_id] at hpM
      have e2 : Rul K H9 (.ref w2) (woMark R (b_ - 15)) := ⟨w2, _, _, rfl, hw2, ⟨pM, rfl, sqT_tk (tk_same s9_) hpM⟩, hL2.tk (k1.trans (k5.trans (tk_same s9_)))⟩
      generalize woMark R (b_ - 15) = RE at h6 e1 okE zE e2
      generalize V.ref w2 = w2 at e2 ⊢
      clear h6 A2 A4 hr1 hr2 hM2 hC2 hS2 hy7
    case' cY =>
      have hm : b_ - 15 ∉ R.1 := by
        have hk : ¬ inV (.int (b_ - 15)) (R.1.map V.int) = true := hk
        rw [inV_int] at hk
        simpa using hk
      refine ⟨_, rfl, _, rfl, v1, R, b_ - 15, rfl, hr1.tk k2, sm, hm, fun w1 H6 s6_ h6 => ?_⟩
      have k3 := k2.trans (tk_same s6_)
      refine ⟨_, rfl, a2, _, 0, _, rfl, rfl, sqT_tk k3 hS2, rfl, _, rfl, .ref b2, R.1, b_ - 15, rfl, ⟨b2, rfl, sqT_tk k3 hM2⟩, by omega, ok.ris, hm, fun pM H8 s8_ hpM => ?_⟩
      have k5 := k3.trans (tk_same s8_)
      refine ⟨_, rfl, a2, _, 1, _, rfl, rfl, sqT_tk k5 hS2, rfl, sz (by simp), fun w2 H9 s9_ hw2 => ?_⟩
      refine ⟨_, _, rfl, ?_⟩
      refine st_is [some (.ref f), some w1, some (.ref w2), some (.int (0 + (i : Nat))), some (.int way), some (.int ((R.2.length : Nat) : Int)), s6, s7, s8, s9, some (.int (b_ - 15)), s11] rfl ?_
      have AE := ((A4.same s6_).same (s8_.trans s9_)).mono (m := n + 20 * i + 15) (by omega)
      have e1 := h6.tk (tk_same (s8_.trans s9_))
      have okE := ok.mark hm
      have zE : Sz (i + 1) (wMark R (b_ - 15)) := hz.mark15 ok.ris hm hbb
      have e2 : Rul K H9 (.ref w2) (wMark R (b_ - 15)) := ⟨w2, _, _, rfl, hw2, hpM.tk (tk_same s9_), hL2.tk (k1.trans (k5.trans (tk_same s9_)))⟩
      generalize wMark R (b_ - 15) = RE at h6 e1 okE zE e2
      generalize V.ref w2 = w2 at e2 ⊢
      clear h6 A2 A4 hr1 hr2 hM2 hC2 hS2
    all_goals
      obtain ⟨a3, x3, y3, rfl, hS3, -, ⟨cp3, xs3, rfl, hC3, hP3⟩⟩ := id e2
      obtain ⟨za, rfl, d1, d2, d3, d4, d5⟩ := repr_rul e1 okE zE (by omega)
      obtain ⟨zb, ezb, d6, _⟩ := repr_rul e2 okE zE (by omega)
      cases ezb
      refine ⟨_, rfl, za, _, rfl, d1, d2, d3, d4, d5, _, rfl, a3, _, rfl, d6, d2, d3, d4, d5, rfl, _, rfl, iteNS rfl ?_⟩
      refine ⟨_, rfl, _, _, rfl, e1, okE, fun HZ sZ => ?_⟩
      refine ⟨_, rfl, a3, _, 1, _, rfl, rfl, sqT_tk (tk_same sZ) hS3, rfl, cp3, _, rfl, .inr (sqT_tk (tk_same sZ) hC3), rfl, _, rfl, iteNS (by rw [hP3.length]) ?_⟩
      exact ⟨(AE.same sZ).mono (by rw [Int.natCast_add]; omega), _, _, RE, _, _, _, _, _, _, _, _, _, rfl, e1.tk (tk_same sZ), e2.tk (tk_same sZ), okE, zE⟩
  · rintro σ HD ⟨A1, v1, v2, R, s3, s4, s5, s6, s7, s8, s9, s10, s11, rfl, -⟩
    exact q _ A1.sb (A1.fd.mono (by omega))
end EC
namespace EC
open PySem PySem.Spec PyProof.Rows L2
/-! ### the law -/
variable {P : Program} {w : World} {K : PySem.W.Frag} {mg : Str → Option Value} {base : Heap} {aM aC : Addr}
def sp_law (K : PySem.W.Frag) : Pm := fun vs H Q => ∃ (a : Addr) (ns : List Int), vs = [.ref a] ∧ SqL K H a (ns.map V.int) ∧ ∀ H', Q (.bl true) H'
theorem ok_law (T : Txt K mg aM aC) (D : Df K mg "law" s_law) (g__law_feed : Own P w K mg base 1 "_law_feed" ["_law_script"] (sp__law_feed K)) (g__law_rule : Own P w K mg base 4 "_law_rule" ["_law_feed_here"] (sp__law_rule K))
    (g__law_back_right : Own P w K mg base 6 "_law_back_right" ["_law_feed_here", "_law_rule_here"] (sp__law_back_right K)) (g__law_orders_right : Own P w K mg base 6 "_law_orders_right" ["_law_feed_here", "_law_rule_here"] (sp__law_orders_right K))
    (g__law_day : Own P w K mg base 7 "_law_day" ["_law_feed_here", "_law_rule_here"] (sp__law_day K)) : Own P w K mg base 8 "law" ["_law_script"] (sp_law K) := by
  refine own_mk D sc_law (fun _ _ _ _ _ _ us hl => match us, hl with | [_], _ => rfl) (fun vs H Q ⟨_, _, e, _⟩ => by rw [e] <;> rfl) fun f0 cdv A outer s H vs Q hr h => ?_
  obtain ⟨a, ns, rfl, hS, q⟩ := h
  refine ⟨_, (pss_cons (ps_set (i := 1) sc_law.nd rfl (Or.inl rfl) (pe_own g__law_feed hr (by rfl) (pa_cons (pv 0) pa_nil)))
      (pss_cons (ps_for PassesOwn.never rfl (pi_range1 (by rfl) T.range_ (pa_cons pe_int pa_nil)) (pg_name (i := 2) sc_law.nd rfl (Or.inl rfl))
      (pss_cons (ps_set (i := 3) sc_law.nd rfl (Or.inl rfl) (pe_own g__law_rule hr (by rfl) (pa_cons (pv 1) pa_nil)))
      (pss_cons (ps_set (i := 4) sc_law.nd rfl (Or.inl rfl) (pe_callB (call_reprD (K := K) rfl hr.g hr.un) (by rfl) T.repr_ (by decide +kernel) (pa_cons (pv 3) pa_nil)))
      (pss_cons (ps_if (PW.pt (pw_or (pt_not (pt_val (pe_own g__law_back_right hr (by rfl) (pa_cons (pv 1) (pa_cons (pv 3) pa_nil))))) (pw_or (pt_not (pt_val (pe_own g__law_orders_right hr (by rfl) (pa_cons (pv 1) (pa_cons (pv 3) pa_nil))))) (pw_or1 (pt_not (pt_val (pe_own g__law_day hr (by rfl) (pa_cons (pv 1) (pa_cons (pv 3) pa_nil))))))))) (pss_one (ps_ret pe_bl)) pss_nil)
      (pss_one (ps_if (pt_cmpR op_ne (pe_callB (call_reprD (K := K) rfl hr.g hr.un) (by rfl) T.repr_ (by decide +kernel) (pa_cons (pv 3) pa_nil)) (pv 4) (nomark _)) (pss_one (ps_ret pe_bl)) pss_nil))))))
      (pss_one (ps_ret pe_bl)))), ?_⟩
  refine ⟨_, rfl, a, ns, rfl, hS, fun f c H1 s1 hF hC => ?_⟩
  have A0 := At.start hF hC
  refine ⟨3, rfl, by decide, by decide, ?_⟩
  refine for_range (lo := 0) (n := 3) (fun i σ H' => At K f c H1 H' (3000 * i) ∧ ∃ s2 s3 s4, σ = [some (.ref a), some (.ref f), s2, s3, s4])
    ⟨A0.mono (by omega), none, none, none, rfl⟩ ?_ ?_
  · rintro i σ HC hi ⟨A1, s2, s3, s4, rfl⟩
    refine st_is [some (.ref a), some (.ref f), some (.int (0 + (i : Nat))), s3, s4] rfl ?_
    refine ⟨_, rfl, f, c, 3000 * i, rfl, A1.fd, A1.cells, by omega, fun v R H2 sb2 fd2 hR ok hz => ?_⟩
    have A2 := A1.call sb2 fd2
    obtain ⟨ra, rfl, d1, d2, d3, d4, d5⟩ := repr_rul hR ok hz (by omega)
    refine ⟨_, rfl, ra, _, rfl, d1, d2, d3, d4, d5, ?_⟩
    refine ⟨_, rfl, _, rfl, f, c, 3000 * i + 50, .ref ra, R, rfl, A2.fd, A2.cells, by omega, hR, ok, hz, fun H3 sb3 fd3 => ?_⟩
    have A3 := A2.call sb3 fd3
    have R3 := hR.tk (sb3.tk A2.fd.lst)
    refine ⟨true, rfl, iteF ?_⟩
    refine ⟨_, rfl, _, rfl, f, c, 3000 * i + 50 + 1000, .ref ra, R, rfl, A3.fd, A3.cells, by omega, R3, ok, hz, fun H4 sb4 fd4 => ?_⟩
    have A4 := A3.call sb4 fd4
    have R4 := R3.tk (sb4.tk A3.fd.lst)
    refine ⟨true, rfl, iteF ?_⟩
    refine ⟨_, rfl, _, rfl, f, c, 3000 * i + 50 + 1000 + 100, .ref ra, R, rfl, A4.fd, A4.cells, by omega, R4, ok, hz, fun H5 sb5 fd5 => ?_⟩
    have A5 := A4.call sb5 fd5
    have R5 := R4.tk (sb5.tk A4.fd.lst)
    refine ⟨true, rfl, iteF ?_⟩
    obtain ⟨rb, erb, d6, -⟩ := repr_rul R5 ok hz (by omega)
    cases erb
    refine ⟨_, rfl, ra, _, rfl, d6, d2, d3, d4, d5, _, rfl, rfl, _, rfl, iteNS rfl ?_⟩
    exact ⟨A5.mono (by rw [Int.natCast_add]; omega), _, _, _, rfl⟩
  · rintro σ HD ⟨A1, s2, s3, s4, rfl⟩
    exact q _
end EC
namespace EC
open PySem PySem.Spec PyProof.Rows L2
/-! ### the call behind the top -/
section
variable {P : Program} {w : World} {K : PySem.W.Frag} {mg mb : Str → Option Value} {k : Nat} {fa a : Addr} {x : Str} {sp : Pm} {s1 : Shared} {vs : List Value} {ns : List Int}
/-- the call, where H tells the script at most -/
theorem call_at {H : Hp} (KX : K.In s1.heap) (hns : s1.heap.Ns mainGlobals mg) (hb : s1.heap.Ns builtinsNs mb) (hbb : ∀ x : Str, x ≠ "__name__" → mb x = bootBuiltins x) (hlim : s1.heap.NoLimit) (hg : s1.gens = #[])
    (ha : s1.heap.get? a = some { cls := .type "list", data := .seq vs.toArray }) (one : ∀ b u, H b = some u → b = a ∧ K.lookup a = none ∧ ∃ o y, u = .frz o y) (hok : HOk P w H s1.heap) (hr : Rm k callerA)
    (F : ∀ base : Heap, K.In base → base.Ns mainGlobals mg → ∃ fd, BindsTo s1 fd ⟨[.ref a], []⟩ [(x, .ref a)] ∧ Runs P w K mg base k fa fd [x] sp) (hsp : sp [.ref a] H fun v _ => v = .bl true) :
    codeAny (model P w) callerA (.call (.ref fa) ⟨[.ref a], []⟩) (fun r s' => r = .ok (.ret (.bool true)) ∧ OldK s1.heap s'.heap ∧ s'.os = s1.os ∧ AllBare s'.gens) s1 := by
  have clear_ : ∀ b, (b = a → K.lookup a ≠ none) → H b = none := fun b n => by
    cases e : H b with
    | none => rfl
    | some u =>
      obtain ⟨e1, e2, _⟩ := one b u e
      exact absurd e2 (n e1)
  have dicts : ∀ {b : Addr} {m : Str → Option Value}, s1.heap.Ns b m → (hidT s1.heap H).Ns b m := fun {b m} h => by
    obtain ⟨o, es, ep, e, d, r⟩ := h
    have n : b ≠ a := fun z => by
      rw [z, ha] at e
      rw [← Option.some.inj e] at d
      exact nomatch (show Data.seq vs.toArray _ = Data.dict es ep from d)
    exact ⟨o, es, ep, hidT_get e (clear_ b fun z => absurd z n), d, r⟩
  have KB : K.In (hidT s1.heap H) := fun b o e => hidT_get (KX b o e) (clear_ b fun z => by rw [← z, e]; exact nofun)
  have M : Mod K mg (hidT s1.heap H) := ⟨KB, dicts hns, ⟨mb, dicts hb, hbb⟩, by
    obtain ⟨m, h1, h2⟩ := hlim
    exact ⟨m, dicts h1, h2⟩⟩
  have e0 : Env0 P w K mg (hidT s1.heap H) callerA [] s1 H := ⟨rfl, M, fun b o e => of_hidT e, Nat.le_of_eq (hidT_size _ _), trivial, fun b q => absurd q (List.not_mem_nil (a := b)), hok, .of_eq hg⟩
  obtain ⟨fd, hbind, hF⟩ := F _ KB (dicts hns)
  refine codeAny_mono (hF.2 callerA [] s1 H ⟨[.ref a], []⟩ [.ref a] [.ref a] _ hr e0 hbind (.cons rfl .nil) hsp) fun r s' h => ?_
  cases r with
  | error e => exact False.elim h
  | ok fl =>
    cases fl with
    | next => exact False.elim h
    | brk => exact False.elim h
    | cont => exact False.elim h
    | ret u =>
      obtain ⟨v, H', os, bare, un, hok', rv, q⟩ := h
      have q : v = .bl true := q
      subst q
      obtain rfl : u = Value.bool true := rv
      refine ⟨rfl, OldK.of_keep fun b o e => ?_, os, bare⟩
      cases q : H b with
      | none => exact un.keep b o e q nofun nofun
      | some u =>
        obtain ⟨_, _, o2, y, rfl⟩ := one b u q
        have g1 := (hok b _ q).1
        have g2 := (hok' b _ (un.frzs b o2 _ q)).1
        rw [e] at g1
        rw [g2, ← Option.some.inj g1]
/-- the call from the heap behind the top -/
theorem call_top (KX : K.In s1.heap) (hns : s1.heap.Ns mainGlobals mg) (hb : s1.heap.Ns builtinsNs mb) (hbb : ∀ x : Str, x ≠ "__name__" → mb x = bootBuiltins x) (hlim : s1.heap.NoLimit) (hg : s1.gens = #[])
    (ha : s1.heap.get? a = some { cls := .type "list", data := .seq vs.toArray }) (hi : IntsAre vs ns) (hl : ns.length ≤ sizeLine) (hr : Rm k callerA)
    (F : ∀ base : Heap, K.In base → base.Ns mainGlobals mg → ∃ fd, BindsTo s1 fd ⟨[.ref a], []⟩ [(x, .ref a)] ∧ Runs P w K mg base k fa fd [x] sp)
    (hsp : ∀ H : Hp, SqL K H a (ns.map V.int) → sp [.ref a] H fun v _ => v = .bl true) :
    codeAny (model P w) callerA (.call (.ref fa) ⟨[.ref a], []⟩) (fun r s' => r = .ok (.ret (.bool true)) ∧ OldK s1.heap s'.heap ∧ s'.os = s1.os ∧ AllBare s'.gens) s1 := by
  have rv := vals_ints hi
  have lv := hi.length
  by_cases hk : K.lookup a = none
  · have at_a : ∀ b u, upd (fun _ => none) a (.frz { cls := .type "list", data := .seq vs.toArray } (.lst (ns.map V.int))) b = some u → b = a ∧ u = .frz { cls := .type "list", data := .seq vs.toArray } (.lst (ns.map V.int)) := fun b u z => by
      by_cases e : b = a
      · subst e
        rw [upd_same] at z
        exact ⟨rfl, (Option.some.inj z).symm⟩
      · rw [upd_ne e] at z
        cases z
    refine call_at (H := upd (fun _ => none) a (.frz { cls := .type "list", data := .seq vs.toArray } (.lst (ns.map V.int)))) KX hns hb hbb hlim hg ha (fun b u z => ?_) (fun b u z => ?_) hr F (hsp _ (.inl (.inr ⟨_, upd_same⟩)))
    · obtain ⟨e1, e2⟩ := at_a b u z
      exact ⟨e1, hk, _, _, e2⟩
    · obtain ⟨rfl, rfl⟩ := at_a b u z
      exact ⟨ha, by rw [List.length_map]; exact hl, vs, _, rv, ha⟩
  · obtain ⟨o, e⟩ := Option.ne_none_iff_exists'.mp hk
    have e2 := KX a o e
    rw [ha] at e2
    cases e2
    exact call_at (H := fun _ => none) KX hns hb hbb hlim hg ha nofun nofun hr F (hsp _ (.inr ⟨_, vs.toArray, _, e, rfl, rfl, rfl, by rw [List.size_toArray, lv]; exact hl, by simpa using rv⟩))
end
/-- the law's end -/
theorem walk_own {l : PySem.W.OpenLaw} {n k : Nat} {q : Program} {loose : List Str} {XP : (Str → Option Value) → Heap → Prop} {YP : World → Heap → Prop} {d : DefRec} {x : Str} (hn : l.most = some n) (hn2 : n ≤ sizeLine) (hdf : d.params.defaults = []) (hr : Rm k callerA)
    (F : ∀ (w : World) (mg : Str → Option Value) (h : Heap), YP w h → h.Ns mainGlobals mg → ∃ (K : PySem.W.Frag) (sp : Pm), K.In h ∧ (∀ (H : Hp) (a : Addr) (ns : List Int), SqL K H a (ns.map V.int) → sp [.ref a] H fun v _ => v = .bl true) ∧
      ∀ base : Heap, K.In base → base.Ns mainGlobals mg → Own l.prog w K mg base k d.name [x] sp) : PySem.W.WalkO q loose XP YP l.row.toRowW d [] (fun f vs => PySem.call f vs) := by
  refine Att.attach_call hn hdf fun w s₀ s₁ mg mb fa o pm cd doc a vs ns G Y ho hd hcd hmg hobj hints hlen hg => ?_
  obtain ⟨K, sp, KX, hsp, hF⟩ := F w mg _ Y G.T.g
  refine call_top (x := x) KX G.T.g G.T.b G.T.builtins G.T.nolimit hg hobj hints (Nat.le_trans hlen hn2) hr (fun base KB NB => ?_) fun H hS => hsp H a ns hS
  obtain ⟨f, fd, hm, _, hb, hR⟩ := (hF base KB NB).ex
  have e := hm.symm.trans hmg
  cases e
  exact ⟨fd, hb _ [.ref a] KX rfl, hR⟩
end EC
namespace EC
open PySem PySem.Spec PyProof.Rows L2
/-! ### the head: facts by names, the run -/
abbrev dd (x : Str) (st : Stmt) (kw : List (Str × He.Dv)) : He.DefD := ⟨(x, none), x, x, defArgs st, defBody st, defScope st, [], kw⟩
def fns1 : List He.DefD := [dd "is_integer" s_is_integer [], dd "is_number" s_is_number [], dd "is_tuple_of" s_is_tuple_of [], dd "first_wrong_mark" s_first_wrong_mark [], dd "is_marks" s_is_marks [], dd "is_move" s_is_move [], dd "is_case_pair" s_is_case_pair [], dd "phase_fault" s_phase_fault [], dd "rule_fault" s_rule_fault [], dd "want" s_want [], dd "is_index" s_is_index [], dd "with_mark" s_with_mark [], dd "without_mark" s_without_mark [], dd "with_marks" s_with_marks [], dd "shifted" s_shifted [], dd "moved_up" s_moved_up [], dd "with_phase" s_with_phase [("at", .non)], dd "later_without" s_later_without [], dd "without_phase" s_without_phase [], dd "with_pair" s_with_pair []]
def fns2 : List He.DefD := [dd "lets_rule" s_lets_rule [], dd "is_phase" s_is_phase [], dd "_law_feed" s__law_feed [], dd "_law_draw" s__law_draw [], dd "_law_pick" s__law_pick [], dd "_law_marks" s__law_marks [], dd "_law_phase" s__law_phase [], dd "_law_scene" s__law_scene [], dd "_law_rule" s__law_rule [], dd "_law_put" s__law_put [], dd "_law_with_phase" s__law_with_phase [], dd "_law_turned_next" s__law_turned_next [], dd "_law_without_phase" s__law_without_phase [], dd "_law_back_right" s__law_back_right [], dd "_law_orders_right" s__law_orders_right [], dd "_law_day" s__law_day [], dd "law" s_law []]
def fns : List He.DefD := fns1 ++ fns2
def bls : List Str := ["isinstance", "int", "bool", "tuple", "str", "len", "all", "enumerate", "range", "repr"]
def fas : List He.Fa := (fns.map fun d => He.Fa.glo d.name) ++ (bls.map He.Fa.free ++ [.glo "MOVES", .glo "CASES"])
def kcB (K : PySem.W.Frag) : Bool := match K.lookup (He.ga K "CASES") with
  | some ⟨.type c, none, _, _⟩ => decide (c = "tuple")
  | _ => false
def exB (K : PySem.W.Frag) : Bool := He.tupB K "MOVES" (moves.map He.Dv.str) && (He.tupB K "CASES" (cases3.map He.Dv.str) && kcB K)
def loose1 : List Str := ["__name__", "MOVES", "CASES", "is_integer", "is_number", "is_tuple_of", "first_wrong_mark", "is_marks", "is_move", "is_case_pair", "is_phase", "phase_fault", "rule_fault", "__name__", "ClimbError", "PaperError", "RuleError", "InvalidPaper", "NotUsable", "__name__", "want", "__name__", "is_index", "with_mark", "without_mark", "with_marks", "shifted", "moved_up", "with_phase", "later_without"]
def loose2 : List Str := ["without_phase", "with_pair", "__name__", "lets_rule", "__name__", "_law_feed", "_law_draw", "_law_pick", "_law_marks", "_law_phase", "_law_scene", "_law_rule", "_law_put", "_law_with_phase", "_law_turned_next", "_law_without_phase", "_law_back_right", "_law_orders_right", "_law_day"]
def loose0 : List Str := loose1 ++ loose2
abbrev R0 : PySem.W.OpenRow := PySem.W.OpenLaw.row PySem.Challenge.rw_endclimbs_k13_whole_changes_undone
abbrev hk : PySem.W.Hook := He.hookX 2 fas fns [] [] exB
def ob (s : PySem.W.SharedT) : He.AlX := He.obsX 2 fas fns [] [] exB (HandSHeadRun.getT s)
theorem ob_eq (s : PySem.W.SharedT) : ob s = hk.obs s.abs := He.obsX_eq (HandSHeadRun.getT_eq s)
theorem run (w : World) : HandSHeadRun.RunEq R0 (PySem.W.view R0.prog [49]) hk ob 3000 loose0 w := by
  intro os
  kernel_rfl
end EC
namespace EC
open PySem PySem.Spec PyProof.Rows L2
/-! ### the head's facts, the chain of the defs -/
section
variable {P : Program} {w : World} {K : PySem.W.Frag} {h base : Heap} {mg : Str → Option Value}
theorem df_of (X : K.In h) (G : h.Ns mainGlobals mg) (c : He.SaysD fas fns K) {x : Str} {st : Stmt} (i : Nat) (e : fns[i]? = some (dd x st [])) : Df K mg x st := by
  obtain ⟨fd, F⟩ := c.def_ i e
  exact ⟨He.ga K x, fd, He.glo_ok X G (c.facts (List.mem_append_left _ (List.mem_map_of_mem (f := fun d => He.Fa.glo d.name) (List.mem_of_getElem? e)))), F⟩
theorem dfK_of (X : K.In h) (G : h.Ns mainGlobals mg) (c : He.SaysD fas fns K) (i : Nat) (e : fns[i]? = some (dd "with_phase" s_with_phase [("at", .non)])) : DfK K mg := by
  obtain ⟨fd, F⟩ := c.def_ i e
  exact ⟨He.ga K "with_phase", fd, He.glo_ok X G (c.facts (List.mem_append_left _ (List.mem_map_of_mem (f := fun d => He.Fa.glo d.name) (List.mem_of_getElem? e)))), F⟩
theorem free_of (X : K.In h) (G : h.Ns mainGlobals mg) (c : He.SaysD fas fns K) {x : Str} (i : Nat) (e : bls[i]? = some x) : mg x = none :=
  He.free_ok X G (c.facts (List.mem_append_right _ (List.mem_append_left _ (List.mem_map_of_mem (List.mem_of_getElem? e)))))
theorem txt_of (X : K.In h) (G : h.Ns mainGlobals mg) (c : He.SaysX fas fns [] [] exB w h K) : Txt K mg (He.ga K "MOVES") (He.ga K "CASES") := by
  have d := c.t.d
  obtain ⟨m1, m2⟩ := He.ba c.more
  obtain ⟨m2, m3⟩ := He.ba m2
  have gl : ∀ x, He.Fa.glo x ∈ [He.Fa.glo "MOVES", He.Fa.glo "CASES"] → mg x = some (.ref (He.ga K x)) := fun x hx => He.glo_ok X G (d.facts (List.mem_append_right _ (List.mem_append_right _ hx)))
  refine ⟨free_of X G d 0 rfl, free_of X G d 1 rfl, free_of X G d 2 rfl, free_of X G d 3 rfl, free_of X G d 4 rfl, free_of X G d 5 rfl, free_of X G d 6 rfl, free_of X G d 7 rfl, free_of X G d 8 rfl, free_of X G d 9 rfl,
    gl _ (List.mem_cons_self ..), gl _ (List.mem_cons_of_mem _ (List.mem_cons_self ..)), fun H => He.tupB_ok m1 H, fun H => He.tupB_ok m2 H, ?_⟩
  unfold kcB at m3
  split at m3
  · rename_i q
    exact ⟨_, q, congrArg Value.type (of_decide_eq_true m3), rfl⟩
  · cases m3
theorem all_ok (X : K.In h) (G : h.Ns mainGlobals mg) (c : He.SaysX fas fns [] [] exB w h K) : Own P w K mg base 8 "law" ["_law_script"] (sp_law K) := by
  have T := txt_of X G c
  have g__law_feed := ok__law_feed (P := P) (w := w) (K := K) (base := base) T (df_of X G c.t.d 22 rfl)
  have g__law_draw := ok__law_draw (P := P) (w := w) (K := K) (base := base) T (df_of X G c.t.d 23 rfl)
  have g__law_scene := ok__law_scene (P := P) (w := w) (K := K) (base := base) T (df_of X G c.t.d 27 rfl)
  have g__law_pick := ok__law_pick (P := P) (w := w) (K := K) (base := base) T (df_of X G c.t.d 24 rfl) g__law_draw
  have g__law_marks := ok__law_marks (P := P) (w := w) (K := K) (base := base) T (df_of X G c.t.d 25 rfl) g__law_draw g__law_pick
  have g__law_phase := ok__law_phase (P := P) (w := w) (K := K) (base := base) T (df_of X G c.t.d 26 rfl) g__law_draw g__law_pick
  have g__law_rule := ok__law_rule (P := P) (w := w) (K := K) (base := base) T (df_of X G c.t.d 28 rfl) g__law_draw g__law_scene g__law_marks g__law_phase
  have g_want := ok_want (P := P) (w := w) (K := K) (base := base) T (df_of X G c.t.d 9 rfl)
  have g_is_integer := ok_is_integer (P := P) (w := w) (K := K) (base := base) T (df_of X G c.t.d 0 rfl)
  have g_with_mark := ok_with_mark (P := P) (w := w) (K := K) (base := base) T (df_of X G c.t.d 11 rfl) g_want g_is_integer
  have g_without_mark := ok_without_mark (P := P) (w := w) (K := K) (base := base) T (df_of X G c.t.d 12 rfl) g_want g_is_integer
  have g_first_wrong_mark := ok_first_wrong_mark (P := P) (w := w) (K := K) (base := base) T (df_of X G c.t.d 3 rfl) g_is_integer
  have g_is_marks := ok_is_marks (P := P) (w := w) (K := K) (base := base) T (df_of X G c.t.d 4 rfl) g_first_wrong_mark
  have g_with_marks := ok_with_marks (P := P) (w := w) (K := K) (base := base) T (df_of X G c.t.d 13 rfl) g_want g_is_marks
  have g_shifted := ok_shifted (P := P) (w := w) (K := K) (base := base) T (df_of X G c.t.d 14 rfl) g_want g_is_integer
  have g_is_tuple_of := ok_is_tuple_of (P := P) (w := w) (K := K) (base := base) T (df_of X G c.t.d 2 rfl)
  have g_is_move := ok_is_move (P := P) (w := w) (K := K) (base := base) T (df_of X G c.t.d 5 rfl)
  have g_is_number := ok_is_number (P := P) (w := w) (K := K) (base := base) T (df_of X G c.t.d 1 rfl) g_is_integer
  have g_is_case_pair := ok_is_case_pair (P := P) (w := w) (K := K) (base := base) T (df_of X G c.t.d 6 rfl) g_is_tuple_of g_is_move g_is_number
  have g_is_phase := ok_is_phase (P := P) (w := w) (K := K) (base := base) T (df_of X G c.t.d 21 rfl) g_is_tuple_of g_is_case_pair
  have g_moved_up := ok_moved_up (P := P) (w := w) (K := K) (base := base) T (df_of X G c.t.d 15 rfl)
  have g_with_phase := ok_with_phase (P := P) (w := w) (K := K) (base := base) T (dfK_of X G c.t.d 16 rfl) g_want g_is_phase g_is_number g_moved_up
  have g_is_index := ok_is_index (P := P) (w := w) (K := K) (base := base) T (df_of X G c.t.d 10 rfl) g_is_number
  have g_later_without := ok_later_without (P := P) (w := w) (K := K) (base := base) T (df_of X G c.t.d 17 rfl)
  have g_without_phase := ok_without_phase (P := P) (w := w) (K := K) (base := base) T (df_of X G c.t.d 18 rfl) g_want g_is_index g_later_without
  have g_with_pair := ok_with_pair (P := P) (w := w) (K := K) (base := base) T (df_of X G c.t.d 19 rfl) g_want g_is_index g_is_move
  have g__law_back_right := ok__law_back_right (P := P) (w := w) (K := K) (base := base) T (df_of X G c.t.d 33 rfl) g__law_draw g__law_pick g__law_phase g_with_mark g_without_mark g_with_marks g_shifted g_with_phase g_without_phase g_with_pair
  have g__law_orders_right := ok__law_orders_right (P := P) (w := w) (K := K) (base := base) T (df_of X G c.t.d 34 rfl) g__law_draw g__law_phase g_with_mark g_shifted g_with_phase g_without_phase g_with_pair
  have g__law_put := ok__law_put (P := P) (w := w) (K := K) (base := base) T (df_of X G c.t.d 29 rfl)
  have g__law_with_phase := ok__law_with_phase (P := P) (w := w) (K := K) (base := base) T (df_of X G c.t.d 30 rfl)
  have g__law_turned_next := ok__law_turned_next (P := P) (w := w) (K := K) (base := base) T (df_of X G c.t.d 31 rfl)
  have g__law_without_phase := ok__law_without_phase (P := P) (w := w) (K := K) (base := base) T (df_of X G c.t.d 32 rfl) g__law_turned_next
  have g_phase_fault := ok_phase_fault (P := P) (w := w) (K := K) (base := base) T (df_of X G c.t.d 7 rfl) g_is_tuple_of g_is_case_pair
  have g_rule_fault := ok_rule_fault (P := P) (w := w) (K := K) (base := base) T (df_of X G c.t.d 8 rfl) g_is_tuple_of g_first_wrong_mark g_phase_fault
  have g_lets_rule := ok_lets_rule (P := P) (w := w) (K := K) (base := base) T (df_of X G c.t.d 20 rfl) g_rule_fault
  have g__law_day := ok__law_day (P := P) (w := w) (K := K) (base := base) T (df_of X G c.t.d 35 rfl) g__law_draw g__law_phase g_with_mark g_without_mark g_shifted g_with_phase g_without_phase g__law_put g__law_with_phase g__law_without_phase g_lets_rule
  have g_law := ok_law (P := P) (w := w) (K := K) (base := base) T (df_of X G c.t.d 36 rfl) g__law_feed g__law_rule g__law_back_right g__law_orders_right g__law_day
  exact g_law
end
end EC
open PySem PySem.W PySem.Calls PyProof.Rows
theorem PySem.Challenge.cw_endclimbs_k13_whole_changes_undone_holds : PySem.Challenge.rw_endclimbs_k13_whole_changes_undone.Holds := by
  w_on; o_law
  refine HandSHeadRun.head_any (r := OpenLaw.row PySem.Challenge.rw_endclimbs_k13_whole_changes_undone) (q := view (OpenLaw.row PySem.Challenge.rw_endclimbs_k13_whole_changes_undone).prog [49]) (H := EC.hk) (ob := EC.ob) (M := 3000) (loose := EC.loose0)
    (d := HandSHeadRun.topDef (OpenLaw.row PySem.Challenge.rw_endclimbs_k13_whole_changes_undone).prog 49) (kwd := []) EC.ob_eq (by kernel_rfl) (fun s => by kernel_rfl) EC.run (by kernel_rfl) (by kernel_rfl) (by kernel_rfl) (by rfl) (by first | assumption | decide +kernel) (by decide +kernel) ⟨rfl, rfl, rfl, rfl, rfl, by decide +kernel⟩ ?hw ?hc
  case hw => w_witness2
  case hc =>
    refine EC.walk_own (l := PySem.Challenge.rw_endclimbs_k13_whole_changes_undone) (n := 63) (k := 8) (x := "_law_script") rfl (by decide) (by kernel_rfl) ⟨⟨rfl, by decide, by decide⟩, rfl⟩ ?F
    intro w mg h Y G
    obtain ⟨K, KX, c⟩ := Y
    refine ⟨K, EC.sp_law K, KX, fun H a ns hS => ⟨a, ns, rfl, hS, fun _ => rfl⟩, fun base KB NB => ?_⟩
    have e : (HandSHeadRun.topDef (OpenLaw.row PySem.Challenge.rw_endclimbs_k13_whole_changes_undone).prog 49).name = ("law" : PySem.Str) := by kernel_rfl
    rw [e]
    exact EC.all_ok KX G c
