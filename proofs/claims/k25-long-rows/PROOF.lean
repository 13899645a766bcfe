import PyProof.Rows.All
import Wide.All
import OpenK.AllK
import Wide.FinOn
import HandS.ForMost
import HandS.Strs
import HandS.Evl
import HandS.Deep
import HandS.More
import HandS.Rev
import HandS.IsInst
import HandS.StrMore
import HandS.SortInts
import HandS.RaiseMore
import PySem.Challenge.RW_snakehall_k25_long_rows
set_option linter.all false
namespace EM
section
variable {α : Type} [DecidableEq α]

/-- t stands in no list behind its first place -/
def free (ls : List (List α)) (t : α) : Bool := !(ls.any fun o => decide (t ∈ o.tail))
def heads (ls : List (List α)) : List α := ls.filterMap List.head?
def nextT (ls : List (List α)) : Option α := (heads ls).find? (free ls)
def dropH (t : α) (l : List α) : List α := if l.head? = some t then l.tail else l
def live (ls : List (List α)) : List (List α) := ls.filter fun l => !l.isEmpty
def tot (ls : List (List α)) : Nat := (ls.map List.length).sum
def mrg : Nat → List (List α) → Option (List α)
  | 0, _ => some []
  | n + 1, ls => if live ls = [] then some [] else match nextT ls with
    | none => none
    | some t => (mrg n (ls.map (dropH t))).map (t :: ·)
def merge (ls : List (List α)) : Option (List α) := mrg (tot ls) ls

theorem tot_cons (l : List α) (ls : List (List α)) : tot (l :: ls) = l.length + tot ls := by
  simp [tot]
theorem tot_nil : tot ([] : List (List α)) = 0 := rfl

theorem dropH_len (t : α) (l : List α) : (dropH t l).length ≤ l.length := by
  unfold dropH
  split
  · cases l <;> simp
  · exact Nat.le_refl _

theorem tot_drop_le (t : α) : ∀ ls : List (List α), tot (ls.map (dropH t)) ≤ tot ls
  | [] => Nat.le_refl _
  | l :: ls => by
    rw [List.map_cons, tot_cons, tot_cons]
    have h1 := dropH_len t l
    have h2 := tot_drop_le t ls
    omega

theorem mem_heads {t : α} {ls : List (List α)} : t ∈ heads ls ↔ ∃ l ∈ ls, l.head? = some t := by
  unfold heads
  rw [List.mem_filterMap]

theorem tot_drop_lt (t : α) : ∀ ls : List (List α), t ∈ heads ls → tot (ls.map (dropH t)) < tot ls
  | [], h => by simp [heads] at h
  | l :: ls, h => by
    rw [List.map_cons, tot_cons, tot_cons]
    obtain ⟨x, hx, hh⟩ := mem_heads.mp h
    rcases List.mem_cons.mp hx with e | hx
    · subst e
      have h2 := tot_drop_le t ls
      have h1 : (dropH t x).length + 1 = x.length := by
        unfold dropH
        rw [if_pos hh]
        cases x with
        | nil => simp at hh
        | cons a r => simp
      omega
    · have h1 := dropH_len t l
      have h2 := tot_drop_lt t ls (mem_heads.mpr ⟨x, hx, hh⟩)
      omega

theorem nextT_mem {ls : List (List α)} {t : α} (h : nextT ls = some t) : t ∈ heads ls := List.mem_of_find?_eq_some h
theorem nextT_free {ls : List (List α)} {t : α} (h : nextT ls = some t) : free ls t = true := List.find?_some h

theorem live_nil_of_tot {ls : List (List α)} (h : tot ls = 0) : live ls = [] := by
  induction ls with
  | nil => rfl
  | cons l ls ih =>
    rw [tot_cons] at h
    have hl : l = [] := List.length_eq_zero_iff.mp (by omega)
    subst hl
    unfold live at ih ⊢
    rw [List.filter_cons]
    simp
    have := ih (by omega)
    simpa using this

theorem mrg_two : ∀ (n m : Nat) (ls : List (List α)), tot ls ≤ n → tot ls ≤ m → mrg n ls = mrg m ls
  | 0, 0, _, _, _ => rfl
  | 0, m + 1, ls, h, _ => by
    show some [] = (if live ls = [] then some [] else _)
    rw [if_pos (live_nil_of_tot (by omega))]
  | n + 1, 0, ls, _, h => by
    show (if live ls = [] then some [] else _) = some []
    rw [if_pos (live_nil_of_tot (by omega))]
  | n + 1, m + 1, ls, h1, h2 => by
    show (if live ls = [] then some [] else match nextT ls with
        | none => none
        | some t => (mrg n (ls.map (dropH t))).map (t :: ·)) = (if live ls = [] then some [] else match nextT ls with
        | none => none
        | some t => (mrg m (ls.map (dropH t))).map (t :: ·))
    split
    · rfl
    · cases hn : nextT ls with
      | none => rfl
      | some t =>
        have hl := tot_drop_lt t ls (nextT_mem hn)
        dsimp only
        rw [mrg_two n m _ (by omega) (by omega)]

theorem merge_done {ls : List (List α)} (h : live ls = []) : merge ls = some [] := by
  unfold merge
  cases tot ls with
  | zero => rfl
  | succ n =>
    show (if live ls = [] then some [] else _) = _
    rw [if_pos h]
theorem tot_pos {ls : List (List α)} (h : live ls ≠ []) : 0 < tot ls := by
  cases hm : tot ls with
  | zero => exact absurd (live_nil_of_tot hm) h
  | succ n => omega
theorem merge_none {ls : List (List α)} (h : live ls ≠ []) (hn : nextT ls = none) : merge ls = none := by
  have hp := tot_pos h
  unfold merge
  cases hm : tot ls with
  | zero => omega
  | succ n =>
    show (if live ls = [] then some [] else _) = _
    rw [if_neg h, hn]
theorem merge_step {ls : List (List α)} {t : α} (hn : nextT ls = some t) : merge ls = (merge (ls.map (dropH t))).map (t :: ·) := by
  have hl := tot_drop_lt t ls (nextT_mem hn)
  have h : live ls ≠ [] := by
    intro h
    obtain ⟨x, hx, hh⟩ := mem_heads.mp (nextT_mem hn)
    have : x ∈ live ls := List.mem_filter.mpr ⟨hx, by cases x with | nil => simp at hh | cons a r => rfl⟩
    rw [h] at this
    cases this
  unfold merge
  cases hm : tot ls with
  | zero => omega
  | succ n =>
    show (if live ls = [] then some [] else _) = _
    rw [if_neg h, hn]
    dsimp only
    rw [mrg_two n (tot (ls.map (dropH t))) _ (by omega) (Nat.le_refl _)]

/-! ### lists that are empty count for nothing -/
theorem heads_live (ls : List (List α)) : heads (live ls) = heads ls := by
  unfold heads live
  induction ls with
  | nil => rfl
  | cons l ls ih =>
    cases l with
    | nil =>
      rw [List.filterMap_cons]
      exact ih
    | cons a r => simpa [List.filterMap_cons] using ih
theorem free_live (ls : List (List α)) (t : α) : free (live ls) t = free ls t := by
  unfold free live
  induction ls with
  | nil => rfl
  | cons l ls ih =>
    cases l with
    | nil => simpa using ih
    | cons a r =>
      simp only [List.filter_cons, List.isEmpty_cons, Bool.not_false, if_true, List.any_cons, Bool.not_or]
      rw [ih]
theorem nextT_live (ls : List (List α)) : nextT (live ls) = nextT ls := by
  unfold nextT
  rw [heads_live]
  congr 1
  funext t
  exact free_live ls t
theorem live_drop (t : α) (ls : List (List α)) : live ((live ls).map (dropH t)) = live (ls.map (dropH t)) := by
  unfold live
  induction ls with
  | nil => rfl
  | cons l ls ih =>
    cases l with
    | nil => simpa [dropH] using ih
    | cons a r =>
      simp only [List.filter_cons, List.isEmpty_cons, Bool.not_false, if_true, List.map_cons]
      rw [ih]
theorem live_of_ne {ls : List (List α)} (h : ∀ l ∈ ls, l ≠ []) : live ls = ls := by
  unfold live
  rw [List.filter_eq_self]
  intro l hl
  cases l with
  | nil => exact absurd rfl (h _ hl)
  | cons a r => rfl
theorem live_live (ls : List (List α)) : live (live ls) = live ls := by
  unfold live
  rw [List.filter_filter]
  congr 1
  funext l
  simp
theorem tot_live (ls : List (List α)) : tot (live ls) = tot ls := by
  unfold live
  induction ls with
  | nil => rfl
  | cons l ls ih =>
    cases l with
    | nil => simpa [tot_cons] using ih
    | cons a r =>
      simp only [List.filter_cons, List.isEmpty_cons, Bool.not_false, if_true, tot_cons]
      rw [ih]
theorem merge_congr : ∀ (n : Nat) (ls ms : List (List α)), tot ls ≤ n → live ls = live ms → merge ls = merge ms := by
  intro n
  induction n with
  | zero =>
    intro ls ms h e
    have h1 := live_nil_of_tot (show tot ls = 0 by omega)
    rw [merge_done h1, merge_done (e ▸ h1)]
  | succ n ih =>
    intro ls ms h e
    by_cases hl : live ls = []
    · rw [merge_done hl, merge_done (e ▸ hl)]
    · have hn : nextT ls = nextT ms := by rw [← nextT_live ls, e, nextT_live]
      cases hx : nextT ls with
      | none => rw [merge_none hl hx, merge_none (e ▸ hl) (hn ▸ hx)]
      | some t =>
        rw [merge_step (ls := ls) hx, merge_step (ls := ms) (hn ▸ hx)]
        rw [ih _ (ms.map (dropH t)) (by have := tot_drop_lt t ls (nextT_mem hx); omega) (by rw [← live_drop t ls, e, live_drop])]
theorem merge_live (ls : List (List α)) : merge (live ls) = merge ls := merge_congr _ _ _ (Nat.le_refl _) (live_live ls)

theorem nextT_no {ls : List (List α)} (hp : ∀ l ∈ ls, ∀ t, l.head? = some t → free ls t = false) : nextT ls = none := by
  unfold nextT
  rw [List.find?_eq_none]
  intro t ht
  obtain ⟨l, hl, hh⟩ := mem_heads.mp ht
  rw [hp l hl t hh]
  exact Bool.false_ne_true
theorem nextT_at {ls : List (List α)} {i : Nat} {l : List α} {t : α} (h : ls[i]? = some l) (hh : l.head? = some t) (hf : free ls t = true) (hp : ∀ l ∈ ls.take i, ∀ t, l.head? = some t → free ls t = false) : nextT ls = some t := by
  have e : ls = ls.take i ++ l :: ls.drop (i + 1) := by
    have hi := (List.getElem?_eq_some_iff.mp h).1
    have hv := (List.getElem?_eq_some_iff.mp h).2
    rw [← hv, ← List.drop_eq_getElem_cons hi, List.take_append_drop]
  have e2 : heads ls = heads (ls.take i) ++ t :: heads (ls.drop (i + 1)) := by
    have : heads ls = heads (ls.take i ++ l :: ls.drop (i + 1)) := congrArg heads e
    rw [this]
    unfold heads
    rw [List.filterMap_append, List.filterMap_cons, hh]
  unfold nextT
  rw [e2, List.find?_append]
  have : (heads (ls.take i)).find? (free ls) = none := by
    rw [List.find?_eq_none]
    intro x hx
    obtain ⟨l', hl', hh'⟩ := mem_heads.mp hx
    rw [hp l' hl' x hh']
    exact Bool.false_ne_true
  rw [this, List.find?_cons, hf]
  rfl
/-! ### what a merge has -/
theorem mem_dropH {t a : α} {l : List α} (h : a ∈ l) : a = t ∨ a ∈ dropH t l := by
  unfold dropH
  split
  · rename_i hh
    cases l with
    | nil => cases h
    | cons x r =>
      simp at hh
      subst hh
      rcases List.mem_cons.mp h with e | h
      · exact .inl e
      · exact .inr h
  · exact .inr h
theorem dropH_sub {t a : α} {l : List α} (h : a ∈ dropH t l) : a ∈ l := by
  unfold dropH at h
  split at h
  · exact List.mem_of_mem_tail h
  · exact h
theorem dropH_nd {t : α} {l : List α} (h : l.Nodup) : (dropH t l).Nodup := by
  unfold dropH
  split
  · exact h.sublist (List.tail_sublist l)
  · exact h
theorem gone_dropH {t : α} {l : List α} (h : l.Nodup) (hf : t ∉ l.tail) : t ∉ dropH t l := by
  unfold dropH
  split
  · exact hf
  · rename_i hh
    cases l with
    | nil => simp
    | cons x r =>
      simp at hh
      intro hm
      rcases List.mem_cons.mp hm with e | hm
      · exact hh e.symm
      · exact hf hm
theorem free_iff {ls : List (List α)} {t : α} : free ls t = true ↔ ∀ o ∈ ls, t ∉ o.tail := by
  unfold free
  simp
theorem merge_has : ∀ (n : Nat) (ls : List (List α)) (l : List α), tot ls ≤ n → merge ls = some l → (∀ o ∈ ls, o.Nodup) → l.Nodup ∧ ∀ a, a ∈ l ↔ ∃ o ∈ ls, a ∈ o := by
  intro n
  induction n with
  | zero =>
    intro ls l h e _
    have h1 := live_nil_of_tot (show tot ls = 0 by omega)
    rw [merge_done h1] at e
    cases e
    refine ⟨List.nodup_nil, fun a => ⟨fun h => (nomatch h), fun ⟨o, ho, ha⟩ => ?_⟩⟩
    have : o ∈ live ls := List.mem_filter.mpr ⟨ho, by cases o with | nil => cases ha | cons _ _ => rfl⟩
    rw [h1] at this
    cases this
  | succ n ih =>
    intro ls l h e nd
    by_cases hl : live ls = []
    · rw [merge_done hl] at e
      cases e
      refine ⟨List.nodup_nil, fun a => ⟨fun h => (nomatch h), fun ⟨o, ho, ha⟩ => ?_⟩⟩
      have : o ∈ live ls := List.mem_filter.mpr ⟨ho, by cases o with | nil => cases ha | cons _ _ => rfl⟩
      rw [hl] at this
      cases this
    · cases hx : nextT ls with
      | none =>
        rw [merge_none hl hx] at e
        cases e
      | some t =>
        rw [merge_step hx] at e
        cases hm : merge (ls.map (dropH t)) with
        | none =>
          rw [hm] at e
          cases e
        | some r =>
          rw [hm] at e
          cases e
          have hf := free_iff.mp (nextT_free hx)
          obtain ⟨h1, h2⟩ := ih _ r (by have := tot_drop_lt t ls (nextT_mem hx); omega) hm (fun o ho => by
            obtain ⟨o', ho', rfl⟩ := List.mem_map.mp ho
            exact dropH_nd (nd o' ho'))
          refine ⟨List.nodup_cons.mpr ⟨fun hc => ?_, h1⟩, fun a => ?_⟩
          · obtain ⟨o, ho, ha⟩ := (h2 t).mp hc
            obtain ⟨o', ho', rfl⟩ := List.mem_map.mp ho
            exact gone_dropH (nd o' ho') (hf o' ho') ha
          · constructor
            · intro ha
              rcases List.mem_cons.mp ha with e | ha
              · subst e
                obtain ⟨x, hx', hh⟩ := mem_heads.mp (nextT_mem hx)
                exact ⟨x, hx', List.mem_of_mem_head? hh⟩
              · obtain ⟨o, ho, ha⟩ := (h2 a).mp ha
                obtain ⟨o', ho', rfl⟩ := List.mem_map.mp ho
                exact ⟨o', ho', dropH_sub ha⟩
            · rintro ⟨o, ho, ha⟩
              rcases mem_dropH (t := t) ha with e | ha
              · exact List.mem_cons.mpr (.inl e)
              · exact List.mem_cons.mpr (.inr ((h2 a).mpr ⟨_, List.mem_map.mpr ⟨o, ho, rfl⟩, ha⟩))

theorem merge_len : ∀ (n : Nat) (ls : List (List α)) (l : List α), tot ls ≤ n → merge ls = some l → l.length ≤ tot ls := by
  intro n
  induction n with
  | zero =>
    intro ls l h e
    rw [merge_done (live_nil_of_tot (show tot ls = 0 by omega))] at e
    cases e
    exact Nat.zero_le _
  | succ n ih =>
    intro ls l h e
    by_cases hl : live ls = []
    · rw [merge_done hl] at e
      cases e
      exact Nat.zero_le _
    · cases hx : nextT ls with
      | none =>
        rw [merge_none hl hx] at e
        cases e
      | some t =>
        rw [merge_step hx] at e
        cases hm : merge (ls.map (dropH t)) with
        | none =>
          rw [hm] at e
          cases e
        | some r =>
          rw [hm] at e
          cases e
          have h1 := tot_drop_lt t ls (nextT_mem hx)
          have h2 := ih _ r (by omega) hm
          rw [List.length_cons]
          omega
/-! ### orders -/
def orderBy (t : α) (es : List α) (f : α → Option (List α)) : Option (List α) :=
  if es.Nodup then (es.mapM f).bind fun ls => (merge (ls ++ [es])).map (t :: ·) else none

theorem orderBy_congr {t : α} {es : List α} {f g : α → Option (List α)} (h : ∀ e ∈ es, f e = g e) : orderBy t es f = orderBy t es g := by
  unfold orderBy
  have : es.mapM f = es.mapM g := by
    clear t
    induction es with
    | nil => rfl
    | cons a r ih =>
      rw [List.mapM_cons, List.mapM_cons, h a (List.mem_cons_self), ih fun e he => h e (List.mem_cons_of_mem _ he)]
  rw [this]
def ord (E : α → List α) : Nat → α → Option (List α)
  | 0, _ => none
  | n + 1, t => orderBy t (E t) (ord E n)
theorem ord_stable {E : α → List α} {r : α → Nat} (hr : ∀ t, ∀ e ∈ E t, r e < r t) : ∀ (n m : Nat) (t : α), r t < n → r t < m → ord E n t = ord E m t := by
  intro n
  induction n with
  | zero => intro m t h; omega
  | succ n ih =>
    intro m t h1 h2
    cases m with
    | zero => omega
    | succ m =>
      show orderBy t (E t) (ord E n) = orderBy t (E t) (ord E m)
      exact orderBy_congr fun e he => ih m e (by have := hr t e he; omega) (by have := hr t e he; omega)
/-- the order of a title, by a rank that falls to elders -/
def O (E : α → List α) (r : α → Nat) (t : α) : Option (List α) := ord E (r t + 1) t
theorem O_eq {E : α → List α} {r : α → Nat} (hr : ∀ t, ∀ e ∈ E t, r e < r t) (t : α) : O E r t = orderBy t (E t) (O E r) := by
  show orderBy t (E t) (ord E (r t)) = _
  exact orderBy_congr fun e he => ord_stable hr _ _ e (hr t e he) (Nat.lt_succ_self _)

theorem mapM_some {f : α → Option (List α)} : ∀ {es : List α} {ls : List (List α)}, es.mapM f = some ls → ls.length = es.length ∧ ∀ o ∈ ls, ∃ e ∈ es, f e = some o
  | [], ls, h => by
    simp at h
    subst h
    exact ⟨rfl, fun o ho => nomatch ho⟩
  | e :: es, ls, h => by
    rw [List.mapM_cons] at h
    cases he : f e with
    | none => rw [he] at h; cases h
    | some o =>
      cases hm : es.mapM f with
      | none => rw [he, hm] at h; cases h
      | some r =>
        rw [he, hm] at h
        cases h
        obtain ⟨h1, h2⟩ := mapM_some hm
        refine ⟨by simp [h1], fun x hx => ?_⟩
        rcases List.mem_cons.mp hx with q | q
        · subst q; exact ⟨e, List.mem_cons_self, he⟩
        · obtain ⟨e', he', q'⟩ := h2 x q
          exact ⟨e', List.mem_cons_of_mem _ he', q'⟩
theorem nodup_len {U : List α} : ∀ {l : List α}, l.Nodup → (∀ a ∈ l, a ∈ U) → l.length ≤ U.length := by
  induction U with
  | nil =>
    intro l _ h
    cases l with
    | nil => exact Nat.le_refl _
    | cons a r => exact nomatch h a List.mem_cons_self
  | cons u U ih =>
    intro l nd h
    by_cases hu : u ∈ l
    · have h1 : (l.erase u).length + 1 = l.length := by
        have := List.length_erase_of_mem hu
        have hp : 0 < l.length := List.length_pos_of_mem hu
        omega
      have h2 := ih (l := l.erase u) (nd.erase u) fun a ha => by
        have ha' : a ∈ l ∧ a ≠ u := by
          rw [nd.mem_erase_iff] at ha
          exact ⟨ha.2, ha.1⟩
        rcases List.mem_cons.mp (h a ha'.1) with e | e
        · exact absurd e ha'.2
        · exact e
      rw [List.length_cons]
      omega
    · have h2 := ih nd fun a ha => by
        rcases List.mem_cons.mp (h a ha) with e | e
        · subst e; exact absurd ha hu
        · exact e
      rw [List.length_cons]
      omega
/-- titles of one universe: an order has no title twice and none but of it -/
theorem O_has {E : α → List α} {r : α → Nat} {U : List α} (hr : ∀ t, ∀ e ∈ E t, r e < r t) (hU : ∀ t ∈ U, ∀ e ∈ E t, e ∈ U) :
    ∀ (n : Nat) (t : α), r t ≤ n → t ∈ U → ∀ l, O E r t = some l → l.Nodup ∧ (∀ a ∈ l, a ∈ U ∧ r a ≤ r t) := by
  intro n
  induction n with
  | zero =>
    intro t ht hu l hl
    have hE : E t = [] := by
      cases he : E t with
      | nil => rfl
      | cons e es => have := hr t e (by rw [he]; exact List.mem_cons_self); omega
    rw [O_eq hr, hE] at hl
    have hl' : some [t] = some l := hl
    cases hl'
    exact ⟨by simp, fun a ha => by simp at ha; subst ha; exact ⟨hu, Nat.le_refl _⟩⟩
  | succ n ih =>
    intro t ht hu l hl
    rw [O_eq hr] at hl
    unfold orderBy at hl
    split at hl
    · rename_i nd
      cases hm : (E t).mapM (O E r) with
      | none => rw [hm] at hl; cases hl
      | some ls =>
        rw [hm] at hl
        simp only [Option.bind_some] at hl
        cases hg : merge (ls ++ [E t]) with
        | none => rw [hg] at hl; cases hl
        | some b =>
          rw [hg] at hl
          cases hl
          obtain ⟨_, h2⟩ := mapM_some hm
          have key : ∀ o ∈ ls ++ [E t], o.Nodup ∧ ∀ a ∈ o, a ∈ U ∧ r a < r t := by
            intro o ho
            rcases List.mem_append.mp ho with q | q
            · obtain ⟨e, he, q'⟩ := h2 o q
              have hre := hr t e he
              obtain ⟨z1, z2⟩ := ih e (by omega) (hU t hu e he) o q'
              exact ⟨z1, fun a ha => ⟨(z2 a ha).1, by have := (z2 a ha).2; omega⟩⟩
            · simp at q
              subst q
              exact ⟨nd, fun a ha => ⟨hU t hu a ha, hr t a ha⟩⟩
          obtain ⟨m1, m2⟩ := merge_has _ _ _ (Nat.le_refl _) hg fun o ho => (key o ho).1
          refine ⟨List.nodup_cons.mpr ⟨fun hc => ?_, m1⟩, fun a ha => ?_⟩
          · obtain ⟨o, ho, ha⟩ := (m2 t).mp hc
            have := ((key o ho).2 t ha).2
            omega
          · rcases List.mem_cons.mp ha with q | q
            · subst q; exact ⟨hu, Nat.le_refl _⟩
            · obtain ⟨o, ho, ha⟩ := (m2 a).mp q
              exact ⟨((key o ho).2 a ha).1, Nat.le_of_lt ((key o ho).2 a ha).2⟩
    · cases hl
theorem O_len {E : α → List α} {r : α → Nat} {U : List α} (hr : ∀ t, ∀ e ∈ E t, r e < r t) (hU : ∀ t ∈ U, ∀ e ∈ E t, e ∈ U) {t : α} (ht : t ∈ U) {l : List α} (hl : O E r t = some l) : l.length ≤ U.length :=
  let ⟨a, b⟩ := O_has hr hU _ t (Nat.le_refl _) ht l hl
  nodup_len a fun x hx => (b x hx).1

/-! ### the stack of order_of -/
def lack (E : α → List α) (ks : List α) (t : α) : List α := (E t).filter fun e => !decide (e ∈ ks)
def addK (ks : List α) (t : α) : List α := if t ∈ ks then ks else ks ++ [t]
theorem mem_addK {ks : List α} {t a : α} : a ∈ addK ks t ↔ a ∈ ks ∨ a = t := by
  unfold addK
  split
  · rename_i h
    exact ⟨fun q => .inl q, fun q => q.elim id fun e => e ▸ h⟩
  · simp
/-- m steps from here on the stack (its top at the end) is empty; B: its height's bound; ks: what is known; P: what holds then -/
inductive Runs (E : α → List α) (B : Nat) (P : List α → Prop) : Nat → List α → List α → Prop
  | done {ks} (h : P ks) : Runs E B P 0 [] ks
  | push {m w t ks} (hb : (w ++ [t]).length ≤ B) (hl : lack E ks t ≠ []) (h : Runs E B P m (w ++ [t] ++ lack E ks t) ks) : Runs E B P (m + 1) (w ++ [t]) ks
  | pop {m w t ks} (hb : (w ++ [t]).length ≤ B) (hl : lack E ks t = []) (h : Runs E B P m w (addK ks t)) : Runs E B P (m + 1) (w ++ [t]) ks
theorem lack_nil {E : α → List α} {ks : List α} {t : α} (h : lack E ks t = []) : ∀ e ∈ E t, e ∈ ks := by
  intro e he
  unfold lack at h
  have := List.filter_eq_nil_iff.mp h e he
  simpa using this
theorem lack_of {E : α → List α} {ks : List α} {t : α} (h : ∀ e ∈ E t, e ∈ ks) : lack E ks t = [] :=
  List.filter_eq_nil_iff.mpr fun e he => by simpa using h e he
theorem runs_list {E : α → List α} {B : Nat} {P : List α → Prop} {T : α → Prop} {c : Nat}
    (one : ∀ t, T t → ∀ w ks, w.length + 1 + c ≤ B → (∀ ks', (∀ a ∈ ks, a ∈ ks') → t ∈ ks' → ∃ m, Runs E B P m w ks') → ∃ m, Runs E B P m (w ++ [t]) ks) :
    ∀ (q : List α), (∀ t ∈ q, T t) → ∀ w ks, w.length + q.length + c ≤ B → (∀ ks', (∀ a ∈ ks, a ∈ ks') → (∀ t ∈ q, t ∈ ks') → ∃ m, Runs E B P m w ks') → ∃ m, Runs E B P m (w ++ q.reverse) ks
  | [], _, w, ks, _, k => by
    have := k ks (fun _ h => h) (fun _ h => nomatch h)
    simpa using this
  | t :: q, hT, w, ks, hb, k => by
    rw [List.reverse_cons, ← List.append_assoc]
    rw [List.length_cons] at hb
    refine one t (hT t List.mem_cons_self) (w ++ q.reverse) ks (by simp; omega) fun ks1 h1 h2 => ?_
    refine runs_list one q (fun x hx => hT x (List.mem_cons_of_mem _ hx)) w ks1 (by omega) fun ks2 h3 h4 => ?_
    refine k ks2 (fun a ha => h3 a (h1 a ha)) fun x hx => ?_
    rcases List.mem_cons.mp hx with e | e
    · subst e; exact h3 _ h2
    · exact h4 x e
theorem runs_one {E : α → List α} {r : α → Nat} {B L : Nat} {P : List α → Prop} (hr : ∀ t, ∀ e ∈ E t, r e < r t) (hL : ∀ t, (E t).length ≤ L) :
    ∀ (n : Nat) (t : α), r t ≤ n → ∀ w ks, w.length + 1 + L * n ≤ B → (∀ ks', (∀ a ∈ ks, a ∈ ks') → t ∈ ks' → ∃ m, Runs E B P m w ks') → ∃ m, Runs E B P m (w ++ [t]) ks := by
  intro n
  induction n with
  | zero =>
    intro t ht w ks hb k
    have hE : E t = [] := by
      cases he : E t with
      | nil => rfl
      | cons e es => have := hr t e (by rw [he]; exact List.mem_cons_self); omega
    obtain ⟨m, hm⟩ := k (addK ks t) (fun a ha => mem_addK.mpr (.inl ha)) (mem_addK.mpr (.inr rfl))
    exact ⟨m + 1, .pop (by simp; omega) (lack_of (by rw [hE]; intro e he; cases he)) hm⟩
  | succ n ih =>
    intro t ht w ks hb k
    have fin : ∀ ks', (∀ a ∈ ks, a ∈ ks') → (∀ e ∈ E t, e ∈ ks') → ∃ m, Runs E B P m (w ++ [t]) ks' := fun ks' h1 h2 => by
      obtain ⟨m, hm⟩ := k (addK ks' t) (fun a ha => mem_addK.mpr (.inl (h1 a ha))) (mem_addK.mpr (.inr rfl))
      exact ⟨m + 1, .pop (by simp; omega) (lack_of h2) hm⟩
    by_cases hl : lack E ks t = []
    · exact fin ks (fun _ h => h) (lack_nil hl)
    · have hlen : (lack E ks t).length ≤ L := Nat.le_trans (List.length_filter_le _ _) (hL t)
      have hmul : L * (n + 1) = L * n + L := by rw [Nat.mul_succ]
      obtain ⟨m, hm⟩ := runs_list (T := fun x => r x ≤ n) (c := L * n) (fun x hx w' ks' hb' k' => ih x hx w' ks' hb' k') (lack E ks t).reverse (fun x hx => by
          have hx' : x ∈ E t := (List.mem_filter.mp (List.mem_reverse.mp hx)).1
          have := hr t x hx'
          omega) (w ++ [t]) ks (by simp; omega) fun ks' h1 h2 => fin ks' h1 fun e he => by
            by_cases hk : e ∈ ks
            · exact h1 e hk
            · exact h2 e (List.mem_reverse.mpr (List.mem_filter.mpr ⟨he, by simpa using hk⟩))
      rw [List.reverse_reverse] at hm
      exact ⟨m + 1, .push (by simp; omega) hl hm⟩
theorem runs_all {E : α → List α} {r : α → Nat} {L : Nat} (hr : ∀ t, ∀ e ∈ E t, r e < r t) (hL : ∀ t, (E t).length ≤ L) (t : α) : ∃ m, Runs E (1 + L * r t) (fun ks => t ∈ ks) m [t] [] := by
  have := runs_one (B := 1 + L * r t) (P := fun ks => t ∈ ks) hr hL (r t) t (Nat.le_refl _) [] [] (by simp) fun ks' _ h => ⟨0, .done h⟩
  simpa using this
end
end EM

set_option Elab.async false
set_option linter.all false
set_option maxRecDepth 100000
/-! len(set(xs)), xs a list of texts, any of them alike -/
namespace ST
open PySem PySem.Spec PyProof.Rows
section
variable {κ : Type} [DecidableEq κ]
/-- how many unlike ones are among the first i -/
def cnt (ks : List κ) : Nat → Nat
  | 0 => 0
  | i + 1 => match ks[i]? with
    | none => cnt ks i
    | some k => if k ∈ ks.take i then cnt ks i else cnt ks i + 1
theorem cnt_le (ks : List κ) : ∀ i, cnt ks i ≤ i
  | 0 => Nat.le_refl _
  | i + 1 => by
    have h := cnt_le ks i
    unfold cnt
    split
    · omega
    · split <;> omega
theorem cnt_full (ks : List κ) : ∀ i, i ≤ ks.length → (cnt ks i = i ↔ (ks.take i).Nodup)
  | 0, _ => by simp [cnt]
  | i + 1, h => by
    have ih := cnt_full ks i (by omega)
    have hl := cnt_le ks i
    have hk : ks[i]? = some ks[i] := List.getElem?_eq_getElem (by omega)
    have ht : ks.take (i + 1) = ks.take i ++ [ks[i]] := by rw [List.take_add_one, hk]; rfl
    have hc : cnt ks (i + 1) = if ks[i] ∈ ks.take i then cnt ks i else cnt ks i + 1 := by
      show (match ks[i]? with | none => cnt ks i | some k => if k ∈ ks.take i then cnt ks i else cnt ks i + 1) = _
      rw [hk]
    rw [hc, ht, List.nodup_append]
    by_cases hm : ks[i] ∈ ks.take i
    · rw [if_pos hm]
      constructor
      · intro e; omega
      · rintro ⟨_, _, q⟩
        exact absurd rfl (q _ hm _ (List.mem_singleton.mpr rfl))
    · rw [if_neg hm]
      constructor
      · intro e
        refine ⟨ih.mp (by omega), by simp, fun a ha b hb => ?_⟩
        rw [List.mem_singleton] at hb
        subst hb
        exact fun q => hm (q ▸ ha)
      · rintro ⟨q, _, _⟩
        have := ih.mpr q
        omega
end
section
variable {prog : Program} {w : World} {A : Around} {R : Result → Shared → Prop} {I S : Addr} {fp wr : List Addr} {G : Array GenState → Array GenState → Prop} {n : Nat} {P : Nat → Value → Prop} {St : Nat → Shared → Prop}
  {κ : Type} [DecidableEq κ] {knd : PySem.KeyKind prog w κ}
theorem setOf_kept {h h' : Heap} {f : κ → Bool} {m : Nat} (x : h.SetOf knd S f m) (k : ∀ o, h.get? S = some o → h'.get? S = some o) : h'.SetOf knd S f m :=
  let ⟨o, es, ep, t, ho, r⟩ := x
  ⟨o, es, ep, t, k o ho, r⟩
theorem fill (W : WalksS prog w A.in1 I fp wr G n P St) (ks : List κ) (hout : S ∉ fp) (hn : ks.length = n) (hroom : n + 1 < scanBound)
    (hval : ∀ i v, P i v → ∃ k, ks[i]? = some k ∧ knd.is k v = true ∧ v.scannable = true) :
    ∀ (d i : Nat) (s : Shared), i + d = n → St i s → s.heap.SetOf knd S (fun k => decide (k ∈ ks.take i)) (cnt ks i) →
      (∀ s', Moved (S :: wr) G s s' → s'.heap.SetOf knd S (fun k => decide (k ∈ ks.take n)) (cnt ks n) → R (.ok (.ret .none)) s') →
      codeAny (model prog w) A (.builtin "set.update.loop" ⟨[.ref S, .ref I], []⟩) R s
  | 0, i, s, hd, hst, hS, hR => by
    obtain rfl : i = n := hd
    have hw : S ∉ wr := fun q => hout (W.sub S q)
    refine codeAny_builtin PyProof.Rows.F.entry_set_update_loop ?_
    rw [Around.under_plainId PyProof.Rows.F.plain_set_update_loop]
    refine wpAny_bind (W.done s _ _ hst fun s' hm => wpAny_pure (hR s' ?_ (setOf_kept hS fun o e => hm.heap S o hw e)))
    exact hm.mono fun b q => List.mem_cons_of_mem S q
  | d + 1, i, s, hd, hst, hS, hR => by
    have hw : S ∉ wr := fun q => hout (W.sub S q)
    have hc := cnt_le ks i
    refine codeAny_builtin PyProof.Rows.F.entry_set_update_loop ?_
    rw [Around.under_plainId PyProof.Rows.F.plain_set_update_loop]
    refine wpAny_bind (W.item i s _ _ (by omega) hst fun v s' hP hst' hm => ?_)
    obtain ⟨k, hk, his, hsc⟩ := hval i v hP
    have hS' := setOf_kept (h' := s'.heap) hS fun o e => hm.heap S o hw e
    refine wpAny_bind (wpAny_holding ?_)
    unfold setAdd
    refine wpAny_holding (wpAny_bind (knd.pyHash his ?_))
    refine wpAny_setAddHashed_of (s := { s' with toks := s'.toks + 1 }) his hsc hS' (by omega) fun h' same new => ?_
    have e1 : ks.take (i + 1) = ks.take i ++ [k] := by rw [List.take_add_one, hk]; rfl
    have e2 : cnt ks (i + 1) = if k ∈ ks.take i then cnt ks i else cnt ks i + 1 := by
      show (match ks[i]? with | none => cnt ks i | some k => if k ∈ ks.take i then cnt ks i else cnt ks i + 1) = _
      rw [hk]
    have new' : h'.SetOf knd S (fun j => decide (j ∈ ks.take (i + 1))) (cnt ks (i + 1)) := by
      have ef : (fun j => decide (j ∈ ks.take i) || decide (j = k)) = fun j => decide (j ∈ ks.take (i + 1)) := by
        funext j
        rw [e1]
        simp [List.mem_append, Bool.decide_or]
      have en : (if decide (k ∈ ks.take i) = true then cnt ks i else cnt ks i + 1) = cnt ks (i + 1) := by
        rw [e2]
        by_cases q : k ∈ ks.take i
        · simp [q]
        · simp [q]
      rw [← ef, ← en]
      exact new
    have away : ∀ b, b ≠ S → ∀ o, s'.heap.get? b = some o → h'.get? b = some o := fun b hb o e => by rw [same.2 b hb]; exact e
    refine wpAny_pure ⟨plainId_quiet PyProof.Rows.F.plain_set_update_loop _, fill W ks hout hn hroom hval d (i + 1) _ (by omega) (W.frame _ s' _ _ hst' (Nat.le_succ _) fun b hb o e => away b (fun q => hout (q ▸ hb)) o e) new' fun s2 hm2 hS2 => hR s2 ?_ hS2⟩
    refine Moved.trans W.gtrans ((hm.mono fun b q => List.mem_cons_of_mem S q).then_heap (Nat.le_succ _) fun b o hb e => away b (fun q => hb (q ▸ List.mem_cons_self)) o e) hm2
end
section
variable {prog : Program} {w : World} {A : Around} {E : Value → Shared → Prop} {s : Shared}
/-- T(..) by its new and its init, the init's own look given -/
theorem made_by {T nw ini : String} {Bi : Builtin} {vs : List Value} {Q Q1 : Value → Shared → Prop} (tc : TypeCalled T nw ini) (look : checkTypeCall T ⟨vs, []⟩ = pure ()) (en : entryFor table ini = some Bi)
    (new : codeAny (model prog w) A.in1 (.call (.builtin nw) ⟨.type T :: vs, []⟩) (wants Q1 E) s)
    (then_ : ∀ x s1, Q1 x s1 → s1.TypeIs x T ∧
      wpAny (model prog w) A.in1.in1 (checkBuiltinCall ini ⟨x :: vs, []⟩) (fun _ s1' => wpAny (model prog w) A.in1.in1 (Bi ⟨x :: vs, []⟩)
        (fun fin s' => match fin with | .done f => wants (fun r s2 => r = .none ∧ Q x s2) E (.ok f) s' | .again c => c.quiet = true ∧ codeAny (model prog w) A.in1 c (wants (fun r s2 => r = .none ∧ Q x s2) E) s')
        (fun e s' => wants (fun r s2 => r = .none ∧ Q x s2) E (.error e) s') s1') (fun e s' => wants (fun r s2 => r = .none ∧ Q x s2) E (.error e) s') s1) :
    wpAny (model prog w) A (call (.type T) vs) Q E s := by
  have a1 := tc.made
  have a2 := tc.sub
  have a3 := tc.notType
  have a4 := tc.canCreate
  obtain ⟨_, _, a5⟩ := tc.mro
  refine wpAny_call (codeAny_of_tree (show wpAny _ _ (callAny (.type T) _) _ _ _ from wpAny_pure ⟨Code.quiet_builtin _ (by decide +kernel), codeAny_builtin PySem.F.entry_type_call ?_⟩))
  rw [Around.under_plain (weight_type_call_type T vs []) rfl]
  repeat (any_goals (first | assumption | wp_step))
  refine codeAny_mono new fun r s1 hr => ?_
  match r, hr with
  | .error e, hr => exact hr
  | .ok (.ret x), hr =>
    obtain ⟨hT, hi⟩ := then_ x s1 hr
    have b1 := tc.init.lookup
    have b2 := tc.init.bind x
    repeat (any_goals (first | assumption | wp_step))
    refine codeAny_mono (codeAny_call_builtin tc.init.plain en hi) fun r2 s2 hr2 => ?_
    match r2, hr2 with
    | .error e, hr2 => exact hr2
    | .ok (.ret y), hr2 =>
      obtain ⟨rfl, q⟩ := hr2
      repeat (any_goals (first | assumption | wp_step))
theorem isList_at {h h' : Heap} {l : Addr} {items : Array Value} (x : h.IsList l items) (k : ∀ o, h.get? l = some o → h'.get? l = some o) : h'.IsList l items :=
  let ⟨o, e, r⟩ := x
  ⟨o, k o e, r⟩
/-- the set of a list's texts -/
theorem set_texts {l : Addr} {items : Array Value} {xs : List Str} {Q : Value → Shared → Prop} (hh : A.handled = none) (hl : s.heap.IsList l items) (hi : StrsAre items.toList xs) (hroom : xs.length + 1 < scanBound)
    (h : ∀ (h' : Heap) (tk : Nat), h'.SetOf (PySem.strKind prog w) s.heap.objs.size (fun k => decide (k ∈ xs.take items.size)) (cnt xs items.size) → (∀ b o, s.heap.get? b = some o → h'.get? b = some o) →
      Q (.ref s.heap.objs.size) { s with heap := h', toks := tk }) : wpAny (model prog w) A (call (.type "set") [.ref l]) Q E s := by
  refine made_by (Q1 := fun x s1 => ∃ led : Bool, x = .ref s.heap.objs.size ∧ s1 = { s with heap := s.heap.push { cls := .type "set", dict := none, data := .set #[] 0 (.fresh 0 0 led) } })
    PySem.F.called_set (PySem.F.typeCall_set_1 (.ref l)) PySem.F.entry_set_init (code_set_new_1 (.ref l) fun led => ⟨led, rfl, rfl⟩) ?_
  rintro x s1 ⟨led, rfl, rfl⟩
  have n1 : (s.heap.push { cls := .type "set", dict := none, data := .set #[] 0 (.fresh 0 0 led) }).get? s.heap.objs.size = some { cls := .type "set", dict := none, data := .set #[] 0 (.fresh 0 0 led) } := Heap.get?_push_size _ rfl
  have ty : Shared.TypeIs { s with heap := s.heap.push { cls := .type "set", dict := none, data := .set #[] 0 (.fresh 0 0 led) } } (.ref s.heap.objs.size) "set" := ⟨_, n1, rfl⟩
  refine ⟨ty, check_set_init_1 ty ?_⟩
  have hl1 : (s.heap.push { cls := .type "set", dict := none, data := .set #[] 0 (.fresh 0 0 led) }).IsList l items := isList_at hl fun o e => Heap.get?_push_of_some _ e
  have hlt : l < s.heap.objs.size := let ⟨o, e, _⟩ := hl; Heap.lt_size e
  have hsz : xs.length = items.size := by rw [← StrsAre.len_eq hi, Array.length_toList]
  obtain ⟨ol, hol, hcl, nl, hdl⟩ := id hl1
  obtain ⟨c1, c2, c3, c4⟩ := ol
  simp only at hcl hdl
  subst hcl
  subst hdl
  have f1 := PySem.F.sub_list_set
  have f2 := PySem.F.sub_list_frozenset
  have f3 : (Value.type "list" == Value.type "dict") = false := by decide
  unfold Builtin.«set.__init__» noKeywords Builtin.Frozenset.updateFrom
  generalize hit : pyIter = it
  wp_walk
  subst hit
  refine wpAny_pyIter_list hl1 (wpAny_bind (wpAny_runValue ?_))
  have hne : l ≠ (s.heap.push { cls := .type "set", dict := none, data := .set #[] 0 (.fresh 0 0 led) }).objs.size := by rw [Heap.size_push]; exact Nat.ne_of_lt (Nat.lt_succ_of_lt hlt)
  have hout : s.heap.objs.size ∉ [(s.heap.push { cls := .type "set", dict := none, data := .set #[] 0 (.fresh 0 0 led) }).objs.size, l] := by
    rw [Heap.size_push]
    intro q
    rcases List.mem_cons.mp q with q | q
    · exact absurd q (Nat.ne_of_lt (Nat.lt_succ_self _))
    · exact absurd (List.mem_singleton.mp q) (Nat.ne_of_gt hlt)
  refine fill (knd := PySem.strKind prog w) ((Walks.list (by simp [hh]) _ l hne items).toS) xs hout hsz (by omega) (fun i v hv => ?_) items.size 0 _ (Nat.zero_add _) ⟨⟨_, Heap.get?_push_size _ rfl, rfl, rfl⟩, hl1.push _⟩ ?_ ?_
  · obtain ⟨t, rfl⟩ := SS.strs_at hi i v (by rw [Array.getElem?_toList]; exact hv)
    have hilt : i < xs.length := by rw [hsz]; exact (Array.getElem?_eq_some_iff.mp hv).1
    refine ⟨xs.getD i Str.empty, ?_, strKind_is _ _ _ _, rfl⟩
    rw [List.getD_eq_getElem?_getD, List.getElem?_eq_getElem hilt]
    rfl
  · have e0 : (fun k => decide (k ∈ xs.take 0)) = (fun _ => false : Str → Bool) := by funext k; simp
    rw [e0]
    exact (PyProof.Rows.setObjOf_fresh (knd := PySem.strKind prog w) led).setOf (Heap.get?_push_of_some _ n1) (by unfold scanBound; omega)
  · rintro ⟨h', g', d', tk', os'⟩ hm hS'
    have z1 : g' = s.gens := hm.gens
    have z2 : d' = s.drawn := hm.drawn
    have z3 : os' = s.os := hm.os
    subst z1 z2 z3
    refine wpAny_pure (wpAny_pure ⟨rfl, h h' tk' hS' fun b o e => ?_⟩)
    have hb := Heap.lt_size e
    refine hm.heap b o (fun q => ?_) (Heap.get?_push_of_some _ (Heap.get?_push_of_some _ e))
    rcases List.mem_cons.mp q with q | q
    · exact absurd q (Nat.ne_of_lt hb)
    · rw [List.mem_singleton, Heap.size_push] at q
      exact absurd q (Nat.ne_of_lt (Nat.lt_succ_of_lt hb))
end
end ST
namespace L2
open PySem PySem.Spec PyProof.Rows
/-- len(set(xs)), xs a list of texts -/
def tLenSetS (K : PySem.W.Frag) (ta : TE) : TE := fun σ H Q => ta σ H fun x H1 => ∃ (l : Addr) (xs : List Str), x = .ref l ∧ SqL K H1 l (xs.map V.str) ∧ xs.length ≤ 1000 ∧ ∀ n : Nat, n ≤ xs.length → (n = xs.length ↔ xs.Nodup) → Q (.int n) H1
theorem pe_lenSetS {X : Cx} {K : PySem.W.Frag} {a : Expr} {ta : TE} {p p2 q pos : Pos} (hc : X.calm = true) (hg : Gl X "len") (hm : X.mg "len" = none) (hg2 : Gl X "set") (hm2 : X.mg "set" = none) (ha : PE X a ta)
    (na : starEach [a] X.env = (false, eval a X.env) :: starEach [] X.env := by rfl) (hK : X.K = K := by rfl) : PE X (.Call (.Name "len" p) [.Call (.Name "set" p2) [a] [] q] [] pos) (tLenSetS K ta) := by
  subst hK
  refine ⟨fun pins s σ H Q I h => Call_ (ld_blt I hg hm boot_len (PyProof.Rows.callWith_builtin1 (PyProof.Rows.args_cons (Call_ (ld_blt I hg2 hm2 boot_set ?_)) rfl) rfl rfl))⟩
  refine PyProof.Rows.callWith_type1 (PyProof.Rows.args_cons (thn (ha.run pins s σ H _ I h) fun v s1 ⟨x, H1, I1, r1, l, xs, ex, hS, hz, k⟩ => PyProof.Rows.args_nil ?_) na) na rfl
  subst ex
  cases r1
  obtain ⟨its, r, pl, _⟩ := I1.list hS
  have hlen : its.toArray.size = xs.length := by rw [List.size_toArray, ← r.length, List.length_map]
  refine ST.set_texts (I1.ok.hd hc) pl.isList (by simpa using strsAre_of r) (by unfold scanBound; omega) fun h' tk hS' hk => PyProof.Rows.args_nil ?_
  rw [hlen] at hS'
  obtain ⟨o, es, ep, t, ho, hex, hd, _, _, _, hf, hn⟩ := hS'
  have I2 : Inv X pins σ H1 { s1 with heap := h', toks := tk } := I1.kept hk
  have hle := ST.cnt_le xs xs.length
  refine call_len_set ho hex hd hf (by rw [hn]; omega) ⟨.int (ST.cnt xs xs.length : Nat), H1, I2.tok _, ⟨_, by rw [hn]⟩, k _ hle ?_⟩
  have := ST.cnt_full xs xs.length (Nat.le_refl _)
  rwa [List.take_of_length_le (Nat.le_refl _)] at this
end L2

set_option Elab.async false
set_option linter.all false
set_option maxRecDepth 100000
namespace EX
open PySem L2 Evl

/-! ### a def with its promise, ready to be called -/
structure Def (P : Program) (w : World) (K : PySem.W.Frag) (mg : Str → Option Value) (base : Heap) (k : Nat) (x : Str) (ps : List Str) (sp : Sp) : Prop where
  ex : ∃ (f : Addr) (fd : FuncData), FnOk P w K mg base CX0 k f fd ps sp ∧ mg x = some (.ref f) ∧ PySem.W.keepIn K (.ref f) = true ∧ Binds K fd ps []
theorem pe_def {X : Cx} {k : Nat} {x : Str} {ps : List Str} {sp : Sp} {p pos : Pos} {e : Expr} {es : List Expr} {t : TA} (h : Def X.prog X.w X.K X.mg X.base k x ps sp) (hr : Room k X.A) (hg : Gl X x) (ha : PA X (e :: es) t)
    (hdb : (x == ("__debug__" : Str)) = false := by decide) (he : starEach (e :: es) X.env = (false, eval e X.env) :: starEach es X.env := by rfl) (hpl : (backTo pos (starEach es X.env)).any (·.1) = false := by rfl) :
    PE X (.Call (.Name x p) (e :: es) [] pos) (tCall sp [] E0 t) := by
  obtain ⟨f, fd, F, m, kp, b⟩ := h.ex
  exact pe_call F hr hg m kp b .nil pass0 ha hdb he hpl
theorem pe_def0 {X : Cx} {k : Nat} {x : Str} {ps : List Str} {sp : Sp} {p pos : Pos} (h : Def X.prog X.w X.K X.mg X.base k x ps sp) (hr : Room k X.A) (hg : Gl X x)
    (hdb : (x == ("__debug__" : Str)) = false := by decide) : PE X (.Call (.Name x p) [] [] pos) (tCall sp [] E0 tNil) := by
  obtain ⟨f, fd, F, m, kp, b⟩ := h.ex
  exact pe_call0 F hr hg m kp b .nil pass0 hdb

/-! ### rules with the written part named -/
section
variable {X : Cx} {K : PySem.W.Frag}
theorem ixL (h : X.K = K := by rfl) : IxR X (rIxL K) := h ▸ ix_list
theorem ixT (h : X.K = K := by rfl) : IxR X (rIxT K) := h ▸ ix_tup
theorem slL (h : X.K = K := by rfl) : SlR X (rSlL K) := h ▸ sl_list
theorem slT (h : X.K = K := by rfl) : SlR X (rSlT K) := h ▸ sl_tup
theorem opIn (h : X.K = K := by rfl) : OpR X (compareOp .In) (rIn K false) := h ▸ op_in_seq
theorem opNin (h : X.K = K := by rfl) : OpR X (compareOp .NotIn) (rIn K true) := h ▸ op_notIn_seq
theorem opEqD (hu : X.A.units + 64 < cLine) (h : X.K = K := by rfl) : OpR X (compareOp .Eq) (rEqD K) := h ▸ op_eqD hu
theorem opNeD (hu : X.A.units + 64 < cLine) (h : X.K = K := by rfl) : OpR X (compareOp .NotEq) (rNeD K) := h ▸ op_neD hu
theorem opInD (hu : X.A.units + 65 < cLine) (h : X.K = K := by rfl) : OpR X (compareOp .In) (rInD K) := h ▸ op_inD hu
theorem opNinD (hu : X.A.units + 65 < cLine) (h : X.K = K := by rfl) : OpR X (compareOp .NotIn) (rNotInD K) := h ▸ op_notInD hu
theorem crAny (hc : X.calm = true := by rfl) (h : X.K = K := by rfl) : CallR X (.builtin "any") (rAny K) := h ▸ cr_any hc
theorem crAll (hc : X.calm = true := by rfl) (h : X.K = K := by rfl) : CallR X (.builtin "all") (rAll K) := h ▸ cr_all hc
theorem clLen (h : X.K = K := by rfl) : CallR X (.builtin "len") (rLenS K) := h ▸ call_len_seq
theorem clList (h : X.K = K := by rfl) : CallR X (.type "list") (rListS K) := h ▸ call_list_of
def rDictP (K : PySem.W.Frag) : List V → Hp → VK → Prop := fun xs H Q => ∃ (a : Addr) (ps : List Addr) (kvs : List (Key × V)), xs = [.ref a] ∧ SqL K H a (ps.map V.ref) ∧ Paired (fun p kv => SqT K H p [kV kv.1, kv.2]) ps kvs ∧ ∀ p, H p = none → Q (.ref p) (upd H p (.dK (mergeK [] kvs)))
theorem clDictP (hc : X.calm = true := by rfl) (h : X.K = K := by rfl) : CallR X (.type "dict") (rDictP K) := h ▸ call_dictP hc
theorem piL {tg l : Expr} {tl : TE} (hl : PE X l tl) (h : X.K = K := by rfl) : PI X tg l (iList K tl) := h ▸ pi_list hl
theorem piT {tg l : Expr} {tl : TE} (hl : PE X l tl) (h : X.K = K := by rfl) : PI X tg l (iTup K tl) := h ▸ pi_tup hl
theorem peBm {o e : Expr} {es : List Expr} {to : TE} {t : TA} {name : Str} {apos cpos : Pos} {T id : String} {r : V → List V → Hp → VK → Prop} (pa : PlainAttrs T) (slot : Slot T name id) (hty : typeOf (.builtin id) = pure (.type "method_descriptor")) (hm : MtR X id r) (ho : PE X o to) (ha : PA X (e :: es) t)
    (hbase : attributeBase o name X.env (eval o X.env) = eval o X.env := by rfl)
    (hfew : ((backTo cpos (starEach (e :: es) X.env)).all (fun x => !x.1) && (backToKw cpos (keywordEach [] X.env)).all (fun x => x.1.isSome)
      && decide ((e :: es).length + ([] : List Keyword).length + (if ([] : List Keyword).isEmpty then 0 else 1) < 30)) = true := by rfl)
    (hline : (apos.endLine == cpos.line) = true := by rfl) (hs : starEach (e :: es) X.env = (false, eval e X.env) :: starEach es X.env := by rfl) (hplain : (backTo cpos (starEach es X.env)).any (·.1) = false := by rfl) (h : X.K = K := by rfl) :
    PE X (.Call (.Attribute o name apos) (e :: es) [] cpos) (tBM K T r to t) := h ▸ pe_bm pa slot hty hm ho ha hbase hfew hline hs hplain
end
section
variable {X : Cx} {K : PySem.W.Frag}
theorem hu65 {k : Nat} {A : Around} (hr : Room k A) : A.units + 65 < cLine := by have := hr.un; omega
theorem piEnum {e : Expr} {ta : TA} {p pos tpos : Pos} {elts : List Expr} {kk : Nat} (hg : Gl X "enumerate") (hm : X.mg "enumerate" = none) (ha : PA X [e] ta) (hs : starEach [e] X.env = [(false, eval e X.env)] := by rfl) (h : X.K = K := by rfl) :
    PI X (.Tuple elts kk tpos) (.Call (.Name "enumerate" p) [e] [] pos) (iEnum K ta) := h ▸ pi_enum hg hm ha hs
theorem piRev {tg e : Expr} {ta : TA} {p pos : Pos} (hg : Gl X "reversed") (hm : X.mg "reversed" = none) (ha : PA X [e] ta) (hs : starEach [e] X.env = [(false, eval e X.env)] := by rfl) (h : X.K = K := by rfl) :
    PI X tg (.Call (.Name "reversed" p) [e] [] pos) (iRev K ta) := h ▸ pi_reversed hg hm ha hs
end
/-! ### texts among values -/
theorem inV_str (t : Str) : ∀ l : List Str, inV (.str t) (l.map V.str) = decide (t ∈ l)
  | [] => rfl
  | a :: l => by
    have ih := inV_str t l
    unfold inV at ih ⊢
    rw [List.map_cons, List.any_cons, ih]
    show ((a == t) || decide (t ∈ l)) = decide (t ∈ a :: l)
    by_cases e : a = t
    · subst e; simp
    · have h1 : (a == t) = false := by simpa [beq_iff_eq] using e
      have h2 : ¬ t = a := fun q => e q.symm
      rw [h1, Bool.false_or]
      simp [List.mem_cons, h2]
theorem flat_str (l : List Str) : (l.map V.str).all flatV = true := by
  induction l with
  | nil => rfl
  | cons a l ih => rw [List.map_cons, List.all_cons, ih]; rfl
theorem at0 {α : Type} {x : α} {r : List α} : atI (x :: r) 0 = some x := atI_nat (j := 0) rfl
def optS : Option Str → V
  | none => .non
  | some t => .str t
theorem cut1 {xs : List V} : cutV xs (some 1) none = xs.tail := by
  unfold cutV
  rw [HT.sIx_none]
  have h1 : HT.sIx xs.length 0 (some 1) = min 1 xs.length := HT.sIx_nat xs.length 0 1
  rw [h1]
  cases xs with
  | nil => rfl
  | cons a r =>
    have h2 : min 1 (a :: r).length = 1 := by simp
    rw [h2]
    simp
/-! ### readings that evaluate -/
section
variable {K : PySem.W.Frag} {σ : L2.St} {H H' : Hp} {ta tb te : TE}
theorem ev_any {bs : List Bool} (h : EvL te σ H (bs.map V.bl)) : Ev (tCB (rAny K) (tCons te tNil)) σ H (.bl (bs.any id)) := fun H1 e Q q =>
  h H1 e _ fun p H2 _ e2 hp => ⟨p, bs, rfl, sq_of hp, q H2 e2⟩
theorem ev_all {bs : List Bool} (h : EvL te σ H (bs.map V.bl)) : Ev (tCB (rAll K) (tCons te tNil)) σ H (.bl (bs.all id)) := fun H1 e Q q =>
  h H1 e _ fun p H2 _ e2 hp => ⟨p, bs, rfl, sq_of hp, q H2 e2⟩
end
section
variable {K : PySem.W.Frag} {σ : L2.St} {H H' : Hp} {ta tb te : TE} {D : Ends} {x : V}
theorem rv_isN : RV (fun x y H Q => y = .non ∧ Q (.bl (decide (x = .non))) H) x .non H (.bl (decide (x = .non))) := fun H1 _ _ q => ⟨rfl, q H1 (Ex.refl H1)⟩
theorem rv_notN : RV (fun x y H Q => y = .non ∧ Q (.bl (!decide (x = .non))) H) x .non H (.bl (!decide (x = .non))) := fun H1 _ _ q => ⟨rfl, q H1 (Ex.refl H1)⟩
/-- xs.pop(0) as a statement -/
theorem s_pop0 {l : Addr} {y : V} {xs : List V} (hl : H l = some (.lst (y :: xs))) (ha : Ev ta σ H (.ref l)) (h : Ev te σ H (.int 0)) (k : ∀ H1, Ex H H1 → D.nx σ (upd H1 l (.lst xs))) : tDrop (tBM K "list" rPopAt ta (tCons te tNil)) D σ H :=
  ha H (Ex.refl H) _ fun H1 e1 => ⟨Or.inl ⟨rfl, _, sq_of (e1 l _ hl)⟩, h H1 e1 _ fun H2 e2 => ⟨l, y :: xs, 0, 0, y, rfl, rfl, e2 l _ (e1 l _ hl), by decide, by decide, by simp [seqIndex?], rfl, k H2 (e1.trans e2)⟩⟩
end
/-- lists of texts at the addresses that a list holds -/
def Rows (K : PySem.W.Frag) (H : Hp) (ps : List V) (ls : List (List Str)) : Prop :=
  ps.length = ls.length ∧ ∀ (i : Nat) (l : List Str), ls[i]? = some l → ∃ p, ps[i]? = some (.ref p) ∧ SqL K H p (l.map V.str)
theorem Rows.mono {K : PySem.W.Frag} {H H' : Hp} {ps : List V} {ls : List (List Str)} (r : Rows K H ps ls) (e : Ex H H') : Rows K H' ps ls :=
  ⟨r.1, fun i l h => let ⟨p, h1, h2⟩ := r.2 i l h; ⟨p, h1, ex_l e h2⟩⟩
theorem Rows.at {K : PySem.W.Frag} {H : Hp} {ps : List V} {ls : List (List Str)} (r : Rows K H ps ls) {i : Nat} {x : V} (h : ps[i]? = some x) : ∃ p l, x = .ref p ∧ ls[i]? = some l ∧ SqL K H p (l.map V.str) := by
  have hi : i < ls.length := by rw [← r.1]; exact (List.getElem?_eq_some_iff.mp h).1
  obtain ⟨p, h1, h2⟩ := r.2 i ls[i] (List.getElem?_eq_getElem hi)
  rw [h] at h1
  exact ⟨p, ls[i], Option.some.inj h1, List.getElem?_eq_getElem hi, h2⟩
/-! ### more of comprehensions -/
theorem range_getD {α : Type} (rs : List α) (d : α) : (List.range rs.length).map (fun i => rs.getD i d) = rs := by
  apply List.ext_getElem?
  intro j
  by_cases h : j < rs.length
  · rw [List.getElem?_map, List.getElem?_range h, List.getElem?_eq_getElem h]
    show some (rs.getD j d) = _
    rw [List.getD_eq_getElem?_getD, List.getElem?_eq_getElem h]
    rfl
  · rw [List.getElem?_eq_none (by simp; omega), List.getElem?_eq_none (by omega)]
theorem range_filter {α β : Type} (rs : List α) (d : α) (p : α → Bool) (f : α → β) : ((List.range rs.length).filter fun i => p (rs.getD i d)).map (fun i => f (rs.getD i d)) = (rs.filter p).map f := by
  conv => rhs; rw [← range_getD rs d]
  rw [List.filter_map, List.map_map]
  rfl
theorem given_filter {α : Type} (rs : List α) (d : α) (p : α → Bool) (f : α → V) : given rs.length (fun i => p (rs.getD i d)) (fun i => f (rs.getD i d)) = (rs.filter p).map f := range_filter rs d p f
theorem given_map {α : Type} (rs : List α) (d : α) (f : α → V) : given rs.length (fun _ => true) (fun i => f (rs.getD i d)) = rs.map f := by
  have := given_filter rs d (fun _ => true) f
  rwa [List.filter_eq_self.mpr (fun _ _ => rfl)] at this
theorem getD_of {α : Type} {rs : List α} {j : Nat} {x d : α} (h : rs[j]? = some x) : rs.getD j d = x := by
  rw [List.getD_eq_getElem?_getD, h]
  rfl
/-- lists at addresses -/
def LAt (H : Hp) (qs : List Addr) (ls : List (List V)) : Prop := qs.length = ls.length ∧ ∀ (i : Nat) (l : List V), ls[i]? = some l → ∃ q, qs[i]? = some q ∧ H q = some (.lst l)
theorem LAt.mono {H H' : Hp} {qs : List Addr} {ls : List (List V)} (r : LAt H qs ls) (e : ∀ q ∈ qs, ∀ o, H q = some o → H' q = some o) : LAt H' qs ls :=
  ⟨r.1, fun i l h => let ⟨q, h1, h2⟩ := r.2 i l h; ⟨q, h1, e q (List.mem_of_getElem? h1) _ h2⟩⟩
theorem LAt.all {H : Hp} {qs : List Addr} {ls : List (List V)} (r : LAt H qs ls) {q : Addr} (h : q ∈ qs) : ∃ l, H q = some (.lst l) := by
  obtain ⟨i, hi, e⟩ := List.getElem_of_mem h
  have hl : i < ls.length := by rw [← r.1]; exact hi
  obtain ⟨q', h1, h2⟩ := r.2 i ls[i] (List.getElem?_eq_getElem hl)
  rw [List.getElem?_eq_getElem hi, e] at h1
  cases h1
  exact ⟨_, h2⟩
theorem LAt.snoc {H : Hp} {qs : List Addr} {ls : List (List V)} {p : Addr} {l : List V} (r : LAt H qs ls) (h : H p = some (.lst l)) : LAt H (qs ++ [p]) (ls ++ [l]) := by
  refine ⟨by simp [r.1], fun i x hx => ?_⟩
  by_cases hi : i < ls.length
  · rw [List.getElem?_append_left hi] at hx
    obtain ⟨q, h1, h2⟩ := r.2 i x hx
    exact ⟨q, by rw [List.getElem?_append_left (by rw [r.1]; exact hi)]; exact h1, h2⟩
  · rw [List.getElem?_append_right (by omega)] at hx
    have h0 : i - ls.length = 0 := by
      cases hz : i - ls.length with
      | zero => rfl
      | succ n => rw [hz] at hx; simp at hx
    rw [h0] at hx
    simp at hx
    subst hx
    refine ⟨p, ?_, h⟩
    rw [List.getElem?_append_right (by rw [r.1]; omega), r.1, h0]
    rfl
def givenL (n : Nat) (f : Nat → Bool) (v : Nat → List V) : List (List V) := ((List.range n).filter f).map v
theorem givenL_yes {n : Nat} {f : Nat → Bool} {v : Nat → List V} (h : f n = true) : givenL (n + 1) f v = givenL n f v ++ [v n] := by
  unfold givenL
  rw [List.range_succ, List.filter_append, List.map_append, List.filter_cons, if_pos h]
  rfl
theorem givenL_no {n : Nat} {f : Nat → Bool} {v : Nat → List V} (h : f n = false) : givenL (n + 1) f v = givenL n f v := by
  unfold givenL
  rw [List.range_succ, List.filter_append, List.map_append, List.filter_cons, if_neg (by rw [h]; decide)]
  simp
theorem givenL_len (n : Nat) (f : Nat → Bool) (v : Nat → List V) : (givenL n f v).length ≤ n := by
  unfold givenL
  rw [List.length_map]
  have h := List.length_filter_le f (List.range n)
  rwa [List.length_range] at h
/-- new lists, all apart, in a new list -/
structure NewL (H H' : Hp) (D : Addr) (qs : List Addr) (ls : List (List V)) : Prop where
  nD : H D = none
  ex : Ex H H'
  at_ : H' D = some (.lst (qs.map V.ref))
  out : D ∉ qs
  nd : qs.Nodup
  new : ∀ q ∈ qs, H q = none
  rows : LAt H' qs ls
theorem nodup_snoc {α : Type} {l : List α} {a : α} (h : l.Nodup) (ha : a ∉ l) : (l ++ [a]).Nodup := by
  rw [List.nodup_append]
  exact ⟨h, by simp, fun x hx y hy => by simp at hy; subst hy; exact fun e => ha (e ▸ hx)⟩
section
variable {K : PySem.W.Frag} {σ : L2.St} {H : Hp} {te tl : TE} {t : TT}
theorem newL_turn {H0 H' : Hp} {D : Addr} {qs : List Addr} {n : Nat} {f : Nat → Bool} {v : Nat → List V} {σ2 : L2.St} (r : NewL H0 H' D qs (givenL n f v)) (hn : n < 50000) (ht : EvT t σ2 H0 (f n)) (he : f n = true → EvL te σ2 H0 (v n)) :
    t σ2 H' fun b H3 => if b = true then te σ2 H3 fun y H4 => ∃ acc, H4 D = some (.lst acc) ∧ acc.length < sizeLine ∧ (∃ qs', NewL H0 (upd H4 D (.lst (acc ++ [y]))) D qs' (givenL (n + 1) f v)) else ∃ qs', NewL H0 H3 D qs' (givenL (n + 1) f v) := by
  refine ht H' r.ex _ fun H3 e3 => ?_
  have rows3 := r.rows.mono (H' := H3) fun q _ o e => e3 q o e
  cases hf : f n with
  | false =>
    show ∃ qs', NewL H0 H3 D qs' (givenL (n + 1) f v)
    rw [givenL_no hf]
    exact ⟨qs, r.nD, r.ex.trans e3, e3 _ _ r.at_, r.out, r.nd, r.new, rows3⟩
  | true =>
    show te σ2 H3 _
    refine he hf H3 (r.ex.trans e3) _ fun p H4 hp e4 hp4 => ?_
    have hl : qs.length ≤ n := by rw [r.rows.1]; exact givenL_len n f v
    have hD3 : H3 D = some (.lst (qs.map V.ref)) := e3 _ _ r.at_
    have hpD : p ≠ D := fun q => by rw [q, hD3] at hp; cases hp
    have hpq : p ∉ qs := fun q => by
      obtain ⟨l, hl⟩ := rows3.all q
      rw [hl] at hp
      cases hp
    refine ⟨qs.map V.ref, e4 _ _ hD3, sz_lt (by rw [List.length_map]; omega), qs ++ [p], r.nD, Ex.mut ((r.ex.trans e3).trans e4) r.nD, ?_, ?_, nodup_snoc r.nd hpq, ?_, ?_⟩
    · rw [upd_same, List.map_append]
      rfl
    · intro q
      rcases List.mem_append.mp q with q | q
      · exact r.out q
      · exact hpD (List.mem_singleton.mp q).symm
    · intro q hq
      rcases List.mem_append.mp hq with hq | hq
      · exact r.new q hq
      · rw [List.mem_singleton.mp hq]
        exact fresh_back (r.ex.trans e3) hp
    · rw [givenL_yes hf]
      refine LAt.snoc (rows3.mono fun q hq o e => ?_) ?_
      · have hqD : q ≠ D := fun z => r.out (by rw [← z]; exact hq)
        rw [upd_ne hqD]
        exact e4 _ _ e
      · rw [upd_ne hpD]
        exact hp4
theorem lcNew {a : Addr} {xs : List V} {j : Nat} {vs : List Nat} (f : Nat → Bool) (v : Nat → List V) (h : Ev tl σ H (.ref a)) (hx : SqL K H a xs) (hz : xs.length ≤ 40000) (hw : ∀ x, wipe ((wipe σ vs).set j (some x)) vs = wipe σ vs)
    (ht : ∀ (i : Nat) (x : V) H1, Ex H H1 → xs[i]? = some x → EvT t ((wipe σ vs).set j (some x)) H1 (f i)) (he : ∀ (i : Nat) (x : V) H1, Ex H H1 → xs[i]? = some x → f i = true → EvL te ((wipe σ vs).set j (some x)) H1 (v i))
    {Q : VK} (q : ∀ Dl qs H', NewL H H' Dl qs (givenL xs.length f v) → Q (.ref Dl) H') : tLc (iList K tl) (gName j) t te vs σ H Q :=
  h H (Ex.refl H) _ fun H1 e1 => ⟨a, rfl, ⟨xs, ex_l e1 hx⟩, fun Dl hD =>
    lc_list (xs := xs) (fun i H' => ∃ qs, NewL H1 H' Dl qs (givenL i f v)) ⟨[], hD, Ex.new hD, upd_same, by simp, List.nodup_nil, (fun q hq => nomatch hq), rfl, (fun i l hl => by simp [givenL] at hl)⟩
      (fun i H' _ ⟨qs, r⟩ => ex_l (e1.trans r.ex) hx)
      (fun i x H' hi ⟨qs, r⟩ => ⟨hw x, newL_turn r (by have := (List.getElem?_eq_some_iff.mp hi).1; omega) (ht i x H1 e1 hi) (fun hf => he i x H1 e1 hi hf)⟩)
      (fun H' ⟨qs, r⟩ => q Dl qs H' ⟨fresh_back e1 r.nD, e1.trans r.ex, r.at_, r.out, r.nd, (fun a ha => fresh_back e1 (r.new a ha)), r.rows⟩)⟩
theorem q_lcNew {D : Ends} {tz : TS} {i : Nat} {a : Addr} {xs : List V} {j : Nat} {vs : List Nat} (f : Nat → Bool) (v : Nat → List V) (h : Ev tl σ H (.ref a)) (hx : SqL K H a xs) (hz : xs.length ≤ 40000) (hw : ∀ x, wipe ((wipe σ vs).set j (some x)) vs = wipe σ vs)
    (ht : ∀ (i : Nat) (x : V) H1, Ex H H1 → xs[i]? = some x → EvT t ((wipe σ vs).set j (some x)) H1 (f i)) (he : ∀ (i : Nat) (x : V) H1, Ex H H1 → xs[i]? = some x → f i = true → EvL te ((wipe σ vs).set j (some x)) H1 (v i))
    (k : ∀ Dl qs H', NewL H H' Dl qs (givenL xs.length f v) → tz D (σ.set i (some (.ref Dl))) H') : tSeq (tAsg (tLc (iList K tl) (gName j) t te vs) (gName i)) tz D σ H :=
  lcNew (Q := fun x H1 => gName i x σ H1 (tz D)) f v h hx hz hw ht he k
end
/-! ### data: lists of texts, or none -/
def dS (l : List Str) : PyData := .list (l.map .str)
def dO : Option (List Str) → PyData
  | none => .none
  | some l => dS l
def Oks (l : List Str) : Prop := ∀ x ∈ l, PyData.strOk x = true
theorem canLayAll_strs : ∀ {l : List Str}, Oks l → PyData.canLayAll0 (l.map .str) = true
  | [], _ => rfl
  | a :: l, h => by
    show (PyData.strOk a && PyData.canLayAll0 (l.map .str)) = true
    rw [h a List.mem_cons_self, canLayAll_strs fun x hx => h x (List.mem_cons_of_mem _ hx)]
    rfl
theorem depthAll_strs : ∀ l : List Str, PyData.depthAll (l.map .str) = 0
  | [] => by simp [PyData.depthAll]
  | a :: l => by
    have := depthAll_strs l
    simp [PyData.depthAll, PyData.depth, this]
theorem depth_dS (l : List Str) : (dS l).depth = 1 := by
  unfold dS
  simp [PyData.depth, depthAll_strs]
theorem shaped_dS {l : List Str} (h : Oks l) : SeqAt.shaped (dS l) = true := by
  unfold SeqAt.shaped
  rw [depth_dS]
  show (PyData.canLayAll0 (l.map .str) && _) = true
  rw [canLayAll_strs h]
  rfl
theorem shaped_none : SeqAt.shaped .none = true := by
  unfold SeqAt.shaped
  simp [PyData.canLay0, PyData.depth]
theorem shaped_str {x : Str} (h : PyData.strOk x = true) : SeqAt.shaped (.str x) = true := by
  unfold SeqAt.shaped
  simp [PyData.canLay0, PyData.depth, h]
def OksO (r : Option (List Str)) : Prop := ∀ l, r = some l → Oks l
theorem shaped_dO {r : Option (List Str)} (h : OksO r) : SeqAt.shaped (dO r) = true := by
  cases r with
  | none => exact shaped_none
  | some l => exact shaped_dS (h l rfl)
theorem depth_dO (r : Option (List Str)) : (dO r).depth ≤ 1 := by
  cases r with
  | none => simp [dO, PyData.depth]
  | some l => rw [show dO (some l) = dS l from rfl, depth_dS]; exact Nat.le_refl _
theorem shaped_dOs {rs : List (Option (List Str))} (h : ∀ r ∈ rs, OksO r) : SeqAt.shaped (.list (rs.map dO)) = true := by
  have h1 : PyData.canLayAll0 (rs.map dO) = true ∧ PyData.depthAll (rs.map dO) ≤ 1 := by
    induction rs with
    | nil => exact ⟨rfl, by simp [PyData.depthAll]⟩
    | cons r rs ih =>
      obtain ⟨a, b⟩ := ih fun x hx => h x (List.mem_cons_of_mem _ hx)
      have c := shaped_dO (h r List.mem_cons_self)
      have d := depth_dO r
      refine ⟨?_, ?_⟩
      · show (PyData.canLay0 (dO r) && PyData.canLayAll0 (rs.map dO)) = true
        rw [SeqAt.canLay_of_shaped c, a]
        rfl
      · rw [List.map_cons]
        simp only [PyData.depthAll]
        omega
  unfold SeqAt.shaped
  show (PyData.canLayAll0 (rs.map dO) && decide (PyData.depth (.list (rs.map dO)) ≤ 64)) = true
  rw [h1.1]
  have : PyData.depth (.list (rs.map dO)) ≤ 64 := by
    simp only [PyData.depth]
    omega
  simp [this]
theorem eqv_strs : ∀ a b : List Str, PyData.eqvAll (a.map .str) (b.map .str) = decide (a = b)
  | [], [] => by simp [PyData.eqvAll]
  | [], _ :: _ => by simp [PyData.eqvAll]
  | _ :: _, [] => by simp [PyData.eqvAll]
  | x :: a, y :: b => by
    rw [List.map_cons, List.map_cons]
    simp only [PyData.eqvAll, PyData.eqv, eqv_strs a b]
    by_cases h : x = y
    · subst h; simp
    · simp [h]
theorem eqv_dS (a b : List Str) : PyData.eqv (dS a) (dS b) = decide (a = b) := by
  unfold dS
  simp only [PyData.eqv]
  exact eqv_strs a b
theorem eqv_dO (a b : Option (List Str)) : PyData.eqv (dO a) (dO b) = decide (a = b) := by
  cases a with
  | none =>
    cases b with
    | none => simp [dO, PyData.eqv]
    | some l => simp [dO, dS, PyData.eqv]
  | some k =>
    cases b with
    | none => simp [dO, dS, PyData.eqv]
    | some l =>
      show PyData.eqv (dS k) (dS l) = _
      rw [eqv_dS]
      simp
theorem any_none (rs : List (Option (List Str))) : ((rs.map dO).any fun z => PyData.eqv z .none) = rs.any (·.isNone) := by
  rw [List.any_map]
  congr 1
  funext r
  show PyData.eqv (dO r) (dO none) = _
  rw [eqv_dO]
  cases r <;> simp
section
variable {K : PySem.W.Frag} {H : Hp}
theorem dp_all_strs : ∀ l : List Str, DpAll K H (l.map V.str) (l.map .str)
  | [] => .nil
  | a :: l => .cons (.str a) (dp_all_strs l)
theorem dp_S {p : Addr} {l : List Str} (h : SqL K H p (l.map V.str)) : Dp K H (.ref p) (dS l) := .lst h (dp_all_strs l)
/-- a value that is none or a list of texts -/
def ValO (K : PySem.W.Frag) (H : Hp) (v : V) (r : Option (List Str)) : Prop := match r with
  | none => v = .non
  | some l => ∃ p, v = .ref p ∧ SqL K H p (l.map V.str)
theorem ValO.mono {H' : Hp} {v : V} {r : Option (List Str)} (h : ValO K H v r) (e : Ex H H') : ValO K H' v r := by
  cases r with
  | none => exact h
  | some l =>
    obtain ⟨p, a, b⟩ := h
    exact ⟨p, a, ex_l e b⟩
theorem dp_O {v : V} {r : Option (List Str)} (h : ValO K H v r) : Dp K H v (dO r) := by
  cases r with
  | none =>
    have : v = .non := h
    subst this
    exact .non
  | some l =>
    obtain ⟨p, rfl, b⟩ := h
    exact dp_S b
theorem dp_Os : ∀ {vs : List V} {rs : List (Option (List Str))}, vs.length = rs.length → (∀ (i : Nat) v r, vs[i]? = some v → rs[i]? = some r → ValO K H v r) → DpAll K H vs (rs.map dO)
  | [], [], _, _ => .nil
  | v :: vs, r :: rs, hl, h => .cons (dp_O (h 0 v r rfl rfl)) (dp_Os (by simpa using hl) fun i a b ha hb => h (i + 1) a b (by simpa using ha) (by simpa using hb))
  | [], _ :: _, hl, _ => by simp at hl
  | _ :: _, [], hl, _ => by simp at hl
end
/-! ### dicts, lists: what evaluates -/
section
variable {K : PySem.W.Frag} {σ : L2.St} {H : Hp} {ta tb te td ty : TE} {D : Ends} {tz : TS} {x v : V}
theorem dget_of {d : Addr} {kvs : List (Key × V)} {k : Key} (hd : Rd H d (.dK kvs)) : DGet H d (kV k) (valV kvs k) := .inl ⟨kvs, k, hd, rfl, rfl⟩
theorem ev_dget {d : Addr} {kvs : List (Key × V)} {k : Key} (h1 : Ev td σ H (.ref d)) (h2 : Ev ty σ H (kV k)) (hd : Rd H d (.dK kvs)) (hv : valV kvs k = some v) : Ev (tDGet td ty) σ H v := fun H1 e Q q =>
  h1 H1 e _ fun H2 e2 => h2 H2 (e.trans e2) _ fun H3 e3 => ⟨d, v, rfl, by rw [← hv]; exact dget_of (ex_rd ((e.trans e2).trans e3) hd), q H3 (e2.trans e3)⟩
theorem ev_din {d : Addr} {kvs : List (Key × V)} {k : Key} (h2 : Ev ty σ H (kV k)) (h1 : Ev td σ H (.ref d)) (hd : Rd H d (.dK kvs)) : Ev (tDIn ty td) σ H (.bl (valV kvs k).isSome) := fun H1 e Q q =>
  h2 H1 e _ fun H2 e2 => h1 H2 (e.trans e2) _ fun H3 e3 => ⟨d, _, rfl, dget_of (ex_rd ((e.trans e2).trans e3) hd), q H3 (e2.trans e3)⟩
theorem ev_dnin {d : Addr} {kvs : List (Key × V)} {k : Key} (h2 : Ev ty σ H (kV k)) (h1 : Ev td σ H (.ref d)) (hd : Rd H d (.dK kvs)) : Ev (tDNotIn ty td) σ H (.bl (!(valV kvs k).isSome)) := fun H1 e Q q =>
  h2 H1 e _ fun H2 e2 => h1 H2 (e.trans e2) _ fun H3 e3 => ⟨d, _, rfl, dget_of (ex_rd ((e.trans e2).trans e3) hd), q H3 (e2.trans e3)⟩
/-- xs + [..] -/
theorem el_cat {l : Addr} {xs ys : List V} (ha : Ev ta σ H (.ref l)) (hl : H l = some (.lst xs)) (hb : EvL tb σ H ys) (hz : xs.length + ys.length ≤ 100000) : EvL (tOp rCat ta tb) σ H (xs ++ ys) := fun H1 e Q q =>
  ha H1 e _ fun H2 e2 => hb H2 (e.trans e2) _ fun b H3 _ e3 hb3 => ⟨l, b, xs, ys, rfl, rfl, ((e.trans e2).trans e3) _ _ hl, hb3, sz_of hz, fun p hp => q p _ (fresh_back (e2.trans e3) hp) ((e2.trans e3).trans (Ex.new hp)) upd_same⟩
/-- [..] + xs -/
theorem el_cat1 {b : Addr} {xs ys : List V} (ha : EvL ta σ H xs) (hb : Ev tb σ H (.ref b)) (hl : H b = some (.lst ys)) (hz : xs.length + ys.length ≤ 100000) : EvL (tOp rCat ta tb) σ H (xs ++ ys) := fun H1 e Q q =>
  ha H1 e _ fun a H2 _ e2 ha2 => hb H2 (e.trans e2) _ fun H3 e3 => ⟨a, b, xs, ys, rfl, rfl, e3 _ _ ha2, ((e.trans e2).trans e3) _ _ hl, sz_of hz, fun p hp => q p _ (fresh_back (e2.trans e3) hp) ((e2.trans e3).trans (Ex.new hp)) upd_same⟩
/-- [..] + [..] -/
theorem el_cat2 {xs ys : List V} (ha : EvL ta σ H xs) (hb : EvL tb σ H ys) (hz : xs.length + ys.length ≤ 100000) : EvL (tOp rCat ta tb) σ H (xs ++ ys) := fun H1 e Q q =>
  ha H1 e _ fun a H2 _ e2 ha2 => hb H2 (e.trans e2) _ fun b H3 _ e3 hb3 => ⟨a, b, xs, ys, rfl, rfl, e3 _ _ ha2, hb3, sz_of hz, fun p hp => q p _ (fresh_back (e2.trans e3) hp) ((e2.trans e3).trans (Ex.new hp)) upd_same⟩
/-- None in a list of such values; d: its data -/
theorem rv_inD {a : Addr} {d : PyData} {ds : List PyData} (h1 : Dp K H x d) (h2 : Dp K H (.ref a) (.list ds)) (s1 : SeqAt.shaped d = true) (s2 : SeqAt.shaped (.list ds) = true) (hm : ∀ H1, Ex H H1 → Dp K H1 x d ∧ Dp K H1 (.ref a) (.list ds)) :
    RV (rInD K) x (.ref a) H (.bl (ds.any fun z => PyData.eqv z d)) := fun H1 e _ q => ⟨d, ds, (hm H1 e).1, (hm H1 e).2, s1, s2, q H1 (Ex.refl H1)⟩
/-- len(set(xs)) < len(xs) -/
theorem et_lenSet {l : Addr} {xs : List Str} (h : Ev ta σ H (.ref l)) (hS : SqL K H l (xs.map V.str)) (hz : xs.length ≤ 1000) : EvT (tTest (tOp (rI0 fun i j => .bl (decide (i < j))) (tLenSetS K ta) (tCB (rLenS K) (tCons ta tNil)))) σ H (!decide xs.Nodup) := fun H1 e Q q =>
  h H1 e _ fun H2 e2 => ⟨l, xs, rfl, ex_l (e.trans e2) hS, hz, fun n hn hi => ev_len (K := K) h hS H2 (e.trans e2) _ fun H3 e3 => ⟨n, (xs.map V.str).length, rfl, rfl, _, rfl, by
    have hb : decide ((n : Int) < ((xs.map V.str).length : Nat)) = !decide xs.Nodup := by
      rw [List.length_map]
      by_cases nd : xs.Nodup
      · have := hi.mpr nd
        simp [nd, this]
      · have : n ≠ xs.length := fun z => nd (hi.mp z)
        simp [nd]
        omega
    rw [hb]
    exact q H3 (e2.trans e3)⟩⟩
/-- xs.extend(ys) -/
theorem s_ext {l b : Addr} {xs ys : List V} (hl : H l = some (.lst xs)) (hb : H b = some (.lst ys)) (ha : Ev ta σ H (.ref l)) (h : Ev te σ H (.ref b)) (hz : xs.length + ys.length ≤ 100000) (k : ∀ H1, Ex H H1 → D.nx σ (upd H1 l (.lst (xs ++ ys)))) :
    tDrop (tBM K "list" rExtend ta (tCons te tNil)) D σ H := ha H (Ex.refl H) _ fun H1 e1 =>
  ⟨Or.inl ⟨rfl, xs, sq_of (e1 l _ hl)⟩, h H1 e1 _ fun H2 e2 => ⟨l, b, xs, ys, rfl, rfl, e2 l _ (e1 l _ hl), e2 b _ (e1 b _ hb), sz_of hz, k H2 (e1.trans e2)⟩⟩
/-- d[k] = v, v told by what holds of it -/
theorem s_dputG {d : Addr} {k : Key} {tv : TE} (G : V → Hp → Prop) (hv : ∀ Q : VK, (∀ v H1, G v H1 → Q v H1) → tv σ H Q)
    (h : ∀ v H1, G v H1 → ∃ kvs, H1 d = some (.dK kvs) ∧ kvs.length < 100000 ∧ Ev td σ H1 (.ref d) ∧ Ev ty σ H1 (kV k) ∧ ∀ H2, Ex H1 H2 → D.nx σ (upd H2 d (.dK (putK kvs k v)))) : sDPut td ty tv D σ H :=
  hv _ fun v H1 g => by
    obtain ⟨kvs, a, b, c, c', n⟩ := h v H1 g
    exact c H1 (Ex.refl H1) _ fun H2 e2 => c' H2 e2 _ fun H3 e3 => ⟨d, _, rfl, DPut.k ((e2.trans e3) _ _ a) (sz_lt b), n H3 (e2.trans e3)⟩
/-- xs.pop() -/
theorem q_pop {l : Addr} {xs : List V} {y : V} (hl : H l = some (.lst (xs ++ [y]))) (ha : Ev ta σ H (.ref l)) (k : ∀ H1, Ex H H1 → tz D σ (upd H1 l (.lst xs))) :
    tSeq (tDrop (tBM0 K "list" rPop ta)) tz D σ H := ha H (Ex.refl H) _ fun H1 e1 =>
  ⟨Or.inl ⟨rfl, _, sq_of (e1 l _ hl)⟩, l, xs ++ [y], y, rfl, rfl, e1 l _ hl, by simp, by
    rw [List.dropLast_concat]
    exact k H1 e1⟩
end
/-! ### some value of which P holds -/
def EvN (te : TE) (σ : L2.St) (H : Hp) (P : V → Prop) : Prop := ∀ H1, Ex H H1 → ∀ Q : VK, (∀ v H2, Ex H1 H2 → P v → Q v H2) → te σ H1 Q
section
variable {σ : L2.St} {H : Hp} {ta tb te : TE} {P P1 P2 : V → Prop} {v : V} {r : R2} {D : Ends} {tz : TS}
theorem en_ev (h : Ev te σ H v) : EvN te σ H (fun x => x = v) := fun H1 e Q q => h H1 e Q fun H2 e2 => q v H2 e2 rfl
theorem en_op (ha : EvN ta σ H P1) (hb : EvN tb σ H P2) (hr : ∀ x y, P1 x → P2 y → ∃ z, P z ∧ RV r x y H z) : EvN (tOp r ta tb) σ H P := fun H1 e Q q =>
  ha H1 e _ fun x H2 e2 p1 => hb H2 (e.trans e2) _ fun y H3 e3 p2 => by
    obtain ⟨z, pz, hz⟩ := hr x y p1 p2
    exact hz H3 ((e.trans e2).trans e3) Q fun H4 e4 => q z H4 ((e2.trans e3).trans e4) pz
theorem en_call {sp : Sp} {dvs vs : List V} {E : XK} {ta : TA} (h : EvA ta σ H vs) (hs : ∀ H1, Ex H H1 → ∀ Q : VK, (∀ v H2, Ex H1 H2 → P v → Q v H2) → ∀ E : XK, sp (vs ++ dvs) H1 Q E) : EvN (tCall sp dvs E ta) σ H P := fun H1 e Q q =>
  h H1 e _ fun H2 e2 => hs H2 (e.trans e2) Q (fun v H3 e3 p => q v H3 (e2.trans e3) p) E
theorem s_retN (h : EvN te σ H P) (k : ∀ v H1, Ex H H1 → P v → D.rt v H1) : tRet te D σ H := h H (Ex.refl H) _ fun v H1 e p => k v H1 e p
theorem q_asgN {i : Nat} (h : EvN te σ H P) (k : ∀ v H1, Ex H H1 → P v → tz D (σ.set i (some v)) H1) : tSeq (tAsg te (gName i)) tz D σ H := h H (Ex.refl H) _ fun v H1 e p => k v H1 e p
end
/-! ### one object left out -/
/-- the heap without what stands at a -/
def hide (a : Addr) (H : Hp) : Hp := fun b => if b = a then none else H b
theorem hide_at {a : Addr} {H : Hp} : hide a H a = none := by unfold hide; rw [if_pos rfl]
theorem hide_ne {a b : Addr} {H : Hp} (h : b ≠ a) : hide a H b = H b := by unfold hide; rw [if_neg h]
theorem hide_ex {a : Addr} {H : Hp} : Ex (hide a H) H := fun b o h => by
  by_cases e : b = a
  · rw [e, hide_at] at h; cases h
  · rwa [hide_ne e] at h
theorem hide_get {a b : Addr} {H : Hp} {o : HO} (h : H b = some o) (n : b ≠ a) : hide a H b = some o := by rw [hide_ne n]; exact h
theorem hide_mono {a : Addr} {H H' : Hp} (e : Ex H H') : Ex (hide a H) (hide a H') := fun b o h => by
  by_cases q : b = a
  · rw [q, hide_at] at h; cases h
  · rw [hide_ne q] at h ⊢
    exact e b o h
/-- back to a heap that does not know a -/
theorem ex_hide {a : Addr} {B H : Hp} (e : Ex B H) (n : B a = none) : Ex B (hide a H) := fun b o h => by
  rw [hide_ne (ne_of_none h n)]
  exact e b o h
theorem hide_upd {a : Addr} {H : Hp} {o : HO} : hide a (upd H a o) = hide a H := by
  funext b
  unfold hide
  split
  · rfl
  · rename_i h
    exact upd_ne h
theorem hide_upd_ne {a b : Addr} {H : Hp} {o : HO} (h : b ≠ a) : hide a (upd H b o) = upd (hide a H) b o := by
  funext c
  by_cases q : c = a
  · rw [q, hide_at, upd_ne (Ne.symm h), hide_at]
  · rw [hide_ne q]
    by_cases z : c = b
    · rw [z, upd_same, upd_same]
    · rw [upd_ne z, upd_ne z, hide_ne q]
/-! ### rows read: a value and the texts of the list there -/
abbrev VR := V × List Str
def RowsP (K : PySem.W.Frag) (H : Hp) (rs : List VR) : Prop := ∀ r ∈ rs, ∃ p, r.1 = .ref p ∧ SqL K H p (r.2.map V.str)
theorem RowsP.mono {K : PySem.W.Frag} {H H' : Hp} {rs : List VR} (h : RowsP K H rs) (e : Ex H H') : RowsP K H' rs := fun r hr => let ⟨p, a, b⟩ := h r hr; ⟨p, a, ex_l e b⟩
theorem dpAll_rows {K : PySem.W.Frag} {H : Hp} : ∀ {rs : List VR}, RowsP K H rs → DpAll K H (rs.map (·.1)) (rs.map fun r => dS r.2)
  | [], _ => .nil
  | r :: rs, h => by
    obtain ⟨p, a, b⟩ := h r List.mem_cons_self
    refine .cons ?_ (dpAll_rows fun x hx => h x (List.mem_cons_of_mem _ hx))
    show Dp K H r.1 (dS r.2)
    rw [a]
    exact dp_S b
theorem shaped_dSs {rs : List (List Str)} (h : ∀ r ∈ rs, Oks r) : SeqAt.shaped (.list (rs.map dS)) = true := by
  have := shaped_dOs (rs := rs.map some) fun r hr l hl => by
    obtain ⟨x, hx, rfl⟩ := List.mem_map.mp hr
    cases hl
    exact h _ hx
  rw [List.map_map] at this
  exact this
theorem eqv_nil (ds : List PyData) : PyData.eqv (.list ds) (.list []) = ds.isEmpty := by
  cases ds <;> simp [PyData.eqv, PyData.eqvAll]
theorem shaped_nil : SeqAt.shaped (.list []) = true := by
  unfold SeqAt.shaped
  simp [PyData.canLay0, PyData.canLayAll0, PyData.depth, PyData.depthAll]
theorem mem_getElem {α : Type} {l : List α} {i : Nat} {x : α} (h : l[i]? = some x) : x ∈ l := List.mem_of_getElem? h
theorem cutTake {xs : List V} {k : Nat} : cutV xs none (some (k : Int)) = xs.take k := by
  unfold cutV
  rw [HT.sIx_none, HT.sIx_nat]
  simp
theorem cutDrop {xs : List V} {k : Nat} : cutV xs (some (k : Int)) none = xs.drop k := by
  unfold cutV
  rw [HT.sIx_none, HT.sIx_nat]
  rw [List.take_of_length_le (by rw [List.length_drop]; exact Nat.le_refl _)]
  rw [Nat.min_def]
  split
  · rfl
  · rw [List.drop_of_length_le (Nat.le_refl _), List.drop_of_length_le (by omega)]
section
variable {K : PySem.W.Frag} {σ : L2.St} {H : Hp} {ta tb te : TE} {x y : V}
theorem rv_neD {d e : PyData} (hm : ∀ H1, Ex H H1 → Dp K H1 x d ∧ Dp K H1 y e) (s1 : SeqAt.shaped d = true) (s2 : SeqAt.shaped e = true) : RV (rNeD K) x y H (.bl (!PyData.eqv d e)) := fun H1 e1 _ q => ⟨d, e, (hm H1 e1).1, (hm H1 e1).2, s1, s2, q H1 (Ex.refl H1)⟩
theorem rv_eqD {d e : PyData} (hm : ∀ H1, Ex H H1 → Dp K H1 x d ∧ Dp K H1 y e) (s1 : SeqAt.shaped d = true) (s2 : SeqAt.shaped e = true) : RV (rEqD K) x y H (.bl (PyData.eqv d e)) := fun H1 e1 _ q => ⟨d, e, (hm H1 e1).1, (hm H1 e1).2, s1, s2, q H1 (Ex.refl H1)⟩
theorem el_nil : EvL (tLst tNil) σ H [] := el_lst ea_nil (Nat.zero_le _)
/-- xs != [] -/
theorem ev_neNil {p : Addr} {l : List Str} (h : Ev ta σ H (.ref p)) (hS : SqL K H p (l.map V.str)) (ho : Oks l) : Ev (tOp (rNeD K) ta (tLst tNil)) σ H (.bl (!l.isEmpty)) := by
  refine ev_is (ev_opL h el_nil fun q H1 hq e1 => rv_neD (K := K) (fun H2 e2 => ⟨dp_S (ex_l (e1.trans e2) hS), .lst (sq_of (e2 _ _ hq)) .nil⟩) (shaped_dS ho) shaped_nil) ?_
  unfold dS
  rw [eqv_nil]
  cases l <;> rfl
theorem ev_eqNil {p : Addr} {l : List Str} (h : Ev ta σ H (.ref p)) (hS : SqL K H p (l.map V.str)) (ho : Oks l) : Ev (tOp (rEqD K) ta (tLst tNil)) σ H (.bl l.isEmpty) := by
  refine ev_is (ev_opL h el_nil fun q H1 hq e1 => rv_eqD (K := K) (fun H2 e2 => ⟨dp_S (ex_l (e1.trans e2) hS), .lst (sq_of (e2 _ _ hq)) .nil⟩) (shaped_dS ho) shaped_nil) ?_
  unfold dS
  rw [eqv_nil]
  cases l <;> rfl
end
section
variable {σ : L2.St} {H : Hp} {ta tb te : TE} {r : R2} {D : Ends} {tz : TS} {Q : VK}
theorem q_raw {i : Nat} (h : te σ H fun v H1 => tz D (σ.set i (some v)) H1) : tSeq (tAsg te (gName i)) tz D σ H := h
theorem s_raw {i : Nat} (h : te σ H fun v H1 => D.nx (σ.set i (some v)) H1) : tAsg te (gName i) D σ H := h
theorem op_raw (h : ta σ H fun x H1 => tb σ H1 fun y H2 => r x y H2 Q) : tOp r ta tb σ H Q := h
end
end EX

set_option Elab.async false
set_option linter.all false
set_option maxRecDepth 100000
/-! draws: a tap (a list of four ints at tp) that each draw changes; a draw is any number in its range -/
namespace EX
open PySem L2 Evl
def Tap (H : Hp) (tp : Addr) : Prop := ∃ a b c d : Int, H tp = some (.lst [.int a, .int b, .int c, .int d])
theorem Tap.mono {H H' : Hp} {tp : Addr} (t : Tap H tp) (e : Ex H H') : Tap H' tp := let ⟨a, b, c, d, h⟩ := t; ⟨a, b, c, d, e _ _ h⟩
/-- the promise of a draw below n -/
def spDraw : Sp := fun vs H Q _ => ∃ (tp : Addr) (n : Int), vs = [.ref tp, .int n] ∧ Tap H tp ∧ 0 < n ∧ n < 1073741824 ∧
  ∀ (r : Int) (H' : Hp), 0 ≤ r → r < n → Ex (hide tp H) H' → Tap H' tp → Q (.int r) H'
/-- te evaluates, drawing, to some value of which P holds; what B knows stays -/
def Dr (tp : Addr) (te : TE) (σ : L2.St) (B : Hp) (P : V → Prop) : Prop := ∀ H1, Ex B H1 → Tap H1 tp → ∀ Q : VK, (∀ v H2, Ex B H2 → Tap H2 tp → P v → Q v H2) → te σ H1 Q
def DrT (tp : Addr) (tt : TT) (σ : L2.St) (B : Hp) (P : Bool → Prop) : Prop := ∀ H1, Ex B H1 → Tap H1 tp → ∀ Q : Bool → Hp → Prop, (∀ b H2, Ex B H2 → Tap H2 tp → P b → Q b H2) → tt σ H1 Q
section
variable {tp : Addr} {σ : L2.St} {B H : Hp} {ta tb te : TE} {t u : TT} {P P1 P2 : V → Prop} {v : V} {r : R2} {D : Ends} {tu tw tz : TS}
theorem Dr.imp (h : Dr tp te σ B P) (k : ∀ v, P v → P1 v) : Dr tp te σ B P1 := fun H1 e t Q q => h H1 e t Q fun v H2 e2 t2 p => q v H2 e2 t2 (k v p)
theorem dr_ev (h : Ev te σ B v) : Dr tp te σ B (fun x => x = v) := fun H1 e t Q q => h H1 e Q fun H2 e2 => q v H2 (e.trans e2) (t.mono e2) rfl
theorem dr_var {i : Nat} (h : σ[i]? = some (some v)) : Dr tp (tVar i) σ B (fun x => x = v) := dr_ev (ev_var h)
theorem dr_c : Dr tp (tC v) σ B (fun x => x = v) := dr_ev ev_c
theorem dr_draw {j : Nat} (N : Int) (hN : N < 1073741824) (hj : σ[j]? = some (some (.ref tp))) (nB : B tp = none) (h : Dr tp te σ B (fun v => ∃ n : Int, v = .int n ∧ 0 < n ∧ n ≤ N)) :
    Dr tp (tCall spDraw [] E0 (tCons (tVar j) (tCons te tNil))) σ B (fun v => ∃ r : Int, v = .int r ∧ 0 ≤ r ∧ r < N) := fun H1 e t Q q =>
  ⟨_, hj, h H1 e t _ fun v H2 e2 t2 ⟨n, hv, h0, hn⟩ => by
    subst hv
    exact ⟨tp, n, rfl, t2, h0, by omega, fun r H3 r0 r1 e3 t3 => q _ H3 ((ex_hide e2 nB).trans e3) t3 ⟨r, rfl, r0, by omega⟩⟩⟩
theorem dr_op (ha : Dr tp ta σ B P1) (hb : Dr tp tb σ B P2) (hr : ∀ x y, P1 x → P2 y → ∃ z, P z ∧ RV r x y B z) : Dr tp (tOp r ta tb) σ B P := fun H1 e t Q q =>
  ha H1 e t _ fun x H2 e2 t2 p1 => hb H2 e2 t2 _ fun y H3 e3 t3 p2 => by
    obtain ⟨z, pz, hz⟩ := hr x y p1 p2
    exact hz H3 e3 Q fun H4 e4 => q z H4 (e3.trans e4) (t3.mono e4) pz
/-- int(x) -/
theorem dr_int1 (h : Dr tp te σ B (fun v => ∃ b, v = .bl b)) : Dr tp (tCB (fun xs H Q => (∃ i, xs = [.int i] ∧ Q (.int i) H) ∨ ∃ k, xs = [.bl k] ∧ Q (.int (if k then 1 else 0)) H) (tCons te tNil)) σ B (fun v => v = .int 0 ∨ v = .int 1) := fun H1 e t Q q =>
  h H1 e t _ fun v H2 e2 t2 ⟨b, hb⟩ => .inr ⟨b, by rw [hb], q _ H2 e2 t2 (by cases b <;> simp)⟩
theorem drT_test (h : Dr tp te σ B (fun v => ∃ b, v = .bl b)) : DrT tp (tTest te) σ B (fun _ => True) := fun H1 e t Q q => h H1 e t _ fun v H2 e2 t2 ⟨b, hb⟩ => ⟨b, hb, q b H2 e2 t2 trivial⟩
theorem drT_ev {b : Bool} (h : EvT t σ B b) : DrT tp t σ B (fun c => c = b) := fun H1 e t Q q => h H1 e Q fun H2 e2 => q b H2 (e.trans e2) (t.mono e2) rfl
theorem drT_or {p q : Bool → Prop} (h1 : DrT tp t σ B p) (h2 : DrT tp u σ B q) : DrT tp (tOr t u) σ B (fun _ => True) := fun H1 e tt Q k => h1 H1 e tt _ fun c H2 e2 t2 _ => by
  cases c with
  | true =>
    show Q true H2
    exact k true H2 e2 t2 trivial
  | false =>
    show u σ H2 Q
    exact h2 H2 e2 t2 Q fun c H3 e3 t3 _ => k c H3 e3 t3 trivial
/-! ### statements -/
theorem q_asgD {i : Nat} (ht : Tap H tp) (h : Dr tp te σ (hide tp H) P) (k : ∀ v H1, Ex (hide tp H) H1 → Tap H1 tp → P v → tz D (σ.set i (some v)) H1) : tSeq (tAsg te (gName i)) tz D σ H :=
  h H hide_ex ht _ fun v H1 e t p => k v H1 e t p
theorem s_ifD {p : Bool → Prop} (ht : Tap H tp) (h : DrT tp t σ (hide tp H) p) (k1 : p true → ∀ H1, Ex (hide tp H) H1 → Tap H1 tp → tu D σ H1) (k2 : p false → ∀ H1, Ex (hide tp H) H1 → Tap H1 tp → tw D σ H1) : tIfS t tu tw D σ H :=
  h H hide_ex ht _ fun b H1 e t pb => by
    cases b with
    | true =>
      show tu D σ H1
      exact k1 pb H1 e t
    | false =>
      show tw D σ H1
      exact k2 pb H1 e t
theorem q_whenD {p : Bool → Prop} (ht : Tap H tp) (h : DrT tp t σ (hide tp H) p) (k1 : p true → ∀ H1, Ex (hide tp H) H1 → Tap H1 tp → tu { D with nx := tz D } σ H1) (k2 : p false → ∀ H1, Ex (hide tp H) H1 → Tap H1 tp → tz D σ H1) : tSeq (tIfS t tu tNext) tz D σ H :=
  s_ifD (D := { D with nx := tz D }) ht h k1 k2
theorem s_whenD {p : Bool → Prop} (ht : Tap H tp) (h : DrT tp t σ (hide tp H) p) (k1 : p true → ∀ H1, Ex (hide tp H) H1 → Tap H1 tp → tu D σ H1) (k2 : p false → ∀ H1, Ex (hide tp H) H1 → Tap H1 tp → D.nx σ H1) : tIfS t tu tNext D σ H :=
  s_ifD ht h k1 k2
end
end EX

set_option Elab.async false
set_option linter.all false
set_option maxRecDepth 100000
namespace EX
open PySem L2 Evl
section
variable {tp : Addr} {σ : L2.St} {B H : Hp} {ta tb te : TE} {t u : TT} {P P1 P2 : V → Prop} {v : V} {r : R2} {D : Ends} {tu tw tz : TS} {K : PySem.W.Frag}
/-- the first operand a new list -/
theorem dr_opL {xs : List V} (nB : B tp = none) (ha : EvL ta σ B xs) (hb : ∀ B', Ex B B' → B' tp = none → Dr tp tb σ B' P2) (hr : ∀ p y B', Ex B B' → B' p = some (.lst xs) → P2 y → ∃ z, P z ∧ RV r (.ref p) y B' z) : Dr tp (tOp r ta tb) σ B P := fun H1 e t Q q =>
  ha H1 e _ fun p H2 np e2 at2 => by
    have hp : p ≠ tp := by
      obtain ⟨a, b, c, d, ht⟩ := t
      exact fun z => by rw [z, ht] at np; cases np
    have eB : Ex B (hide tp H2) := ex_hide (e.trans e2) nB
    refine hb (hide tp H2) eB hide_at H2 hide_ex (t.mono e2) _ fun y H3 e3 t3 p2 => ?_
    obtain ⟨z, pz, hz⟩ := hr p y (hide tp H2) eB (hide_get at2 hp) p2
    exact hz H3 e3 Q fun H4 e4 => q z H4 (eB.trans (e3.trans e4)) (t3.mono e4) pz
theorem ixAt {xs : List V} {p : Addr} {i : Int} {j : Nat} {x : V} (h : H p = some (.lst xs)) (hi : i = (j : Int)) (hx : xs[j]? = some x) : RV (rIxL K) (.ref p) (.int i) H x := rv_ixL (sq_of h) (at_of hi hx)
/-- for .. in range(a draw) -/
theorem s_forD {j : Nat} (N : Int) (hN : N ≤ 100000) (ht : Tap H tp) (h : Dr tp te σ (hide tp H) (fun v => ∃ r : Int, v = .int r ∧ 0 ≤ r ∧ r < N)) (Pv : Nat → L2.St → Hp → Prop) (h0 : ∀ H1, Ex (hide tp H) H1 → Tap H1 tp → Pv 0 σ H1)
    (hs : ∀ (i : Nat) σ' H', (i : Int) + 1 < N → Pv i σ' H' → tu { D with nx := Pv (i + 1), ct := Pv (i + 1), bk := D.nx } (σ'.set j (some (.int (i : Int)))) H') (hd : ∀ (n : Nat) σ' H', (n : Int) < N → Pv n σ' H' → D.nx σ' H') :
    tFor (iRng1 (tCons te tNil)) (gName j) tu D σ H :=
  h H hide_ex ht _ fun v H1 e t ⟨n, hv, n0, n1⟩ => by
    subst hv
    refine ⟨n, rfl, by omega, by omega, for_range (lo := 0) (n := n.toNat) Pv (h0 H1 e t) (fun i σ' H' hi p => ?_) fun σ' H' p => hd n.toNat σ' H' (by omega) p⟩
    show tu { D with nx := Pv (i + 1), ct := Pv (i + 1), bk := D.nx } (σ'.set j (some (.int ((0 : Int) + (i : Int))))) H'
    rw [Int.zero_add]
    exact hs i σ' H' (by omega) p
theorem q_forD {j : Nat} (N : Int) (hN : N ≤ 100000) (ht : Tap H tp) (h : Dr tp te σ (hide tp H) (fun v => ∃ r : Int, v = .int r ∧ 0 ≤ r ∧ r < N)) (Pv : Nat → L2.St → Hp → Prop) (h0 : ∀ H1, Ex (hide tp H) H1 → Tap H1 tp → Pv 0 σ H1)
    (hs : ∀ (i : Nat) σ' H', (i : Int) + 1 < N → Pv i σ' H' → tu { D with nx := Pv (i + 1), ct := Pv (i + 1), bk := tz D } (σ'.set j (some (.int (i : Int)))) H') (hd : ∀ (n : Nat) σ' H', (n : Int) < N → Pv n σ' H' → tz D σ' H') :
    tSeq (tFor (iRng1 (tCons te tNil)) (gName j) tu) tz D σ H := s_forD (D := { D with nx := tz D }) N hN ht h Pv h0 hs hd
/-- a comprehension over reversed(xs) -/
theorem lc_rev {a : Addr} {xs : List V} {g : TG} {tt : TT} {vs : List Nat} {H1 : Hp} {Dl : Addr} {Qd : Hp → Prop} (Pv : Nat → Hp → Prop) (h0 : Pv 0 (upd H1 Dl (.lst []))) (hl : ∀ i H, i ≤ xs.length → Pv i H → SqL K H a xs)
    (hs : ∀ i x H, i < xs.length → xs[xs.length - 1 - i]? = some x → Pv i H → g x (wipe σ vs) H fun σ2 H2 => wipe σ2 vs = wipe σ vs ∧ tt σ2 H2 fun b H3 =>
      if b = true then te σ2 H3 fun y H4 => ∃ acc, H4 Dl = some (.lst acc) ∧ acc.length < sizeLine ∧ Pv (i + 1) (upd H4 Dl (.lst (acc ++ [y]))) else Pv (i + 1) H3) (hd : ∀ H, Pv xs.length H → Qd H) :
    ∃ W : Nat → Nat → Hp → Prop, (∃ m, W 0 m (upd H1 Dl (.lst []))) ∧ ∀ i m H, W i m H →
      ((Itv K a xs.length).stop i H ∧ Qd H) ∨ ((Itv K a xs.length).go i H ∧ ∃ Nx : Hp → Prop, (∀ H', Nx H' → ∃ m', m' < m ∧ W (i + 1) m' H') ∧ ∀ x H', (Itv K a xs.length).yld i H x H' → g x (wipe σ vs) H' fun σ2 H2 => wipe σ2 vs = wipe σ vs ∧ tt σ2 H2 fun b H3 =>
        if b = true then te σ2 H3 fun y H4 => ∃ acc, H4 Dl = some (.lst acc) ∧ acc.length < sizeLine ∧ Nx (upd H4 Dl (.lst (acc ++ [y]))) else Nx H3) := by
  refine ⟨fun i m H => m = xs.length - i ∧ i ≤ xs.length ∧ Pv i H, ⟨xs.length, rfl, Nat.zero_le _, h0⟩, ?_⟩
  rintro i m H ⟨rfl, hi, p⟩
  by_cases hlt : i < xs.length
  · have hj : xs.length - 1 - i < xs.length := by omega
    refine .inr ⟨⟨hlt, xs, xs[xs.length - 1 - i], hl i H hi p, List.getElem?_eq_getElem hj⟩, fun H' => Pv (i + 1) H', fun H' h => ⟨xs.length - (i + 1), by omega, rfl, by omega, h⟩, ?_⟩
    rintro x H' ⟨rfl, hx⟩
    exact hs i x H' hlt (hx xs (hl i H' hi p)) p
  · have e : i = xs.length := by omega
    subst e
    exact .inl ⟨Nat.le_refl _, hd H p⟩
theorem el_lcRev {a : Addr} {xs : List V} {tl : TE} {j : Nat} {vs : List Nat} (f : Nat → Bool) (v : Nat → V) (h : Ev tl σ H (.ref a)) (hx : SqL K H a xs) (hz : xs.length ≤ 40000) (hw : ∀ x, wipe ((wipe σ vs).set j (some x)) vs = wipe σ vs)
    (ht : ∀ (i : Nat) (x : V) H1, Ex H H1 → i < xs.length → xs[xs.length - 1 - i]? = some x → EvT t ((wipe σ vs).set j (some x)) H1 (f i)) (he : ∀ (i : Nat) (x : V) H1, Ex H H1 → i < xs.length → xs[xs.length - 1 - i]? = some x → f i = true → Ev te ((wipe σ vs).set j (some x)) H1 (v i)) :
    EvL (tLc (iRev K (tCons tl tNil)) (gName j) t te vs) σ H (given xs.length f v) := fun H0 e Q q => h H0 e _ fun H1 e1 => ⟨a, xs, rfl, ex_l (e.trans e1) hx, fun Dl hD =>
  lc_rev (xs := xs) (Cw H1 f v Dl) ⟨hD, Ex.new hD, upd_same⟩ (fun i H' _ p => ex_l ((e.trans e1).trans p.2.1) hx) (fun i x H' hlt hi p => ⟨hw x, cw_turn p (by omega) (ht i x H1 (e.trans e1) hlt hi) (fun hf => he i x H1 (e.trans e1) hlt hi hf)⟩)
    (fun H' p => q Dl H' (fresh_back e1 p.1) (e1.trans p.2.1) p.2.2)⟩
end
/-- a slice of texts is a list of texts of it -/
theorem cut_strs (ts : List Str) (lo hi : Option Int) : ∃ nl : List Str, cutV (ts.map V.str) lo hi = nl.map V.str ∧ (∀ x ∈ nl, x ∈ ts) ∧ nl.length ≤ ts.length := by
  refine ⟨(ts.drop (HT.sIx ts.length 0 lo)).take (HT.sIx ts.length ts.length hi - HT.sIx ts.length 0 lo), ?_, fun x hx => List.mem_of_mem_drop (List.mem_of_mem_take hx), ?_⟩
  · unfold cutV
    rw [List.length_map, List.map_take, List.map_drop]
  · rw [List.length_take, List.length_drop]
    omega
theorem mem_given {n : Nat} {f : Nat → Bool} {v : Nat → V} {x : V} (h : x ∈ given n f v) : ∃ i, i < n ∧ f i = true ∧ x = v i := by
  unfold given at h
  obtain ⟨i, hi, rfl⟩ := List.mem_map.mp h
  obtain ⟨h1, h2⟩ := List.mem_filter.mp hi
  exact ⟨i, List.mem_range.mp h1, h2, rfl⟩
/-- values that are all texts of ts -/
theorem strs_of {vs : List V} {P : Str → Prop} (h : ∀ v ∈ vs, ∃ x, v = .str x ∧ P x) : ∃ xs : List Str, vs = xs.map V.str ∧ ∀ x ∈ xs, P x := by
  induction vs with
  | nil => exact ⟨[], rfl, fun x hx => nomatch hx⟩
  | cons v vs ih =>
    obtain ⟨x, rfl, hx⟩ := h v List.mem_cons_self
    obtain ⟨xs, rfl, hxs⟩ := ih fun w hw => h w (List.mem_cons_of_mem _ hw)
    exact ⟨x :: xs, rfl, fun y hy => by
      rcases List.mem_cons.mp hy with q | q
      · rw [q]; exact hx
      · exact hxs y q⟩
end EX

set_option Elab.async false
set_option linter.all false
set_option maxRecDepth 100000
namespace EX
open PySem L2 Evl
section
variable {tp : Addr} {σ : L2.St} {B H : Hp} {ta tb te : TE} {t u : TT} {P P1 P2 : V → Prop} {v : V} {r : R2} {D : Ends} {tu tw tz : TS} {K : PySem.W.Frag} {sp : Sp} {vs : List V} {E : XK} {tA : TA}
/-- for i, x in enumerate(xs) -/
theorem s_forE {a : Addr} {xs : List V} {tl : TE} {i j : Nat} (h : Ev tl σ H (.ref a)) (hx : SqL K H a xs) (Pv : Nat → L2.St → Hp → Prop) (h0 : ∀ H1, Ex H H1 → Pv 0 σ H1) (hl : ∀ n σ' H', n ≤ xs.length → Pv n σ' H' → SqL K H' a xs)
    (hs : ∀ (n : Nat) (x : V) σ' H' T, xs[n]? = some x → Pv n σ' H' → H' T = none → tu { D with nx := Pv (n + 1), ct := Pv (n + 1), bk := D.nx } ((σ'.set i (some (.int (n : Nat)))).set j (some x)) (upd H' T (.tup [.int (n : Nat), x]))) (hd : ∀ σ' H', Pv xs.length σ' H' → D.nx σ' H') :
    tFor (iEnum K (tCons tl tNil)) (gTup K 2 (gCons (gName i) (gCons (gName j) gNil))) tu D σ H :=
  h H (Ex.refl H) _ fun H1 e => ⟨a, xs, rfl, ex_l e hx, fun n m σ' H' => m = xs.length - n ∧ n ≤ xs.length ∧ Pv n σ' H', ⟨xs.length, rfl, Nat.zero_le _, h0 H1 e⟩, by
    rintro n m σ' H' ⟨rfl, hn, p⟩
    have hS := hl n σ' H' hn p
    by_cases hlt : n < xs.length
    · refine .inr ⟨⟨xs, xs[n], hS, List.getElem?_eq_getElem hlt⟩, fun σ2 H2 => Pv (n + 1) σ2 H2, fun σ2 H2 q => ⟨xs.length - (n + 1), by omega, rfl, by omega, q⟩, ?_⟩
      rintro v H2 ⟨T, x, rfl, nT, rfl, hv⟩
      exact ⟨T, _, rfl, st_of upd_same, rfl, _, _, rfl, _, _, rfl, rfl, hs n x σ' H' T (hv xs hS) p nT⟩
    · have e : n = xs.length := by omega
      subst e
      exact .inl ⟨⟨xs, hS, Nat.le_refl _⟩, hd σ' H' p⟩⟩
theorem q_forE {a : Addr} {xs : List V} {tl : TE} {i j : Nat} (h : Ev tl σ H (.ref a)) (hx : SqL K H a xs) (Pv : Nat → L2.St → Hp → Prop) (h0 : ∀ H1, Ex H H1 → Pv 0 σ H1) (hl : ∀ n σ' H', n ≤ xs.length → Pv n σ' H' → SqL K H' a xs)
    (hs : ∀ (n : Nat) (x : V) σ' H' T, xs[n]? = some x → Pv n σ' H' → H' T = none → tu { D with nx := Pv (n + 1), ct := Pv (n + 1), bk := tz D } ((σ'.set i (some (.int (n : Nat)))).set j (some x)) (upd H' T (.tup [.int (n : Nat), x]))) (hd : ∀ σ' H', Pv xs.length σ' H' → tz D σ' H') :
    tSeq (tFor (iEnum K (tCons tl tNil)) (gTup K 2 (gCons (gName i) (gCons (gName j) gNil))) tu) tz D σ H := s_forE (D := { D with nx := tz D }) h hx Pv h0 hl hs hd
/-- x = f(..), f(..) by f's own promise -/
theorem q_callA {i : Nat} (h : EvA tA σ H vs) (k : ∀ H1, Ex H H1 → sp (vs ++ []) H1 (fun v H2 => tz D (σ.set i (some v)) H2) E) : tSeq (tAsg (tCall sp [] E tA) (gName i)) tz D σ H := h H (Ex.refl H) _ k
theorem s_callD (h : EvA tA σ H vs) (k : ∀ H1, Ex H H1 → sp (vs ++ []) H1 (fun _ H2 => D.nx σ H2) E) : tDrop (tCall sp [] E tA) D σ H := h H (Ex.refl H) _ k
theorem s_retA (h : EvA tA σ H vs) (k : ∀ H1, Ex H H1 → sp (vs ++ []) H1 D.rt E) : tRet (tCall sp [] E tA) D σ H := h H (Ex.refl H) _ k
theorem call_raw {Q : VK} (h : EvA tA σ H vs) (k : ∀ H1, Ex H H1 → sp (vs ++ []) H1 Q E) : tCall sp [] E tA σ H Q := h H (Ex.refl H) _ k
theorem cutS_mem {z : Str} {lo hi : Option Int} : (∀ c ∈ (cutS z lo hi).cps.toList, c ∈ z.cps.toList) ∧ (cutS z lo hi).length ≤ z.length := by
  unfold cutS
  constructor
  · intro c hc
    exact List.mem_of_mem_drop (List.mem_of_mem_take (by simpa using hc))
  · unfold Str.length
    simp
    omega
/-- z[:a draw] -/
theorem dr_slTo {z : Str} {N : Int} (hz : z.length ≤ 1000) (h : Dr tp te σ B (fun v => ∃ r : Int, v = .int r ∧ 0 ≤ r ∧ r < N)) :
    Dr tp (tSl rSlS (tC (.str z)) tNoPart (tPart te)) σ B (fun v => ∃ x : Str, v = .str x ∧ (∀ c ∈ x.cps.toList, c ∈ z.cps.toList) ∧ x.length ≤ z.length) := fun H1 e t Q q =>
  h H1 e t _ fun v H2 e2 t2 ⟨r, hv, _, _⟩ => ⟨r, hv, z, rfl, sz_of (by omega), q _ H2 e2 t2 ⟨_, rfl, cutS_mem.1, cutS_mem.2⟩⟩
theorem rv_addS {a b : Str} (h : a.length + b.length ≤ 100000) : RV (fun x y H Q => ∃ i j, x = .str i ∧ y = .str j ∧ i.length + j.length ≤ sizeLine ∧ Q (.str (i ++ j)) H) (.str a) (.str b) H (.str (a ++ b)) := fun H1 _ _ q => ⟨a, b, rfl, rfl, sz_of h, q H1 (Ex.refl H1)⟩
theorem ixS {z : Str} {i : Int} {j c : Nat} (hz : z.length ≤ 1000) (hi : i = (j : Int)) (hc : z.cps.toList[j]? = some c) : RV rIxS (.str z) (.int i) H (.str ⟨#[c]⟩) := rv_ixS (by omega) (by rw [hi]; exact atI_nat hc)
end
end EX

set_option Elab.async false
set_option linter.all false
set_option maxRecDepth 100000
set_option maxHeartbeats 1000000
/-! list(reversed(xs)), xs a list -/
namespace LR
open PySem PySem.Spec PyProof.Rows
section
variable {prog : Program} {w : World} {A : Around} {E : Value → Shared → Prop} {s : Shared}
theorem list_rev {it l : Addr} {items : Array Value} {Q : Value → Shared → Prop} (hh : A.handled = none) (hi : s.heap.IsRevIter it l ((items.size : Int) - 1)) (hl : s.heap.IsList l items) (hne : l ≠ it) (hn : items.size ≤ sizeLine)
    (h : ∀ (h' : Heap) (tk : Nat) (acc : Array Value) (c : Nat), (∀ b o, b ≠ it → s.heap.get? b = some o → h'.get? b = some o) → h'.get? s.heap.objs.size = some { cls := .type "list", dict := none, data := .seq acc c, slots := #[] } →
      ItemsOf (fun i v => items[items.size - 1 - i]? = some v) acc items.size → Q (.ref s.heap.objs.size) { s with heap := h', toks := tk }) :
    wpAny (model prog w) A (call (.type "list") [.ref it]) Q E s := by
  refine callType_codes (Q₁ := fun x s1 => x = .ref s.heap.objs.size ∧ s1 = { s with heap := s.heap.push { cls := .type "list", data := .seq #[] } }) PySem.F.called_list (PySem.F.typeCall_list_1 _) PySem.F.entry_list_init (code_list_new _ ⟨rfl, rfl⟩) ?_
  rintro x s1 ⟨rfl, rfl⟩
  have n1 : (s.heap.push { cls := .type "list", data := .seq #[] }).get? s.heap.objs.size = some { cls := .type "list", data := .seq #[] } := Heap.get?_push_size _ rfl
  refine ⟨⟨_, n1, rfl⟩, PySem.F.args_list_init_2 _ _, ?_⟩
  show wpAny _ A.in1.in1 (do let old ← Builtin.List.listItems (.ref s.heap.objs.size); Builtin.List.listUpdate (.ref s.heap.objs.size) (fun _ => #[]); letGo old.toList.reverse; Builtin.List.listExtendWith (.ref s.heap.objs.size) (.ref it) .none) _ _ _
  refine wpAny_bind ?_
  unfold Builtin.List.listItems
  refine wpAny_bind (wpAny_seqItems n1 rfl (wpAny_pure ?_))
  refine wpAny_bind (show wpAny _ A.in1.in1 (updateSeq s.heap.objs.size (fun _ => #[])) _ _ _ from wpAny_updateSeq n1 rfl ?_)
  refine wpAny_bind (wpAny_letGo ?_)
  have n2 := Heap.get?_update_self (Obj.mapSeq (fun _ => (#[] : Array Value))) n1 rfl
  have hil : it < s.heap.objs.size := let ⟨o, e, _⟩ := hi; Heap.lt_size e
  have hll : l < s.heap.objs.size := let ⟨o, e, _⟩ := hl; Heap.lt_size e
  have keep : ∀ b o, s.heap.get? b = some o → ((s.heap.push { cls := .type "list", data := .seq #[] }).update s.heap.objs.size (Obj.mapSeq (fun _ => (#[] : Array Value)))).get? b = some o := fun b o e =>
    (Heap.get?_update_other _ _ (Nat.ne_of_gt (Heap.lt_size e))).trans (Heap.get?_push_of_some _ e)
  have hi2 := hi.at fun o e => keep it o e
  have hl2 := (show ∀ {h h' : Heap}, h.IsList l items → (∀ o, h.get? l = some o → h'.get? l = some o) → h'.IsList l items from fun x k => let ⟨o, e, r⟩ := x; ⟨o, k o e, r⟩) hl fun o e => keep l o e
  have hd2 : Obj.mapSeq (fun _ => (#[] : Array Value)) { cls := .type "list", data := .seq #[] } = { cls := .type "list", data := .seq #[] } := rfl
  rw [hd2] at n2
  clear n1
  generalize (s.heap.push { cls := .type "list", data := .seq #[] }).update s.heap.objs.size (Obj.mapSeq (fun _ => (#[] : Array Value))) = h2 at n2 keep hi2 hl2
  have ty : ({ s with heap := h2 } : Shared).TypeIs (.ref it) "list_reverseiterator" := Heap.IsRevIter.typeIs (s := { s with heap := h2 }) hi2
  have sr : Builtin.List.listSameRef (.ref s.heap.objs.size) (.ref it) = false := by simp [Builtin.List.listSameRef, Nat.ne_of_gt hil]
  unfold Builtin.List.listExtendWith
  refine wpAny_bind (wpAny_typeOf ty ?_)
  rw [if_neg (by rw [sr]; decide)]
  refine wpAny_bind (wpAny_pyIter_revIter (s := { s with heap := h2 }) hi2 (wpAny_bind (wpAny_holding ?_)))
  unfold Builtin.List.listLengthHint
  refine wpAny_bind (wpAny_specialOf ty RT.nolen_lri ?_)
  show wpAny _ A.in1.in1 (specialOf (Value.ref it) (Str.ofString "__length_hint__") >>= _) _ _ _
  refine wpAny_bind (wpAny_specialOf ty RT.hint_lri ?_)
  generalize hnm : ("list_reverseiterator.__length_hint__" : String) = nm
  wp_delta
  rw [show splitId nm = some ("list_reverseiterator", "__length_hint__") from by subst hnm; decide +kernel]
  subst hnm
  refine wpAny_bind (wpAny_isInstance (b := true) ty (by rw [isSubtype_type]; kernel_rfl) (wpAny_pure ?_))
  rw [if_neg (by decide)]
  have z0 : ((items.size : Nat) : Int) - 1 - ((0 : Nat) : Int) = (items.size : Int) - 1 := by omega
  have W := (Walks.listRev (prog := prog) (w := w) (A := A.in1.in1) hh it l hne items).toS
  refine wpAny_pure ⟨plainId_quiet PySem.F.plain_extend_loop _, codeAny_extend_loopS W hn _ (fun q => ?_) _ items.size 0 _ _ _ rfl (Nat.zero_le _) ⟨Nat.zero_le _, by rw [z0]; exact hi2, hl2⟩ n2 (ItemsOf.nil _) fun s' acc c hm at' hacc => ?_⟩
  · rcases List.mem_cons.mp q with q | q
    · exact absurd q (Nat.ne_of_gt hil)
    · exact absurd (List.mem_singleton.mp q) (Nat.ne_of_gt hll)
  · refine ⟨rfl, ?_⟩
    rw [Moved.eq_with hm]
    refine h s'.heap s'.toks acc c (fun b o hb e => hm.heap b o (fun q => ?_) (keep b o e)) at' hacc
    rcases List.mem_cons.mp q with q | q
    · exact absurd q (Nat.ne_of_lt (Heap.lt_size e))
    · exact hb (List.mem_singleton.mp q)
end
end LR
namespace L2
open PySem PySem.Spec PyProof.Rows
def tListRev (K : PySem.W.Frag) (te : TE) : TE := fun σ H Q => te σ H fun v H1 => ∃ (a : Addr) (xs : List V), v = .ref a ∧ SqL K H1 a xs ∧ ∀ q, H1 q = none → Q (.ref q) (upd H1 q (.lst xs.reverse))
theorem peListRev {X : Cx} {K : PySem.W.Frag} {e : Expr} {te : TE} {p p2 pos pos2 : Pos} (hc : X.calm = true) (hg : Gl X "list") (hm : X.mg "list" = none) (hg2 : Gl X "reversed") (hm2 : X.mg "reversed" = none) (he : PE X e te)
    (hs : starEach [e] X.env = (false, eval e X.env) :: starEach [] X.env := by rfl)
    (hs2 : starEach [.Call (.Name "reversed" p2) [e] [] pos2] X.env = (false, eval (.Call (.Name "reversed" p2) [e] [] pos2) X.env) :: starEach [] X.env := by rfl) (hK : X.K = K := by rfl) :
    PE X (.Call (.Name "list" p) [.Call (.Name "reversed" p2) [e] [] pos2] [] pos) (tListRev K te) := by
  subst hK
  refine ⟨fun pins s σ H Q I h => Call_ (ld_blt I hg hm (show bootBuiltins "list" = some (.type "list") by decide +kernel) (PyProof.Rows.callWith_type1 (args_cons (Call_ (ld_blt I hg2 hm2 PyProof.Rows.boot_reversed (PyProof.Rows.callWith_type1 (args_cons (thn (he.run pins s σ H _ I h) fun u s1 ⟨v, H1, I1, r1, a, xs, ev, hq, q⟩ => args_nil ?_) hs) hs rfl))) hs2) hs2 rfl))⟩
  subst ev
  obtain rfl : u = Value.ref a := r1
  obtain ⟨its, rv, pl, hz⟩ := I1.list hq
  have hl := pl.isList
  have hlt : a < s1.heap.objs.size := let ⟨_, e, _⟩ := hl; Heap.lt_size e
  refine call_reversed_list hl (args_nil ?_)
  have I2 : Inv X pins σ H1 { s1 with heap := s1.heap.push (revObj a ((its.toArray.size : Int) - 1)) } := I1.kept (t' := s1.toks) fun b o e => Heap.get?_push_of_some _ e
  have fp : FpOk X pins H1 s1.heap.objs.size := I1.fpOk (Nat.le_refl _) (I1.hok.fresh (Nat.le_refl _))
  refine LR.list_rev (s := { s1 with heap := s1.heap.push (revObj a ((its.toArray.size : Int) - 1)) }) (I1.ok.hd hc) ⟨_, Heap.get?_push_size _ rfl, rfl, rfl⟩ (hl.push _) (Nat.ne_of_lt hlt) (by rw [List.size_toArray, ← rv.length]; exact hz) fun h' tk acc c hk at' hi => ?_
  have new : ObjOk X.prog X.w (upd H1 (s1.heap.push (revObj a ((its.toArray.size : Int) - 1))).objs.size (.lst xs.reverse)) h' (s1.heap.push (revObj a ((its.toArray.size : Int) - 1))).objs.size (.lst xs.reverse) :=
    ⟨by rw [List.length_reverse]; exact hz, acc.toList, c, RT.vals_rev rv hi, by rw [Array.toArray_toList]; exact at'⟩
  refine ⟨.ref _, _, I2.turnedNew (t' := tk) (ch := [s1.heap.objs.size]) (fun b o hb e => hk b o (fun q => hb (by rw [q]; exact List.mem_singleton.mpr rfl)) e) (fun b hb => by rw [List.mem_singleton.mp hb]; exact fp) (Nat.le_refl _) new, rfl, q _ (I2.hok.fresh (Nat.le_refl _))⟩
end L2

set_option Elab.async false
set_option linter.all false
set_option maxRecDepth 100000
/-! what the laws on elders share beyond EX and DR -/
namespace EX
open PySem L2 Evl
theorem givenL_map {α : Type} (rs : List α) (d : α) (f : α → List V) : givenL rs.length (fun _ => true) (fun i => f (rs.getD i d)) = rs.map f := by
  unfold givenL
  rw [List.filter_eq_self.mpr (fun _ _ => rfl)]
  have := congrArg (List.map f) (range_getD rs d)
  rw [List.map_map] at this
  exact this
theorem zip_ref {qs : List Addr} {ls : List (List Str)} (h : (qs.zip ls).map (·.1) = qs) : ((qs.zip ls).map fun r => ((V.ref r.1, r.2) : VR)).map (·.1) = qs.map V.ref := by
  rw [List.map_map]
  conv => rhs; rw [← h]
  rw [List.map_map]
  rfl
theorem zip_row {qs : List Addr} {ls : List (List Str)} (h : (qs.zip ls).map (·.2) = ls) : ((qs.zip ls).map fun r => ((V.ref r.1, r.2) : VR)).map (·.2) = ls := by
  rw [List.map_map]
  exact h
theorem ev_anyIn {K : PySem.W.Frag} {σ : L2.St} {H : Hp} {iR ir : Nat} {te : TE} {R : Addr} {rs : List VR} {x : Str} (hR : SqL K H R (rs.map (·.1))) (hz : rs.length ≤ 1000) (hr : RowsP K H rs) (h1 : σ[iR]? = some (some (.ref R)))
    (hw : ∀ x, wipe ((wipe σ [ir]).set ir (some x)) [ir] = wipe σ [ir]) (hir : ∀ x, ((wipe σ [ir]).set ir (some x))[ir]? = some (some x)) (hx : ∀ y H1, Ex H H1 → Ev te ((wipe σ [ir]).set ir (some y)) H1 (.str x)) :
    Ev (tCB (rAny K) (tCons (tLc (iList K (tVar iR)) (gName ir) tYes (tOp (rIn K false) te (tSl (rSlL K) (tVar ir) (tPart (tC (V.int 1))) tNoPart)) [ir]) tNil)) σ H (.bl (!EM.free (rs.map (·.2)) x)) := by
  have e1 : (!EM.free (rs.map (·.2)) x) = ((rs.map fun o => decide (x ∈ o.2.tail)).any id) := by
    unfold EM.free
    rw [Bool.not_not, List.any_map, List.any_map]
    rfl
  rw [e1]
  refine ev_any ?_
  have e2 : (rs.map fun o => decide (x ∈ o.2.tail)).map V.bl = given (rs.map (·.1)).length (fun _ => true) (fun j => V.bl (decide (x ∈ (rs.getD j (.non, [])).2.tail))) := by
    rw [List.length_map, given_map rs (.non, []) (fun o => V.bl (decide (x ∈ o.2.tail))), List.map_map]
    rfl
  rw [e2]
  refine el_lcL (K := K) (fun _ => true) _ (ev_var h1) hR (by rw [List.length_map]; omega) hw (fun j x H1 e1 hj => ?_) (fun j y H1 e1 hj _ => ?_)
  · exact fun H2 _ Q q => q H2 (Ex.refl H2)
  · rw [List.getElem?_map] at hj
    cases hq : rs[j]? with
    | none => rw [hq] at hj; cases hj
    | some r =>
      rw [hq] at hj
      cases hj
      rw [getD_of hq, ← inV_str x r.2.tail]
      obtain ⟨p, hp, hs⟩ := hr r (mem_getElem hq)
      refine ev_opL (xs := r.2.tail.map V.str) (hx _ H1 e1) ?_ fun q H2 hq2 e2 => rv_isL (sq_of hq2) rfl (flat_str _)
      have := el_sl (K := K) (ev_var (σ := (wipe σ [ir]).set ir (some r.1)) (i := ir) (by rw [hir, hp])) (eo_some (i := 1) ev_c) eo_none (ex_l e1 hs)
      rw [cut1, ← List.map_tail] at this
      exact this
theorem strOk_of {x : Str} (h : ∀ c ∈ x.cps.toList, c < 0x110000) : PyData.strOk x = true := by
  unfold PyData.strOk
  rw [← Array.all_toList, List.all_eq_true]
  intro c hc
  exact decide_eq_true (h c hc)
theorem if_raw {σ : L2.St} {H : Hp} {te : TE} {D : Ends} {tu tw : TS} (h : te σ H fun x H1 => ∃ k, x = .bl k ∧ (if k = true then tu D σ H1 else tw D σ H1)) : tIfS (tTest te) tu tw D σ H := h
theorem q_dputG {σ : L2.St} {H : Hp} {td ty tv : TE} {D : Ends} {tz : TS} {d : Addr} {k : Key} (G : V → Hp → Prop) (hv : ∀ Q : VK, (∀ v H1, G v H1 → Q v H1) → tv σ H Q)
    (h : ∀ v H1, G v H1 → ∃ kvs, H1 d = some (.dK kvs) ∧ kvs.length < 100000 ∧ Ev td σ H1 (.ref d) ∧ Ev ty σ H1 (kV k) ∧ ∀ H2, Ex H1 H2 → tz D σ (upd H2 d (.dK (putK kvs k v)))) : tSeq (sDPut td ty tv) tz D σ H := s_dputG (D := { D with nx := tz D }) G hv h
theorem mergeK_new : ∀ (more acc : List (Key × V)), ((acc ++ more).map (·.1)).Nodup → mergeK acc more = acc ++ more
  | [], acc, _ => by simp [mergeK]
  | kv :: more, acc, h => by
    have hn : valV acc kv.1 = none := by
      cases hv : valV acc kv.1 with
      | none => rfl
      | some v =>
        have h1 := valV_in hv
        rw [List.map_append, List.nodup_append] at h
        exact absurd rfl (h.2.2 _ h1 _ (by simp))
    show mergeK (putK acc kv.1 kv.2) more = _
    rw [putK_new _ hn, mergeK_new more (acc ++ [(kv.1, kv.2)]) (by simpa using h)]
    simp
theorem valV_at {kvs : List (Key × V)} : ∀ {n : Nat} {k : Key} {v : V}, (kvs.map (·.1)).Nodup → kvs[n]? = some (k, v) → valV kvs k = some v := by
  induction kvs with
  | nil => intro n k v _ h; simp at h
  | cons p kvs ih =>
    intro n k v nd h
    cases n with
    | zero =>
      simp at h
      subst h
      exact valV_pos rfl
    | succ n =>
      have h' : kvs[n]? = some (k, v) := by simpa using h
      have hm : k ∈ kvs.map (·.1) := List.mem_map.mpr ⟨(k, v), List.mem_of_getElem? h', rfl⟩
      have hpk : ¬ p.1 = k := fun z => (List.nodup_cons.mp nd).1 (by rw [← z] at hm; exact hm)
      rw [valV_neg hpk]
      exact ih (List.nodup_cons.mp nd).2 h'
theorem paired_of {α β : Type} {F : α → β → Prop} : ∀ {ps : List α} {qs : List β}, ps.length = qs.length → (∀ (n : Nat) p q, ps[n]? = some p → qs[n]? = some q → F p q) → Paired F ps qs
  | [], [], _, _ => .nil
  | p :: ps, q :: qs, hl, h => .cons (h 0 p q rfl rfl) (paired_of (by simpa using hl) fun n a b ha hb => h (n + 1) a b (by simpa using ha) (by simpa using hb))
  | [], _ :: _, hl, _ => by simp at hl
  | _ :: _, [], hl, _ => by simp at hl
theorem nodup_map_on {α β : Type} {f : α → β} : ∀ {l : List α}, (∀ a ∈ l, ∀ b ∈ l, f a = f b → a = b) → l.Nodup → (l.map f).Nodup
  | [], _, _ => List.nodup_nil
  | a :: l, h, nd => by
    rw [List.map_cons, List.nodup_cons]
    refine ⟨fun q => ?_, nodup_map_on (fun x hx y hy => h x (List.mem_cons_of_mem _ hx) y (List.mem_cons_of_mem _ hy)) (List.nodup_cons.mp nd).2⟩
    obtain ⟨b, hb, e⟩ := List.mem_map.mp q
    have := h b (List.mem_cons_of_mem _ hb) a List.mem_cons_self e
    rw [this] at hb
    exact (List.nodup_cons.mp nd).1 hb
theorem ret_raw {σ : L2.St} {H : Hp} {te : TE} {D : Ends} (h : te σ H D.rt) : tRet te D σ H := h
theorem yes_raw {σ : L2.St} {H : Hp} {te : TE} {R : V → Hp → Prop} {S : Hp → Prop} (h : te σ H R) : tYes σ H fun b H3 => if b = true then te σ H3 (fun y H4 => R y H4) else S H3 := by
  show (if true = true then te σ H (fun y H4 => R y H4) else S H)
  rw [if_pos rfl]
  exact h
theorem drT_andF {tp : Addr} {σ : L2.St} {B : Hp} {t u : TT} {p : Bool → Prop} (h1 : DrT tp t σ B p) (h2 : DrT tp u σ B (fun b => b = false)) : DrT tp (tAnd t u) σ B (fun b => b = false) := fun H1 e tt Q k => h1 H1 e tt _ fun c H2 e2 t2 _ => by
  cases c with
  | true =>
    show u σ H2 Q
    exact h2 H2 e2 t2 Q fun c H3 e3 t3 hc => k c H3 e3 t3 hc
  | false =>
    show Q false H2
    exact k false H2 e2 t2 rfl
theorem q_forR3 {σ : L2.St} {H : Hp} {tA : TA} {j' : Nat} {tb tz : TS} {D : Ends} {i j c : Int} {m : Nat} (h : EvA tA σ H [.int i, .int j, .int c]) (hm : RgC i j c m) (Pv : Nat → L2.St → Hp → Prop) (h0 : ∀ H1, Ex H H1 → Pv 0 σ H1)
    (hs : ∀ (i' : Nat) σ' H', i' < m → Pv i' σ' H' → tb { D with nx := Pv (i' + 1), ct := Pv (i' + 1), bk := tz D } (σ'.set j' (some (.int (i + (i' : Nat) * c)))) H') (hd : ∀ σ' H', Pv m σ' H' → tz D σ' H') :
    tSeq (tFor (iRng3 tA) (gName j') tb) tz D σ H := h H (Ex.refl H) _ fun H1 e => ⟨i, j, c, m, rfl, hm, for_rangeC (D := { D with nx := tz D }) Pv (h0 H1 e) hs hd⟩

/-- text * int -/
def rMulS : R2 := fun x y H Q => ∃ (i : Str) (n : Int), x = .str i ∧ y = .int n ∧ i.length ≤ 16 ∧ -(2 ^ 63 : Int) ≤ n ∧ n ≤ 1048576 ∧ Q (.str (Txt.mul i n)) H
theorem op_mulS {X : Cx} : OpR X (binaryOp .Mult) rMulS := by
  intro pins s σ H x y v u Q I rx ry h
  obtain ⟨i, n, rfl, rfl, hz, h1, h2, q⟩ := h
  obtain ⟨t, rfl⟩ := rx
  obtain ⟨t', rfl⟩ := ry
  exact SB.mul (PyProof.Rows.mulOk_of 16 1048576 hz h2 h1 (by decide) (by decide)) fun t' tk => ⟨.str (Txt.mul i n), H, I.tok _, ⟨_, rfl⟩, q⟩
section
variable {σ : L2.St} {H : Hp} {ta tb te : TE}
theorem rv_mulS {c : Nat} {n : Nat} (h : n ≤ 1000) : RV rMulS (.str ⟨#[c]⟩) (.int (n : Nat)) H (.str ⟨(List.replicate n c).toArray⟩) := fun H1 _ _ q => ⟨⟨#[c]⟩, n, rfl, rfl, (by decide : 1 ≤ 16), by omega, by omega, by
  have : Txt.mul ⟨#[c]⟩ ((n : Nat) : Int) = ⟨(List.replicate n c).toArray⟩ := by
    have h := PyProof.Rows.mul_one_list c ((n : Nat) : Int)
    rw [Int.toNat_natCast] at h
    have : (Txt.mul ⟨#[c]⟩ ((n : Nat) : Int)).cps = (List.replicate n c).toArray := by rw [← h]
    exact congrArg Str.mk this
  rw [this]
  exact q H1 (Ex.refl H1)⟩
/-- z[:n] -/
theorem ev_slS {z : Str} {k : Nat} {to : TO} (hz : z.length ≤ 1000) (h : Ev ta σ H (.str z)) (ho : EvO to σ H (some (k : Int))) : Ev (tSl rSlS ta tNoPart to) σ H (.str ⟨(z.cps.toList.take k).toArray⟩) := fun H1 e Q q =>
  h H1 e _ fun H2 e2 => ho H2 (e.trans e2) _ fun H3 e3 => ⟨z, rfl, sz_of (by omega), by
    have : cutS z none (some (k : Int)) = ⟨(z.cps.toList.take k).toArray⟩ := by
      unfold cutS
      rw [HT.sIx_none, HT.sIx_nat, List.drop_zero, Nat.sub_zero]
      congr 2
      have hl : z.length = z.cps.toList.length := (Array.length_toList).symm
      rw [hl]
      by_cases h : k ≤ z.cps.toList.length
      · rw [Nat.min_eq_left h]
      · rw [Nat.min_eq_right (by omega), List.take_of_length_le (Nat.le_refl _), List.take_of_length_le (by omega)]
    rw [this]
    exact q H3 (e2.trans e3)⟩
end
end EX

set_option Elab.async false
set_option linter.all false
set_option maxRecDepth 100000
/-! the data layer: values as data (what never changes again), a small store of what changes; readings over these alone -/
namespace DL
open PySem L2 Evl EX
inductive D where
  | non | bl (b : Bool) | int (i : Int) | str (x : Str) | list (ds : List D) | tup (ds : List D) | ref (a : Addr) | ty (n : String) | scr (ds : List D)
mutual
/-- a value that reads as data, by what stands fast -/
inductive RdD (K : PySem.W.Frag) (B : Hp) : V → D → Prop
  | non : RdD K B .non .non
  | bl (b : Bool) : RdD K B (.bl b) (.bl b)
  | int (i : Int) : RdD K B (.int i) (.int i)
  | str (x : Str) : RdD K B (.str x) (.str x)
  | ty (n : String) : RdD K B (.ty n) (.ty n)
  | ref (a : Addr) : RdD K B (.ref a) (.ref a)
  | lst {a : Addr} {xs : List V} {ds : List D} : B a = some (.lst xs) → RdL K B xs ds → RdD K B (.ref a) (.list ds)
  | tup {a : Addr} {xs : List V} {ds : List D} : SqT K B a xs → RdL K B xs ds → RdD K B (.ref a) (.tup ds)
  | scr {a : Addr} {xs : List V} {ds : List D} : SqL K B a xs → RdL K B xs ds → RdD K B (.ref a) (.scr ds)
inductive RdL (K : PySem.W.Frag) (B : Hp) : List V → List D → Prop
  | nil : RdL K B [] []
  | cons {v : V} {vs : List V} {d : D} {ds : List D} : RdD K B v d → RdL K B vs ds → RdL K B (v :: vs) (d :: ds)
end
mutual
theorem RdD.mono {K : PySem.W.Frag} {B B' : Hp} (e : Ex B B') : ∀ {v : V} {d : D}, RdD K B v d → RdD K B' v d
  | _, _, .non => .non
  | _, _, .bl b => .bl b
  | _, _, .int i => .int i
  | _, _, .str x => .str x
  | _, _, .ty n => .ty n
  | _, _, .ref a => .ref a
  | _, _, .lst h r => .lst (e _ _ h) (RdL.mono e r)
  | _, _, .tup h r => .tup (ex_t e h) (RdL.mono e r)
  | _, _, .scr h r => .scr (ex_l e h) (RdL.mono e r)
theorem RdL.mono {K : PySem.W.Frag} {B B' : Hp} (e : Ex B B') : ∀ {vs : List V} {ds : List D}, RdL K B vs ds → RdL K B' vs ds
  | _, _, .nil => .nil
  | _, _, .cons h r => .cons (RdD.mono e h) (RdL.mono e r)
end
section
variable {K : PySem.W.Frag} {B : Hp}
theorem RdL.length : ∀ {vs : List V} {ds : List D}, RdL K B vs ds → vs.length = ds.length
  | _, _, .nil => rfl
  | _, _, .cons _ r => by rw [List.length_cons, List.length_cons, r.length]
theorem RdL.get : ∀ {vs : List V} {ds : List D} {i : Nat} {d : D}, RdL K B vs ds → ds[i]? = some d → ∃ v, vs[i]? = some v ∧ RdD K B v d
  | _, _, _, _, .nil, h => by simp at h
  | _, _, 0, _, .cons h _, e => by simp at e; subst e; exact ⟨_, rfl, h⟩
  | _, _, i + 1, _, .cons _ r, e => by
    obtain ⟨v, a, b⟩ := r.get (i := i) (by simpa using e)
    exact ⟨v, by simpa using a, b⟩
theorem RdL.getV : ∀ {vs : List V} {ds : List D} {i : Nat} {v : V}, RdL K B vs ds → vs[i]? = some v → ∃ d, ds[i]? = some d ∧ RdD K B v d
  | _, _, _, _, .nil, h => by simp at h
  | _, _, 0, _, .cons h _, e => by simp at e; subst e; exact ⟨_, rfl, h⟩
  | _, _, i + 1, _, .cons _ r, e => by
    obtain ⟨v, a, b⟩ := r.getV (i := i) (by simpa using e)
    exact ⟨v, by simpa using a, b⟩
theorem RdL.append : ∀ {vs ws : List V} {ds es : List D}, RdL K B vs ds → RdL K B ws es → RdL K B (vs ++ ws) (ds ++ es)
  | _, _, _, _, .nil, s => s
  | _, _, _, _, .cons h r, s => .cons h (r.append s)
theorem RdL.take : ∀ {vs : List V} {ds : List D} (n : Nat), RdL K B vs ds → RdL K B (vs.take n) (ds.take n)
  | _, _, 0, _ => .nil
  | _, _, _ + 1, .nil => .nil
  | _, _, n + 1, .cons h r => .cons h (r.take n)
theorem RdL.drop : ∀ {vs : List V} {ds : List D} (n : Nat), RdL K B vs ds → RdL K B (vs.drop n) (ds.drop n)
  | _, _, 0, r => r
  | _, _, _ + 1, .nil => .nil
  | _, _, n + 1, .cons _ r => r.drop n
theorem RdL.set {v : V} {d : D} (h : RdD K B v d) : ∀ {vs : List V} {ds : List D} (n : Nat), RdL K B vs ds → RdL K B (vs.set n v) (ds.set n d)
  | _, _, _, .nil => .nil
  | _, _, 0, .cons _ r => .cons h r
  | _, _, n + 1, .cons q r => .cons q (r.set h n)
theorem RdL.rev : ∀ {vs : List V} {ds : List D}, RdL K B vs ds → RdL K B vs.reverse ds.reverse
  | _, _, .nil => .nil
  | _, _, .cons h r => by
    rw [List.reverse_cons, List.reverse_cons]
    exact r.rev.append (.cons h .nil)
theorem RdL.one {v : V} {d : D} (h : RdD K B v d) : RdL K B [v] [d] := .cons h .nil
theorem rd_int {v : V} {i : Int} (h : RdD K B v (.int i)) : v = .int i := by cases h; rfl
theorem rd_bl {v : V} {b : Bool} (h : RdD K B v (.bl b)) : v = .bl b := by cases h; rfl
theorem rd_str {v : V} {x : Str} (h : RdD K B v (.str x)) : v = .str x := by cases h; rfl
theorem rd_non {v : V} (h : RdD K B v .non) : v = .non := by cases h; rfl
theorem rd_ref {v : V} {a : Addr} (h : RdD K B v (.ref a)) : v = .ref a := by cases h; rfl
theorem rd_list {v : V} {ds : List D} (h : RdD K B v (.list ds)) : ∃ a xs, v = .ref a ∧ B a = some (.lst xs) ∧ RdL K B xs ds := by
  cases h with
  | lst h r => exact ⟨_, _, rfl, h, r⟩
theorem rd_tup {v : V} {ds : List D} (h : RdD K B v (.tup ds)) : ∃ a xs, v = .ref a ∧ SqT K B a xs ∧ RdL K B xs ds := by
  cases h with
  | tup h r => exact ⟨_, _, rfl, h, r⟩
theorem rd_scr {v : V} {ds : List D} (h : RdD K B v (.scr ds)) : ∃ a xs, v = .ref a ∧ SqL K B a xs ∧ RdL K B xs ds := by
  cases h with
  | scr h r => exact ⟨_, _, rfl, h, r⟩
theorem rdl_ints : ∀ ns : List Int, RdL K B (ns.map V.int) (ns.map D.int)
  | [] => .nil
  | n :: ns => .cons (.int n) (rdl_ints ns)
theorem rdl_strs : ∀ ns : List Str, RdL K B (ns.map V.str) (ns.map D.str)
  | [] => .nil
  | n :: ns => .cons (.str n) (rdl_strs ns)
end
/-! ### the store -/
inductive O where
  | lst (ds : List D) | dct (kvs : List (Key × D)) | ins (C dx : Addr) (fs : List (Str × D)) | tap | lck (od : Obj) (xs : List (Key × V)) (kvs : List (Key × D))
abbrev Sto := Addr → Option O
/-- a dict that may be read, locked or not -/
def DctAt (S : Sto) (a : Addr) (kvs : List (Key × D)) : Prop := S a = some (.dct kvs) ∨ ∃ od xs, S a = some (.lck od xs kvs)
def put (S : Sto) (a : Addr) (o : O) : Sto := fun b => if b = a then some o else S b
def del (S : Sto) (a : Addr) : Sto := fun b => if b = a then none else S b
theorem put_same {S : Sto} {a : Addr} {o : O} : put S a o a = some o := by unfold put; rw [if_pos rfl]
theorem put_ne {S : Sto} {a b : Addr} {o : O} (h : b ≠ a) : put S a o b = S b := by unfold put; rw [if_neg h]
theorem del_same {S : Sto} {a : Addr} : del S a a = none := by unfold del; rw [if_pos rfl]
theorem del_ne {S : Sto} {a b : Addr} (h : b ≠ a) : del S a b = S b := by unfold del; rw [if_neg h]
theorem put_put {S : Sto} {a : Addr} {o u : O} : put (put S a o) a u = put S a u := by funext b; unfold put; split <;> rfl
theorem del_put {S : Sto} {a : Addr} {o : O} (h : S a = none) : del (put S a o) a = S := by
  funext b; unfold del put
  split
  · rename_i e; rw [e, h]
  · rfl
theorem put_self {S : Sto} {a : Addr} {o : O} (h : S a = some o) : put S a o = S := by
  funext b; unfold put
  split
  · rename_i e; rw [e, h]
  · rfl
theorem put_comm {S : Sto} {a b : Addr} {o u : O} (h : a ≠ b) : put (put S a o) b u = put (put S b u) a o := by
  funext c; unfold put
  by_cases h1 : c = a
  · by_cases h2 : c = b
    · exact absurd (h1.symm.trans h2) h
    · rw [if_neg h2, if_pos h1, if_pos h1]
  · by_cases h2 : c = b
    · rw [if_pos h2, if_neg h1, if_pos h2]
    · rw [if_neg h2, if_neg h1, if_neg h1, if_neg h2]
theorem sto_ne {S : Sto} {a b : Addr} {o : O} (h : S a = some o) (n : S b = none) : a ≠ b := fun e => by rw [e, n] at h; cases h
def RdKV {κ : Type} (K : PySem.W.Frag) (B : Hp) : List (κ × V) → List (κ × D) → Prop := Paired fun p q => p.1 = q.1 ∧ RdD K B p.2 q.2
theorem RdKV.mono {κ : Type} {K : PySem.W.Frag} {B B' : Hp} (e : Ex B B') {l : List (κ × V)} {m : List (κ × D)} (h : RdKV K B l m) : RdKV K B' l m := Paired.mapP h fun _ _ r => ⟨r.1, r.2.mono e⟩
inductive RdO (K : PySem.W.Frag) (B : Hp) : HO → O → Prop
  | lst {xs : List V} {ds : List D} : RdL K B xs ds → RdO K B (.lst xs) (.lst ds)
  | dct {kvs : List (Key × V)} {dvs : List (Key × D)} : RdKV K B kvs dvs → RdO K B (.dK kvs) (.dct dvs)
  | ins {C dx : Addr} {fs : List (Str × V)} {gs : List (Str × D)} : RdKV K B fs gs → RdO K B (.ins C dx fs) (.ins C dx gs)
  | tap (a b c d : Int) : RdO K B (.lst [.int a, .int b, .int c, .int d]) .tap
  | lck {od : Obj} {xs : List (Key × V)} {kvs : List (Key × D)} : RdKV K B xs kvs → RdO K B (.frz od (.dK xs)) (.lck od xs kvs)
theorem RdO.mono {K : PySem.W.Frag} {B B' : Hp} (e : Ex B B') {h : HO} {o : O} (r : RdO K B h o) : RdO K B' h o := by
  cases r with
  | lst r => exact .lst (r.mono e)
  | dct r => exact .dct (r.mono e)
  | ins r => exact .ins (r.mono e)
  | tap a b c d => exact .tap a b c d
  | lck r => exact .lck (r.mono e)
/-- B stands fast, S is what changes, H is both -/
structure R (K : PySem.W.Frag) (B : Hp) (S : Sto) (H : Hp) : Prop where
  ex : Ex B H
  own : ∀ a o, S a = some o → B a = none ∧ ∃ ho, H a = some ho ∧ RdO K B ho o
section
variable {K : PySem.W.Frag} {B H : Hp} {S : Sto}
theorem R.fresh (r : R K B S H) {p : Addr} (h : H p = none) : B p = none ∧ S p = none := by
  refine ⟨fresh_back r.ex h, ?_⟩
  cases e : S p with
  | none => rfl
  | some o =>
    obtain ⟨_, ho, e2, _⟩ := r.own p o e
    rw [h] at e2
    cases e2
/-- a new thing that stands fast -/
theorem R.new (r : R K B S H) {p : Addr} {o : HO} (h : H p = none) : R K (upd B p o) S (upd H p o) ∧ Ex B (upd B p o) := by
  have hb := (r.fresh h).1
  refine ⟨⟨fun a u e => ?_, fun a u e => ?_⟩, Ex.new hb⟩
  · by_cases z : a = p
    · subst z; rw [upd_same] at e ⊢; exact e
    · rw [upd_ne z] at e ⊢; exact r.ex a u e
  · obtain ⟨n, ho, h1, h2⟩ := r.own a u e
    have z : a ≠ p := fun z => by rw [z, h] at h1; cases h1
    exact ⟨by rw [upd_ne z]; exact n, ho, by rw [upd_ne z]; exact h1, h2.mono (Ex.new hb)⟩
/-- a new thing that may change -/
theorem R.newS (r : R K B S H) {p : Addr} {ho : HO} {o : O} (h : H p = none) (ro : RdO K B ho o) : R K B (put S p o) (upd H p ho) := by
  have hb := (r.fresh h).1
  refine ⟨r.ex.trans (Ex.new h), fun a u e => ?_⟩
  by_cases z : a = p
  · subst z; rw [put_same] at e; cases e; exact ⟨hb, ho, upd_same, ro⟩
  · rw [put_ne z] at e
    obtain ⟨n, ho', h1, h2⟩ := r.own a u e
    exact ⟨n, ho', by rw [upd_ne z]; exact h1, h2⟩
/-- a thing of the store changes -/
theorem R.mut (r : R K B S H) {p : Addr} {ho : HO} {o u : O} (h : S p = some u) (ro : RdO K B ho o) : R K B (put S p o) (upd H p ho) := by
  have hb := (r.own p u h).1
  refine ⟨r.ex.mut hb, fun a v e => ?_⟩
  by_cases z : a = p
  · subst z; rw [put_same] at e; cases e; exact ⟨hb, ho, upd_same, ro⟩
  · rw [put_ne z] at e
    obtain ⟨n, ho', h1, h2⟩ := r.own a v e
    exact ⟨n, ho', by rw [upd_ne z]; exact h1, h2⟩
/-- a list of the store stands fast from now on -/
theorem R.freeze (r : R K B S H) {p : Addr} {ds : List D} (h : S p = some (.lst ds)) : ∃ B', Ex B B' ∧ R K B' (del S p) H ∧ RdD K B' (.ref p) (.list ds) := by
  obtain ⟨hb, ho, h1, h2⟩ := r.own p _ h
  cases h2 with
  | lst rl =>
    rename_i xs
    have e : Ex B (upd B p (.lst xs)) := Ex.new hb
    refine ⟨_, e, ⟨fun a u q => ?_, fun a u q => ?_⟩, .lst upd_same (rl.mono e)⟩
    · by_cases z : a = p
      · subst z; rw [upd_same] at q; cases q; exact h1
      · rw [upd_ne z] at q; exact r.ex a u q
    · by_cases z : a = p
      · subst z; rw [del_same] at q; cases q
      · rw [del_ne z] at q
        obtain ⟨n, ho', h3, h4⟩ := r.own a u q
        exact ⟨by rw [upd_ne z]; exact n, ho', h3, h4.mono e⟩
theorem R.lst (r : R K B S H) {p : Addr} {ds : List D} (h : S p = some (.lst ds)) : ∃ xs, H p = some (.lst xs) ∧ RdL K B xs ds := by
  obtain ⟨_, ho, h1, h2⟩ := r.own p _ h
  cases h2 with
  | lst rl => exact ⟨_, h1, rl⟩
theorem R.dct (r : R K B S H) {p : Addr} {ds : List (Key × D)} (h : S p = some (.dct ds)) : ∃ xs, H p = some (.dK xs) ∧ RdKV K B xs ds := by
  obtain ⟨_, ho, h1, h2⟩ := r.own p _ h
  cases h2 with
  | dct rl => exact ⟨_, h1, rl⟩
theorem R.lck (r : R K B S H) {p : Addr} {od : Obj} {xs : List (Key × V)} {ds : List (Key × D)} (h : S p = some (.lck od xs ds)) : H p = some (.frz od (.dK xs)) ∧ RdKV K B xs ds := by
  obtain ⟨_, ho, h1, h2⟩ := r.own p _ h
  cases h2 with
  | lck rl => exact ⟨h1, rl⟩
theorem R.dctR (r : R K B S H) {p : Addr} {ds : List (Key × D)} (h : DctAt S p ds) : ∃ xs, Rd H p (.dK xs) ∧ RdKV K B xs ds := by
  rcases h with h | ⟨od, xs, h⟩
  · obtain ⟨xs, h1, h2⟩ := r.dct h
    exact ⟨xs, .inl h1, h2⟩
  · obtain ⟨h1, h2⟩ := r.lck h
    exact ⟨xs, .inr ⟨od, h1⟩, h2⟩
theorem R.ins (r : R K B S H) {p C dx : Addr} {ds : List (Str × D)} (h : S p = some (.ins C dx ds)) : ∃ xs, H p = some (.ins C dx xs) ∧ RdKV K B xs ds := by
  obtain ⟨_, ho, h1, h2⟩ := r.own p _ h
  cases h2 with
  | ins rl => exact ⟨_, h1, rl⟩
theorem R.tap (r : R K B S H) {p : Addr} (h : S p = some .tap) : Tap H p := by
  obtain ⟨_, ho, h1, h2⟩ := r.own p _ h
  cases h2 with
  | tap a b c d => exact ⟨a, b, c, d, h1⟩
end
/-! ### slots, wishes, readings -/
abbrev Dst := List (Option D)
abbrev DK := D → Sto → Prop
abbrev DE := Dst → Sto → DK → Prop
abbrev DT := Dst → Sto → (Bool → Sto → Prop) → Prop
abbrev DA := Dst → Sto → (List D → Sto → Prop) → Prop
structure DEnds where
  nx : Dst → Sto → Prop
  rt : DK
  bk : Dst → Sto → Prop := fun _ _ => False
  ct : Dst → Sto → Prop := fun _ _ => False
abbrev DS := DEnds → Dst → Sto → Prop
abbrev XDK := Value → Option (List (Str × D)) → Sto → Prop
abbrev SpD := List D → Sto → DK → XDK → Prop
structure Sl (K : PySem.W.Frag) (B : Hp) (σ : L2.St) (δ : Dst) : Prop where
  len : σ.length = δ.length
  at_ : ∀ (i : Nat) (d : D), δ[i]? = some (some d) → ∃ v, σ[i]? = some (some v) ∧ RdD K B v d
section
variable {K : PySem.W.Frag} {B B' H : Hp} {S : Sto} {σ : L2.St} {δ : Dst}
theorem Sl.mono (s : Sl K B σ δ) (e : Ex B B') : Sl K B' σ δ := ⟨s.len, fun i d h => let ⟨v, a, b⟩ := s.at_ i d h; ⟨v, a, b.mono e⟩⟩
theorem Sl.set (s : Sl K B σ δ) {v : V} {d : D} (h : RdD K B v d) (i : Nat) : Sl K B (σ.set i (some v)) (δ.set i (some d)) := by
  refine ⟨by simp [s.len], fun j x e => ?_⟩
  by_cases z : i = j
  · subst z
    by_cases hl : i < δ.length
    · rw [List.getElem?_set_self hl] at e
      cases e
      exact ⟨v, List.getElem?_set_self (by rw [s.len]; exact hl), h⟩
    · rw [List.getElem?_eq_none (by simpa using hl)] at e
      cases e
  · rw [List.getElem?_set_ne z] at e ⊢
    exact s.at_ j x e
end
/-- readings over data, as readings of the layer -/
def lE (K : PySem.W.Frag) (d : DE) : TE := fun σ H Q => ∃ B δ S k, Sl K B σ δ ∧ R K B S H ∧ d δ S k ∧ ∀ x S' v B' H', k x S' → Ex B B' → R K B' S' H' → RdD K B' v x → Q v H'
def lT (K : PySem.W.Frag) (d : DT) : TT := fun σ H Q => ∃ B δ S k, Sl K B σ δ ∧ R K B S H ∧ d δ S k ∧ ∀ b S' B' H', k b S' → Ex B B' → R K B' S' H' → Q b H'
def lA (K : PySem.W.Frag) (d : DA) : TA := fun σ H Q => ∃ B δ S k, Sl K B σ δ ∧ R K B S H ∧ d δ S k ∧ ∀ xs S' vs B' H', k xs S' → Ex B B' → R K B' S' H' → RdL K B' vs xs → Q vs H'
structure lD (K : PySem.W.Frag) (B : Hp) (D : DEnds) (E : Ends) : Prop where
  nx : ∀ δ S σ B' H', D.nx δ S → Ex B B' → Sl K B' σ δ → R K B' S H' → E.nx σ H'
  rt : ∀ x S v B' H', D.rt x S → Ex B B' → R K B' S H' → RdD K B' v x → E.rt v H'
  bk : ∀ δ S σ B' H', D.bk δ S → Ex B B' → Sl K B' σ δ → R K B' S H' → E.bk σ H'
  ct : ∀ δ S σ B' H', D.ct δ S → Ex B B' → Sl K B' σ δ → R K B' S H' → E.ct σ H'
def lS (K : PySem.W.Frag) (d : DS) : TS := fun E σ H => ∃ B δ S D, Sl K B σ δ ∧ R K B S H ∧ d D δ S ∧ lD K B D E
theorem lD.mono {K : PySem.W.Frag} {B B' : Hp} {D : DEnds} {E : Ends} (h : lD K B D E) (e : Ex B B') : lD K B' D E :=
  ⟨fun δ S σ B2 H k e2 => h.nx δ S σ B2 H k (e.trans e2), fun x S v B2 H k e2 => h.rt x S v B2 H k (e.trans e2), fun δ S σ B2 H k e2 => h.bk δ S σ B2 H k (e.trans e2), fun δ S σ B2 H k e2 => h.ct δ S σ B2 H k (e.trans e2)⟩
/-- the exception's own fields -/
def RdX (K : PySem.W.Frag) (B : Hp) : Option Addr → Option (List (Str × D)) → Prop
  | none, none => True
  | some a, some fs => ∃ gs, B a = some (.xd gs) ∧ RdKV K B gs fs
  | _, _ => False
def lSp (K : PySem.W.Frag) (f : SpD) : Sp := fun vs H Q E => ∃ B ds S k kx, RdL K B vs ds ∧ R K B S H ∧ f ds S k kx ∧ (∀ x S' v B' H', k x S' → Ex B B' → R K B' S' H' → RdD K B' v x → Q v H') ∧
  ∀ c pay S' od B' H', kx c pay S' → Ex B B' → R K B' S' H' → RdX K B' od pay → E c od H'
/-! ### the judgements, weakened -/
section
variable {X : Cx}
theorem peOf {e : Expr} {t u : TE} (h : PE X e t) (k : ∀ σ H Q, u σ H Q → t σ H Q) : PE X e u := ⟨fun pins s σ H Q I q => h.run pins s σ H Q I (k σ H Q q)⟩
theorem ptOf {e : Expr} {t u : TT} (h : PT X e t) (k : ∀ σ H Q, u σ H Q → t σ H Q) : PT X e u := ⟨fun pins s σ H Q I q => h.run pins s σ H Q I (k σ H Q q)⟩
theorem pwOf {e : Expr} {t u : TT} (h : PW X e t) (k : ∀ σ H Q, u σ H Q → t σ H Q) : PW X e u := ⟨fun wh pins s σ H Q I q => h.run wh pins s σ H Q I (k σ H Q q)⟩
theorem paOf {e : List Expr} {t u : TA} (h : PA X e t) (k : ∀ σ H Q, u σ H Q → t σ H Q) : PA X e u := ⟨fun pos pins s σ H Q I q => h.run pos pins s σ H Q I (k σ H Q q)⟩
theorem psOf {st : Stmt} {t u : TS} (h : PS X st t) (k : ∀ D σ H, u D σ H → t D σ H) : PS X st u := ⟨fun pins s σ H D I q => h.run pins s σ H D I (k D σ H q)⟩
theorem pssOf {st : List Stmt} {t u : TS} (h : PSs X st t) (k : ∀ D σ H, u D σ H → t D σ H) : PSs X st u := ⟨fun pins s σ H D I q => h.run pins s σ H D I (k D σ H q)⟩
theorem pgOf {tg : Expr} {t u : TG} (h : PG X tg t) (k : ∀ v σ H Q, u v σ H Q → t v σ H Q) : PG X tg u := by
  obtain ⟨r⟩ := h
  exact ⟨fun pins s σ H v w Q I rv q => r pins s σ H v w Q I rv (k v σ H Q q)⟩
end
end DL

set_option Elab.async false
set_option linter.all false
set_option maxRecDepth 100000
namespace DL
open PySem L2 Evl EX
/-! ### expressions -/
section
variable {X : Cx} {K : PySem.W.Frag}
def dVar (i : Nat) : DE := fun δ S k => match δ[i]? with
  | some (some d) => k d S
  | _ => False
theorem de_var (i : Nat) {x : Str} {pos : Pos} (hN : X.N[i]? = some x := by rfl) (hv : Vis X.env.scope x := by first | exact Or.inl rfl | exact Or.inr (Or.inl rfl) | exact Or.inr (Or.inr rfl)) (hd : (x == ("__debug__" : Str)) = false := by decide)
    (hcd : (x == ("__classdict__" : Str)) = false := by decide) : PE X (.Name x pos) (lE K (dVar i)) := peOf (pv i hN hv hd hcd) fun σ H Q ⟨B, δ, S, k, s, r, h, q⟩ => by
  unfold dVar at h
  split at h
  · rename_i d e
    obtain ⟨v, hv, rv⟩ := s.at_ i d e
    exact ⟨v, hv, q d S v B H h (Ex.refl B) r rv⟩
  · exact h.elim
/-- a list of the store, read for good -/
def dFrz (i : Nat) : DE := fun δ S k => match δ[i]? with
  | some (some (.ref a)) => ∃ ds, S a = some (.lst ds) ∧ k (.list ds) (del S a)
  | _ => False
theorem de_frz (i : Nat) {x : Str} {pos : Pos} (hN : X.N[i]? = some x := by rfl) (hv : Vis X.env.scope x := by first | exact Or.inl rfl | exact Or.inr (Or.inl rfl) | exact Or.inr (Or.inr rfl)) (hd : (x == ("__debug__" : Str)) = false := by decide)
    (hcd : (x == ("__classdict__" : Str)) = false := by decide) : PE X (.Name x pos) (lE K (dFrz i)) := peOf (pv i hN hv hd hcd) fun σ H Q ⟨B, δ, S, k, s, r, h, q⟩ => by
  unfold dFrz at h
  split at h
  · rename_i a e
    obtain ⟨v, hv, rv⟩ := s.at_ i _ e
    obtain ⟨ds, hs, h⟩ := h
    obtain ⟨B', e', r', rd⟩ := r.freeze hs
    rw [rd_ref rv] at hv
    exact ⟨_, hv, q _ _ _ B' H h e' r' rd⟩
  · exact h.elim
def dC (d : D) : DE := fun _ S k => k d S
theorem de_c {e : Expr} {v : V} {d : D} (h : PE X e (tC v)) (hd : ∀ B, RdD K B v d) : PE X e (lE K (dC d)) := peOf h fun σ H Q ⟨B, δ, S, k, s, r, h, q⟩ => q d S v B H h (Ex.refl B) r (hd B)
theorem de_int {i j pos} : PE X (.Constant (.int i) j pos) (lE K (dC (.int i))) := de_c pe_int fun _ => .int i
theorem de_bl {b j pos} : PE X (.Constant (.bool b) j pos) (lE K (dC (.bl b))) := de_c pe_bl fun _ => .bl b
theorem de_non {j pos} : PE X (.Constant .none j pos) (lE K (dC .non)) := de_c pe_non fun _ => .non
theorem de_str {x j pos} : PE X (.Constant (.str x) j pos) (lE K (dC (.str x))) := de_c pe_str fun _ => .str x
/-- a constant of the module -/
def GlD (K : PySem.W.Frag) (mg : Str → Option Value) (x : Str) (d : D) : Prop := ∃ v u, mg x = some u ∧ RelV v u ∧ ∀ B, RdD K B v d
theorem de_gl {x : Str} {d : D} {pos : Pos} (hg : Gl X x) (h : GlD K X.mg x d) (hd : (x == ("__debug__" : Str)) = false := by decide) : PE X (.Name x pos) (lE K (dC d)) := by
  obtain ⟨v, u, hm, r, hb⟩ := h
  exact de_c (pe_glob hg hm r hd) hb
theorem de_blt {x : Str} {n : String} {pos : Pos} (hg : Gl X x) (hm : X.mg x = none) (hv : bootBuiltins x = some (.type n)) (hn : x ≠ "__name__" := by decide) (hd : (x == ("__debug__" : Str)) = false := by decide) : PE X (.Name x pos) (lE K (dC (.ty n))) :=
  de_c (pe_bltn (v := .ty n) hg hm hv rfl hn hd) fun _ => .ty n
/-! two operands -/
abbrev DR2 := D → D → Sto → DK → Prop
def dOp (rd : DR2) (da db : DE) : DE := fun δ S k => da δ S fun x S1 => db δ S1 fun y S2 => rd x y S2 k
def Sim2 (K : PySem.W.Frag) (r : R2) (rd : DR2) : Prop := ∀ (B : Hp) (S : Sto) (H : Hp) (v w : V) (x y : D) (k : DK) (Q : VK), R K B S H → RdD K B v x → RdD K B w y → rd x y S k →
  (∀ z S' u B' H', k z S' → Ex B B' → R K B' S' H' → RdD K B' u z → Q u H') → r v w H Q
theorem l_op {r : R2} {rd : DR2} {da db : DE} (hs : Sim2 K r rd) (σ : L2.St) (H : Hp) (Q : VK) : lE K (dOp rd da db) σ H Q → tOp r (lE K da) (lE K db) σ H Q := fun ⟨B, δ, S, k, s, r, h, q⟩ =>
  ⟨B, δ, S, _, s, r, h, fun x S1 v B1 H1 h1 e1 r1 d1 => ⟨B1, δ, S1, _, s.mono e1, r1, h1, fun y S2 w B2 H2 h2 e2 r2 d2 => hs B2 S2 H2 v w x y k Q r2 (d1.mono e2) d2 h2 fun z S' u B' H' hk e' r' d' => q z S' u B' H' hk (e1.trans (e2.trans e')) r' d'⟩⟩
theorem de_op {op : Operator} {r : R2} {rd : DR2} {a b : Expr} {da db : DE} {pos : Pos} (ho : OpR X (binaryOp op) r) (hs : Sim2 K r rd) (ha : PE X a (lE K da)) (hb : PE X b (lE K db)) : PE X (.BinOp a op b pos) (lE K (dOp rd da db)) := peOf (pe_op ho ha hb) (l_op hs)
theorem de_cmp {op : CmpOp} {r : R2} {rd : DR2} {a b : Expr} {da db : DE} {pos : Pos} (ho : OpR X (compareOp op) r) (hs : Sim2 K r rd) (ha : PE X a (lE K da)) (hb : PE X b (lE K db)) (hm : behindInMarks op b = false) : PE X (.Compare a [op] [b] pos) (lE K (dOp rd da db)) := peOf (pe_cmpR ho ha hb hm) (l_op hs)
theorem de_ix {r : R2} {rd : DR2} {a b : Expr} {da db : DE} {pos : Pos} (ho : IxR X r) (hs : Sim2 K r rd) (ha : PE X a (lE K da)) (hb : PE X b (lE K db)) (hp : PlainIx b) : PE X (.Subscript a b pos) (lE K (dOp rd da db)) := peOf (pe_ix ho ha hb hp) (l_op hs)
/-! tests -/
def dTest (de : DE) : DT := fun δ S k => de δ S fun x S1 => match x with
  | .bl b => k b S1
  | _ => False
theorem l_test {de : DE} (σ : L2.St) (H : Hp) (Q : Bool → Hp → Prop) : lT K (dTest de) σ H Q → lE K de σ H fun x H' => ∃ b, x = .bl b ∧ Q b H' := fun ⟨B, δ, S, k, s, r, h, q⟩ => ⟨B, δ, S, _, s, r, h, fun x S1 v B1 H1 h1 e1 r1 d1 => by
  split at h1
  · rename_i b
    exact ⟨b, rd_bl d1, q b S1 B1 H1 h1 e1 r1⟩
  · exact h1.elim⟩
theorem dt_cmp {op : CmpOp} {r : R2} {rd : DR2} {a b : Expr} {da db : DE} {pos : Pos} (ho : OpR X (compareOp op) r) (hs : Sim2 K r rd) (ha : PE X a (lE K da)) (hb : PE X b (lE K db)) (hm : behindInMarks op b = false) : PT X (.Compare a [op] [b] pos) (lT K (dTest (dOp rd da db))) :=
  ptOf (pt_cmpR ho ha hb hm) fun σ H Q h => by
    obtain ⟨B, δ, S, k, s, r', h, q⟩ := l_test σ H Q h
    exact l_op hs σ H _ ⟨B, δ, S, k, s, r', h, q⟩
theorem dt_val {e : Expr} {de : DE} (h : PE X e (lE K de)) (he : ∀ whole, isTrue e X.env whole = (do let v ← whole; standAt e.pos; holding [v] (truthy v)) := by intro _; rfl) : PT X e (lT K (dTest de)) := ptOf (pt_val h he) l_test
def dAnd (t u : DT) : DT := fun δ S k => t δ S fun c S1 => if c = true then u δ S1 k else k false S1
def dOr (t u : DT) : DT := fun δ S k => t δ S fun c S1 => if c = true then k true S1 else u δ S1 k
def dNot (t : DT) : DT := fun δ S k => t δ S fun c S1 => k (!c) S1
section
variable {a b : Expr} {rest : List Expr} {pos : Pos} {t u : DT}
theorem dw_and1 (h : PT X a (lT K t)) : PW X (.BoolOp .And [a] pos) (lT K t) := pw_and1 h
theorem dw_or1 (h : PT X a (lT K t)) : PW X (.BoolOp .Or [a] pos) (lT K t) := pw_or1 h
theorem dw_and (ha : PT X a (lT K t)) (hb : PW X (.BoolOp .And (b :: rest) pos) (lT K u)) : PW X (.BoolOp .And (a :: b :: rest) pos) (lT K (dAnd t u)) := pwOf (pw_and ha hb) fun σ H Q ⟨B, δ, S, k, s, r, h, q⟩ =>
  ⟨B, δ, S, _, s, r, h, fun c S1 B1 H1 h1 e1 r1 => by
    cases c with
    | true => exact ⟨B1, δ, S1, k, s.mono e1, r1, h1, fun c S2 B2 H2 h2 e2 r2 => q c S2 B2 H2 h2 (e1.trans e2) r2⟩
    | false => exact q false S1 B1 H1 h1 e1 r1⟩
theorem dw_or (ha : PT X a (lT K t)) (hb : PW X (.BoolOp .Or (b :: rest) pos) (lT K u)) : PW X (.BoolOp .Or (a :: b :: rest) pos) (lT K (dOr t u)) := pwOf (pw_or ha hb) fun σ H Q ⟨B, δ, S, k, s, r, h, q⟩ =>
  ⟨B, δ, S, _, s, r, h, fun c S1 B1 H1 h1 e1 r1 => by
    cases c with
    | true => exact q true S1 B1 H1 h1 e1 r1
    | false => exact ⟨B1, δ, S1, k, s.mono e1, r1, h1, fun c S2 B2 H2 h2 e2 r2 => q c S2 B2 H2 h2 (e1.trans e2) r2⟩⟩
theorem dt_not (ha : PT X a (lT K t)) : PT X (.UnaryOp .Not a pos) (lT K (dNot t)) := ptOf (pt_not ha) fun σ H Q ⟨B, δ, S, k, s, r, h, q⟩ =>
  ⟨B, δ, S, _, s, r, h, fun c S1 B1 H1 h1 e1 r1 => q (!c) S1 B1 H1 h1 e1 r1⟩
def dAndV (da db : DE) : DE := fun δ S k => da δ S fun x S1 => match x with
  | .bl c => if c = true then db δ S1 k else k (.bl false) S1
  | _ => False
def dOrV (da db : DE) : DE := fun δ S k => da δ S fun x S1 => match x with
  | .bl c => if c = true then k (.bl true) S1 else db δ S1 k
  | _ => False
def dNotV (da : DE) : DE := fun δ S k => da δ S fun x S1 => match x with
  | .bl c => k (.bl (!c)) S1
  | _ => False
variable {da db : DE}
theorem de_one {op} {t : DE} (h : PE X a (lE K t)) : PE X (.BoolOp op [a] pos) (lE K t) := pe_one h
theorem de_and (ha : PE X a (lE K da)) (hb : PE X (.BoolOp .And (b :: rest) pos) (lE K db)) : PE X (.BoolOp .And (a :: b :: rest) pos) (lE K (dAndV da db)) := peOf (pe_and ha hb) fun σ H Q ⟨B, δ, S, k, s, r, h, q⟩ =>
  ⟨B, δ, S, _, s, r, h, fun x S1 v B1 H1 h1 e1 r1 d1 => by
    split at h1
    · rename_i c
      refine ⟨c, rd_bl d1, ?_⟩
      cases c with
      | true => exact ⟨B1, δ, S1, k, s.mono e1, r1, h1, fun c S2 w B2 H2 h2 e2 r2 d2 => q c S2 w B2 H2 h2 (e1.trans e2) r2 d2⟩
      | false => exact q _ S1 _ B1 H1 h1 e1 r1 (.bl false)
    · exact h1.elim⟩
theorem de_or (ha : PE X a (lE K da)) (hb : PE X (.BoolOp .Or (b :: rest) pos) (lE K db)) : PE X (.BoolOp .Or (a :: b :: rest) pos) (lE K (dOrV da db)) := peOf (pe_or ha hb) fun σ H Q ⟨B, δ, S, k, s, r, h, q⟩ =>
  ⟨B, δ, S, _, s, r, h, fun x S1 v B1 H1 h1 e1 r1 d1 => by
    split at h1
    · rename_i c
      refine ⟨c, rd_bl d1, ?_⟩
      cases c with
      | true => exact q _ S1 _ B1 H1 h1 e1 r1 (.bl true)
      | false => exact ⟨B1, δ, S1, k, s.mono e1, r1, h1, fun c S2 w B2 H2 h2 e2 r2 d2 => q c S2 w B2 H2 h2 (e1.trans e2) r2 d2⟩
    · exact h1.elim⟩
theorem de_not (ha : PE X a (lE K da)) : PE X (.UnaryOp .Not a pos) (lE K (dNotV da)) := peOf (pe_not ha) fun σ H Q ⟨B, δ, S, k, s, r, h, q⟩ =>
  ⟨B, δ, S, _, s, r, h, fun x S1 v B1 H1 h1 e1 r1 d1 => by
    split at h1
    · rename_i c
      exact ⟨c, rd_bl d1, q _ S1 _ B1 H1 h1 e1 r1 (.bl _)⟩
    · exact h1.elim⟩
def dIf (t : DT) (da db : DE) : DE := fun δ S k => t δ S fun c S1 => if c = true then da δ S1 k else db δ S1 k
theorem de_if {c : Expr} (hc : PT X c (lT K t)) (ha : PE X a (lE K da)) (hb : PE X b (lE K db)) : PE X (.IfExp c a b pos) (lE K (dIf t da db)) := peOf (pe_ifExp hc ha hb) fun σ H Q ⟨B, δ, S, k, s, r, h, q⟩ =>
  ⟨B, δ, S, _, s, r, h, fun c S1 B1 H1 h1 e1 r1 => by
    cases c with
    | true => exact ⟨B1, δ, S1, k, s.mono e1, r1, h1, fun c S2 w B2 H2 h2 e2 r2 d2 => q c S2 w B2 H2 h2 (e1.trans e2) r2 d2⟩
    | false => exact ⟨B1, δ, S1, k, s.mono e1, r1, h1, fun c S2 w B2 H2 h2 e2 r2 d2 => q c S2 w B2 H2 h2 (e1.trans e2) r2 d2⟩⟩
end
/-! rows of expressions; tuples, lists; calls -/
def dNil : DA := fun _ S k => k [] S
def dCons (da : DE) (dr : DA) : DA := fun δ S k => da δ S fun x S1 => dr δ S1 fun xs S2 => k (x :: xs) S2
theorem da_nil : PA X [] (lA K dNil) := paOf pa_nil fun σ H Q ⟨B, δ, S, k, s, r, h, q⟩ => q [] S [] B H h (Ex.refl B) r .nil
theorem da_cons {e : Expr} {es : List Expr} {da : DE} {dr : DA} (ha : PE X e (lE K da)) (hr : PA X es (lA K dr)) (hs : starEach (e :: es) X.env = (false, eval e X.env) :: starEach es X.env := by rfl) : PA X (e :: es) (lA K (dCons da dr)) :=
  paOf (pa_cons ha hr hs) fun σ H Q ⟨B, δ, S, k, s, r, h, q⟩ => ⟨B, δ, S, _, s, r, h, fun x S1 v B1 H1 h1 e1 r1 d1 => ⟨B1, δ, S1, _, s.mono e1, r1, h1, fun xs S2 vs B2 H2 h2 e2 r2 d2 => q _ S2 _ B2 H2 h2 (e1.trans e2) r2 (.cons (d1.mono e2) d2)⟩⟩
def dTup (da : DA) : DE := fun δ S k => da δ S fun xs S1 => xs.length ≤ 100000 ∧ k (.tup xs) S1
theorem de_tup {es : List Expr} {da : DA} {x1 pos} (h : PA X es (lA K da)) : PE X (.Tuple es x1 pos) (lE K (dTup da)) := peOf (pe_tup h) fun σ H Q ⟨B, δ, S, k, s, r, h, q⟩ =>
  ⟨B, δ, S, _, s, r, h, fun xs S1 vs B1 H1 ⟨hl, h1⟩ e1 r1 d1 => ⟨sz_of (by rw [d1.length]; exact hl), fun p hp => q _ S1 _ _ _ h1 (e1.trans (r1.new hp).2) (r1.new hp).1 (.tup (st_of upd_same) (d1.mono (r1.new hp).2))⟩⟩
def dLst (da : DA) : DE := fun δ S k => da δ S fun xs S1 => xs.length ≤ 100000 ∧ k (.list xs) S1
theorem de_lst {es : List Expr} {da : DA} {pos} (h : PA X es (lA K da)) : PE X (.List es pos) (lE K (dLst da)) := peOf (pe_lst h) fun σ H Q ⟨B, δ, S, k, s, r, h, q⟩ =>
  ⟨B, δ, S, _, s, r, h, fun xs S1 vs B1 H1 ⟨hl, h1⟩ e1 r1 d1 => ⟨sz_of (by rw [d1.length]; exact hl), fun p hp => q _ S1 _ _ _ h1 (e1.trans (r1.new hp).2) (r1.new hp).1 (.lst upd_same (d1.mono (r1.new hp).2))⟩⟩
/-- a list that will change -/
def dNew (da : DA) : DE := fun δ S k => da δ S fun xs S1 => xs.length ≤ 100000 ∧ ∀ p, S1 p = none → k (.ref p) (put S1 p (.lst xs))
theorem de_new {es : List Expr} {da : DA} {pos} (h : PA X es (lA K da)) : PE X (.List es pos) (lE K (dNew da)) := peOf (pe_lst h) fun σ H Q ⟨B, δ, S, k, s, r, h, q⟩ =>
  ⟨B, δ, S, _, s, r, h, fun xs S1 vs B1 H1 ⟨hl, h1⟩ e1 r1 d1 => ⟨sz_of (by rw [d1.length]; exact hl), fun p hp => q _ _ _ B1 _ (h1 p (r1.fresh hp).2) e1 (r1.newS hp (.lst d1)) (.ref p)⟩⟩
def dNewD : DE := fun _ S k => ∀ p, S p = none → k (.ref p) (put S p (.dct []))
theorem de_newD {pos} : PE X (.Dict [] [] pos) (lE K dNewD) := peOf pe_dnewK fun σ H Q ⟨B, δ, S, k, s, r, h, q⟩ => fun p hp => q _ _ _ B _ (h p (r.fresh hp).2) (Ex.refl B) (r.newS hp (.dct .nil)) (.ref p)
def dCall (f : SpD) (da : DA) : DE := fun δ S k => da δ S fun xs S1 => f xs S1 k fun _ _ _ => False
theorem l_call {f : SpD} {da : DA} (σ : L2.St) (H : Hp) (Q : VK) : lE K (dCall f da) σ H Q → tCall (lSp K f) [] E0 (lA K da) σ H Q := fun ⟨B, δ, S, k, s, r, h, q⟩ =>
  ⟨B, δ, S, _, s, r, h, fun xs S1 vs B1 H1 h1 e1 r1 d1 => ⟨B1, xs, S1, k, _, by rw [List.append_nil]; exact d1, r1, h1, fun x S' v B' H' hk e' => q x S' v B' H' hk (e1.trans e'), fun _ _ _ _ _ _ z => z.elim⟩⟩
/-- a def with its promise over data -/
abbrev DefD (P : Program) (w : World) (K : PySem.W.Frag) (mg : Str → Option Value) (base : Heap) (k : Nat) (x : Str) (ps : List Str) (f : SpD) : Prop := Def P w K mg base k x ps (lSp K f)
theorem de_call {k : Nat} {x : Str} {ps : List Str} {f : SpD} {p pos : Pos} {e : Expr} {es : List Expr} {da : DA} (h : Def X.prog X.w X.K X.mg X.base k x ps (lSp K f)) (hr : Room k X.A) (hg : Gl X x) (ha : PA X (e :: es) (lA K da))
    (hdb : (x == ("__debug__" : Str)) = false := by decide) (he : starEach (e :: es) X.env = (false, eval e X.env) :: starEach es X.env := by rfl) (hpl : (backTo pos (starEach es X.env)).any (·.1) = false := by rfl) :
    PE X (.Call (.Name x p) (e :: es) [] pos) (lE K (dCall f da)) := peOf (pe_def h hr hg ha hdb he hpl) l_call
theorem de_call0 {k : Nat} {x : Str} {ps : List Str} {f : SpD} {p pos : Pos} (h : Def X.prog X.w X.K X.mg X.base k x ps (lSp K f)) (hr : Room k X.A) (hg : Gl X x) (hdb : (x == ("__debug__" : Str)) = false := by decide) : PE X (.Call (.Name x p) [] [] pos) (lE K (dCall f dNil)) :=
  peOf (pe_def0 h hr hg hdb) fun σ H Q ⟨B, δ, S, k, s, r, h, q⟩ => ⟨B, [], S, k, _, .nil, r, h, q, fun _ _ _ _ _ _ z => z.elim⟩
/-! calls of built-ins -/
def SimC (K : PySem.W.Frag) (r : List V → Hp → VK → Prop) (rd : List D → Sto → DK → Prop) : Prop := ∀ (B : Hp) (S : Sto) (H : Hp) (vs : List V) (xs : List D) (k : DK) (Q : VK), R K B S H → RdL K B vs xs → rd xs S k →
  (∀ z S' u B' H', k z S' → Ex B B' → R K B' S' H' → RdD K B' u z → Q u H') → r vs H Q
def dCB (rd : List D → Sto → DK → Prop) (da : DA) : DE := fun δ S k => da δ S fun xs S1 => rd xs S1 k
theorem l_cb {r : List V → Hp → VK → Prop} {rd : List D → Sto → DK → Prop} {da : DA} (hs : SimC K r rd) (σ : L2.St) (H : Hp) (Q : VK) : lE K (dCB rd da) σ H Q → tCB r (lA K da) σ H Q := fun ⟨B, δ, S, k, s, r, h, q⟩ =>
  ⟨B, δ, S, _, s, r, h, fun xs S1 vs B1 H1 h1 e1 r1 d1 => hs B1 S1 H1 vs xs k Q r1 d1 h1 fun z S' u B' H' hk e' r' d' => q z S' u B' H' hk (e1.trans e') r' d'⟩
theorem de_callB {id : String} {x : Str} {p pos : Pos} {e : Expr} {es : List Expr} {da : DA} {r : List V → Hp → VK → Prop} {rd : List D → Sto → DK → Prop} (hc : CallR X (.builtin id) r) (hs : SimC K r rd) (hg : Gl X x) (hm : X.mg x = none) (hv : bootBuiltins x = some (.builtin id)) (ha : PA X (e :: es) (lA K da)) (hn : x ≠ "__name__" := by decide) (hdb : (x == ("__debug__" : Str)) = false := by decide)
    (he : starEach (e :: es) X.env = (false, eval e X.env) :: starEach es X.env := by rfl) (hpl : (backTo pos (starEach es X.env)).any (·.1) = false := by rfl) : PE X (.Call (.Name x p) (e :: es) [] pos) (lE K (dCB rd da)) := peOf (pe_callB hc hg hm hv ha hn hdb he hpl) (l_cb hs)
theorem de_callTy {T : String} {x : Str} {p pos : Pos} {e : Expr} {es : List Expr} {da : DA} {r : List V → Hp → VK → Prop} {rd : List D → Sto → DK → Prop} (hc : CallR X (.type T) r) (hs : SimC K r rd) (hg : Gl X x) (hm : X.mg x = none) (hv : bootBuiltins x = some (.type T)) (ha : PA X (e :: es) (lA K da)) (hn : x ≠ "__name__" := by decide) (hdb : (x == ("__debug__" : Str)) = false := by decide)
    (he : starEach (e :: es) X.env = (false, eval e X.env) :: starEach es X.env := by rfl) (hpl : (backTo pos (starEach es X.env)).any (·.1) = false := by rfl) : PE X (.Call (.Name x p) (e :: es) [] pos) (lE K (dCB rd da)) := peOf (pe_callTy hc hg hm hv ha hn hdb he hpl) (l_cb hs)
end
end DL

set_option Elab.async false
set_option linter.all false
set_option maxRecDepth 100000
namespace DL
open PySem L2 Evl EX
/-! ### statements -/
section
variable {X : Cx} {K : PySem.W.Frag} {st : Stmt} {rest : List Stmt} {d e : DS} {pos : Pos}
def dNext : DS := fun D δ S => D.nx δ S
def dSeq (d e : DS) : DS := fun D δ S => d { D with nx := e D } δ S
def dCut (d e : DS) : DS := fun D δ S => ∃ M : Dst → Sto → Prop, d { D with nx := M } δ S ∧ ∀ δ' S', M δ' S' → e D δ' S'
theorem dss_nil : PSs X [] (lS K dNext) := pssOf pss_nil fun E σ H ⟨B, δ, S, D, s, r, h, l⟩ => l.nx δ S σ B H h (Ex.refl B) s r
theorem dss_one (h : PS X st (lS K d)) : PSs X [st] (lS K d) := pssOf (pss_one h) fun E σ H h => h
theorem dss_cons (h1 : PS X st (lS K d)) (h2 : PSs X rest (lS K e)) : PSs X (st :: rest) (lS K (dSeq d e)) := pssOf (pss_cons h1 h2) fun E σ H ⟨B, δ, S, D, s, r, h, l⟩ =>
  ⟨B, δ, S, _, s, r, h, fun δ1 S1 σ1 B1 H1 h1 e1 s1 r1 => ⟨B1, δ1, S1, D, s1, r1, h1, l.mono e1⟩, l.rt, l.bk, l.ct⟩
theorem dss_cut (h1 : PS X st (lS K d)) (h2 : PSs X rest (lS K e)) : PSs X (st :: rest) (lS K (dCut d e)) := pssOf (pss_cons h1 h2) fun E σ H ⟨B, δ, S, D, s, r, ⟨M, h, hm⟩, l⟩ =>
  ⟨B, δ, S, _, s, r, h, fun δ1 S1 σ1 B1 H1 h1 e1 s1 r1 => ⟨B1, δ1, S1, D, s1, r1, hm δ1 S1 h1, l.mono e1⟩, l.rt, l.bk, l.ct⟩
def dDrop (de : DE) : DS := fun D δ S => de δ S fun _ S1 => D.nx δ S1
def dRet (de : DE) : DS := fun D δ S => de δ S D.rt
def dRetN : DS := fun D _ S => D.rt .non S
def dIfS (t : DT) (d e : DS) : DS := fun D δ S => t δ S fun b S1 => if b = true then d D δ S1 else e D δ S1
def dPass : DS := fun D δ S => D.nx δ S
def dBreak : DS := fun D δ S => D.bk δ S
def dCont : DS := fun D δ S => D.ct δ S
def dNever : DS := fun _ _ _ => False
variable {ex : Expr} {de : DE} {t : DT}
theorem ds_expr (h : PE X ex (lE K de)) (hs : swapsWith ex none pos.line X.env = pure false := by rfl) : PS X (.Expr ex pos) (lS K (dDrop de)) := psOf (ps_expr h hs) fun E σ H ⟨B, δ, S, D, s, r, h, l⟩ =>
  ⟨B, δ, S, _, s, r, h, fun x S1 v B1 H1 h1 e1 r1 _ => l.nx δ S1 σ B1 H1 h1 e1 (s.mono e1) r1⟩
theorem ds_ret (h : PE X ex (lE K de)) : PS X (.Return (some ex) pos) (lS K (dRet de)) := psOf (ps_ret h) fun E σ H ⟨B, δ, S, D, s, r, h, l⟩ => ⟨B, δ, S, _, s, r, h, l.rt⟩
theorem ds_retN : PS X (.Return none pos) (lS K dRetN) := psOf ps_retN fun E σ H ⟨B, δ, S, D, s, r, h, l⟩ => l.rt _ S _ B H h (Ex.refl B) r .non
theorem ds_if {c : Expr} {a b : List Stmt} (hc : PT X c (lT K t)) (ha : PSs X a (lS K d)) (hb : PSs X b (lS K e)) : PS X (.If c a b pos) (lS K (dIfS t d e)) := psOf (ps_if hc ha hb) fun E σ H ⟨B, δ, S, D, s, r, h, l⟩ =>
  ⟨B, δ, S, _, s, r, h, fun b S1 B1 H1 h1 e1 r1 => by
    cases b with
    | true => exact ⟨B1, δ, S1, D, s.mono e1, r1, h1, l.mono e1⟩
    | false => exact ⟨B1, δ, S1, D, s.mono e1, r1, h1, l.mono e1⟩⟩
theorem ds_never : PS X st (lS K dNever) := psOf ps_never fun E σ H ⟨B, δ, S, D, s, r, h, l⟩ => h.elim
theorem ds_pass : PS X (.Pass pos) (lS K dPass) := psOf ps_pass fun E σ H ⟨B, δ, S, D, s, r, h, l⟩ => l.nx δ S σ B H h (Ex.refl B) s r
theorem ds_break : PS X (.Break pos) (lS K dBreak) := psOf ps_break fun E σ H ⟨B, δ, S, D, s, r, h, l⟩ => l.bk δ S σ B H h (Ex.refl B) s r
theorem ds_cont : PS X (.Continue pos) (lS K dCont) := psOf ps_continue fun E σ H ⟨B, δ, S, D, s, r, h, l⟩ => l.ct δ S σ B H h (Ex.refl B) s r
/-! targets -/
abbrev DG := D → Dst → Sto → (Dst → Sto → Prop) → Prop
abbrev DGs := List D → Dst → Sto → (Dst → Sto → Prop) → Prop
def lG (K : PySem.W.Frag) (g : DG) : TG := fun v σ H Q => ∃ B δ S x k, Sl K B σ δ ∧ R K B S H ∧ RdD K B v x ∧ g x δ S k ∧ ∀ δ' S' σ' B' H', k δ' S' → Ex B B' → Sl K B' σ' δ' → R K B' S' H' → Q σ' H'
def lGs (K : PySem.W.Frag) (g : DGs) : TGs := fun v σ H Q => ∃ B δ S x k, Sl K B σ δ ∧ R K B S H ∧ RdL K B v x ∧ g x δ S k ∧ ∀ δ' S' σ' B' H', k δ' S' → Ex B B' → Sl K B' σ' δ' → R K B' S' H' → Q σ' H'
theorem pgsOf {tg : List Expr} {t u : TGs} (h : PGs X tg t) (k : ∀ v σ H Q, u v σ H Q → t v σ H Q) : PGs X tg u := by
  obtain ⟨r⟩ := h
  exact ⟨fun pins s σ H v w Q I rv q => r pins s σ H v w Q I rv (k v σ H Q q)⟩
def gN (i : Nat) : DG := fun x δ S k => k (δ.set i (some x)) S
theorem dg_name {i : Nat} {x : Str} (hN : X.N.Nodup) (hi : X.N[i]? = some x) (hx : Loc X.env.scope x) (hf : X.fn x = true ∨ X.env.scope.names.lookup x = some .local := by first | exact .inl rfl | exact .inr rfl | assumption) : PG X (.Name x pos) (lG K (gN i)) :=
  pgOf (pg_name hN hi hx hf) fun v σ H Q ⟨B, δ, S, x, k, s, r, rd, h, q⟩ => q _ S _ B H h (Ex.refl B) (s.set rd i) r
def gsNil : DGs := fun xs δ S k => match xs with
  | [] => k δ S
  | _ => False
def gsCons (g : DG) (gs : DGs) : DGs := fun xs δ S k => match xs with
  | x :: r => g x δ S fun δ' S' => gs r δ' S' k
  | [] => False
def gT (n : Nat) (gs : DGs) : DG := fun x δ S k => match x with
  | .tup ds => ds.length = n ∧ gs ds δ S k
  | _ => False
theorem dgs_nil : PGs X [] (lGs K gsNil) := pgsOf pgs_nil fun v σ H Q ⟨B, δ, S, x, k, s, r, rd, h, q⟩ => by
  unfold gsNil at h
  split at h
  · cases rd
    exact ⟨rfl, q δ S σ B H h (Ex.refl B) s r⟩
  · exact h.elim
theorem dgs_cons {e : Expr} {es : List Expr} {g : DG} {gs : DGs} (h1 : PG X e (lG K g)) (h2 : PGs X es (lGs K gs)) (hs : (assignEach (e :: es) X.env).map (·.2) = assign e X.env :: (assignEach es X.env).map (·.2) := by rfl) : PGs X (e :: es) (lGs K (gsCons g gs)) :=
  pgsOf (pgs_cons h1 h2 hs) fun v σ H Q ⟨B, δ, S, x, k, s, r, rd, h, q⟩ => by
    unfold gsCons at h
    split at h
    · rename_i d ds
      cases rd with
      | cons rd rds => exact ⟨_, _, rfl, B, δ, S, d, _, s, r, rd, h, fun δ1 S1 σ1 B1 H1 h1 e1 s1 r1 => ⟨B1, δ1, S1, ds, k, s1, r1, rds.mono e1, h1, fun δ' S' σ' B' H' hk e' => q δ' S' σ' B' H' hk (e1.trans e')⟩⟩
    · exact h.elim
theorem dg_tup {n : Nat} {es : List Expr} {k : Nat} {g : DGs} (hc : X.calm = true) (h : PGs X es (lGs K g)) (hn : (assignEach es X.env).length = n := by rfl) (hst : (assignEach es X.env).findIdx? (·.1) = none := by rfl) (hk : X.K = K := by rfl) : PG X (.Tuple es k pos) (lG K (gT n g)) :=
  pgOf (pg_tup hc h hn hst) fun v σ H Q ⟨B, δ, S, x, k, s, r, rd, hz, q⟩ => by
    unfold gT at hz
    split at hz
    · rename_i ds
      obtain ⟨a, xs, hv, hs, hl⟩ := rd_tup rd
      subst hk
      exact ⟨a, xs, hv, ex_t r.ex hs, by rw [hl.length]; exact hz.1, B, δ, S, ds, k, s, r, hl, hz.2, q⟩
    · exact hz.elim
def dAsg (de : DE) (g : DG) : DS := fun D δ S => de δ S fun x S1 => g x δ S1 D.nx
theorem ds_asg {tg : Expr} {g : DG} (h : PE X ex (lE K de)) (hg : PG X tg (lG K g)) (hs : swapsWithSole [tg] ex pos.line X.env = pure false := by rfl) (hw : swappedStores [tg] ex X.env = pure none := by rfl)
    (h1 : (assignEach [tg] X.env).map (·.2) = [assign tg X.env] := by rfl) : PS X (.Assign [tg] ex pos) (lS K (dAsg de g)) := psOf (ps_asg h hg hs hw h1) fun E σ H ⟨B, δ, S, D, s, r, h, l⟩ =>
  ⟨B, δ, S, _, s, r, h, fun x S1 v B1 H1 h1 e1 r1 d1 => ⟨B1, δ, S1, x, _, s.mono e1, r1, d1, h1, fun δ' S' σ' B' H' hk e' s' r' => l.nx δ' S' σ' B' H' hk (e1.trans e') s' r'⟩⟩
def dSet (de : DE) (i : Nat) : DS := fun D δ S => de δ S fun x S1 => D.nx (δ.set i (some x)) S1
theorem ds_set {i : Nat} {x : Str} {pos' : Pos} (hN : X.N.Nodup) (hi : X.N[i]? = some x) (hx : Loc X.env.scope x) (h : PE X ex (lE K de)) (hs : swapsWith ex (some (.Name x pos')) pos.line X.env = pure false := by rfl) (hf : X.fn x = true ∨ X.env.scope.names.lookup x = some .local := by first | exact .inl rfl | exact .inr rfl | assumption) :
    PS X (.Assign [.Name x pos'] ex pos) (lS K (dSet de i)) := psOf (ps_set hN hi hx h hs hf) fun E σ H ⟨B, δ, S, D, s, r, h, l⟩ =>
  ⟨B, δ, S, _, s, r, h, fun x S1 v B1 H1 h1 e1 r1 d1 => l.nx _ S1 _ B1 H1 h1 e1 ((s.mono e1).set d1 i) r1⟩
/-! what is walked -/
abbrev DI := Dst → Sto → (List D → Sto → Prop) → Prop
structure ItOk (K : PySem.W.Frag) (B : Hp) (J : It) (ds : List D) : Prop where
  go : ∀ i H, Ex B H → i < ds.length → J.go i H
  stop : ∀ i H, Ex B H → ds.length ≤ i → J.stop i H
  yld : ∀ i H x H' B1 S, Ex B B1 → R K B1 S H → i < ds.length → J.yld i H x H' → ∃ d B2, ds[i]? = some d ∧ Ex B1 B2 ∧ R K B2 S H' ∧ RdD K B2 x d
def lI (K : PySem.W.Frag) (di : DI) : TI := fun σ H Rr => ∃ B δ S k, Sl K B σ δ ∧ R K B S H ∧ di δ S k ∧ ∀ ds S' B' H' J, k ds S' → Ex B B' → R K B' S' H' → ItOk K B' J ds → Rr J H'
theorem piOf {tg it : Expr} {t u : TI} (h : PI X tg it t) (k : ∀ σ H Q, u σ H Q → t σ H Q) : PI X tg it u := ⟨fun pins s σ H Q I q => h.run pins s σ H Q I (k σ H Q q)⟩
section
variable {tg l : Expr} {da : DA}
theorem itok_list {B : Hp} {a : Addr} {xs : List V} {ds : List D} (h : SqL K B a xs) (r : RdL K B xs ds) : ItOk K B (Itl K a) ds := by
  refine ⟨fun i H e hi => ?_, fun i H e hi => ⟨xs, ex_l e h, by rw [r.length]; exact hi⟩, fun i H x H' B1 S e1 r1 hi hy => ?_⟩
  · have : i < xs.length := by rw [r.length]; exact hi
    exact ⟨xs, xs[i], ex_l e h, List.getElem?_eq_getElem this⟩
  · obtain ⟨rfl, hy⟩ := hy
    have hx := hy xs (ex_l (e1.trans r1.ex) h)
    obtain ⟨d, hd, rd⟩ := r.getV hx
    exact ⟨d, B1, hd, Ex.refl B1, r1, rd.mono e1⟩
theorem itok_tup {B : Hp} {a : Addr} {xs : List V} {ds : List D} (h : SqT K B a xs) (r : RdL K B xs ds) : ItOk K B (Itt K a) ds := by
  refine ⟨fun i H e hi => ?_, fun i H e hi => ⟨xs, ex_t e h, by rw [r.length]; exact hi⟩, fun i H x H' B1 S e1 r1 hi hy => ?_⟩
  · have : i < xs.length := by rw [r.length]; exact hi
    exact ⟨xs, xs[i], ex_t e h, List.getElem?_eq_getElem this⟩
  · obtain ⟨rfl, hy⟩ := hy
    have hx := hy xs (ex_t (e1.trans r1.ex) h)
    obtain ⟨d, hd, rd⟩ := r.getV hx
    exact ⟨d, B1, hd, Ex.refl B1, r1, rd.mono e1⟩
def diL (de : DE) : DI := fun δ S k => de δ S fun x S1 => match x with
  | .list ds => k ds S1
  | .scr ds => k ds S1
  | _ => False
theorem di_list (h : PE X l (lE K de)) (hk : X.K = K := by rfl) : PI X tg l (lI K (diL de)) := piOf (piL h hk) fun σ H Q ⟨B, δ, S, k, s, r, h, q⟩ =>
  ⟨B, δ, S, _, s, r, h, fun x S1 v B1 H1 h1 e1 r1 d1 => by
    split at h1
    · obtain ⟨a, xs, rfl, ha, rl⟩ := rd_list d1
      exact ⟨a, rfl, ⟨xs, sq_of (r1.ex _ _ ha)⟩, q _ S1 B1 H1 _ h1 e1 r1 (itok_list (sq_of ha) rl)⟩
    · obtain ⟨a, xs, rfl, ha, rl⟩ := rd_scr d1
      exact ⟨a, rfl, ⟨xs, ex_l r1.ex ha⟩, q _ S1 B1 H1 _ h1 e1 r1 (itok_list ha rl)⟩
    · exact h1.elim⟩
def diT (de : DE) : DI := fun δ S k => de δ S fun x S1 => match x with
  | .tup ds => k ds S1
  | _ => False
theorem di_tup (h : PE X l (lE K de)) (hk : X.K = K := by rfl) : PI X tg l (lI K (diT de)) := piOf (piT h hk) fun σ H Q ⟨B, δ, S, k, s, r, h, q⟩ =>
  ⟨B, δ, S, _, s, r, h, fun x S1 v B1 H1 h1 e1 r1 d1 => by
    split at h1
    · obtain ⟨a, xs, rfl, ha, rl⟩ := rd_tup d1
      exact ⟨a, rfl, ⟨xs, ex_t r1.ex ha⟩, q _ S1 B1 H1 _ h1 e1 r1 (itok_tup ha rl)⟩
    · exact h1.elim⟩
def rngD (lo : Int) (n : Nat) : List D := (List.range n).map fun (i : Nat) => .int (lo + (i : Int))
theorem rngD_len (lo : Int) (n : Nat) : (rngD lo n).length = n := by simp [rngD]
theorem rngD_get {lo : Int} {n i : Nat} {d : D} (h : (rngD lo n)[i]? = some d) : d = .int (lo + (i : Int)) ∧ i < n := by
  unfold rngD at h
  rw [List.getElem?_map] at h
  by_cases hi : i < n
  · rw [List.getElem?_range hi] at h
    cases h
    exact ⟨rfl, hi⟩
  · rw [List.getElem?_eq_none (by simpa using hi)] at h
    cases h
theorem itok_rng {B : Hp} (lo : Int) (n : Nat) : ItOk K B (Itr lo n) (rngD lo n) := by
  refine ⟨fun i H e hi => by rw [rngD_len] at hi; exact hi, fun i H e hi => by rw [rngD_len] at hi; exact hi, fun i H x H' B1 S e1 r1 hi hy => ?_⟩
  obtain ⟨rfl, rfl⟩ := hy
  rw [rngD_len] at hi
  exact ⟨.int (lo + i), B1, by unfold rngD; rw [List.getElem?_map, List.getElem?_range hi]; rfl, Ex.refl B1, r1, .int _⟩
def diR1 (da : DA) : DI := fun δ S k => da δ S fun xs S1 => match xs with
  | [.int j] => -(2 ^ 62) ≤ j ∧ j < 2 ^ 62 ∧ k (rngD 0 j.toNat) S1
  | _ => False
theorem di_range1 {a : Expr} {p pos : Pos} (hg : Gl X "range") (hm : X.mg "range" = none) (ha : PA X [a] (lA K da)) (hs : starEach [a] X.env = [(false, eval a X.env)] := by rfl) : PI X tg (.Call (.Name "range" p) [a] [] pos) (lI K (diR1 da)) :=
  piOf (pi_range1 hg hm ha hs) fun σ H Q ⟨B, δ, S, k, s, r, h, q⟩ => ⟨B, δ, S, _, s, r, h, fun xs S1 vs B1 H1 h1 e1 r1 d1 => by
    split at h1
    · rename_i j
      cases d1 with
      | cons d1 dr =>
        cases dr
        rw [rd_int d1]
        exact ⟨j, rfl, h1.1, h1.2.1, q _ S1 B1 H1 _ h1.2.2 e1 r1 (itok_rng 0 _)⟩
    · exact h1.elim⟩
def diR2 (da : DA) : DI := fun δ S k => da δ S fun xs S1 => match xs with
  | [.int i, .int j] => (-(2 ^ 62) ≤ i ∧ i < 2 ^ 62 ∧ -(2 ^ 62) ≤ j ∧ j < 2 ^ 62) ∧ k (rngD i (j - i).toNat) S1
  | _ => False
theorem di_range2 {a b : Expr} {p pos : Pos} (hg : Gl X "range") (hm : X.mg "range" = none) (ha : PA X [a, b] (lA K da)) (hs : starEach [a, b] X.env = [(false, eval a X.env), (false, eval b X.env)] := by rfl) (hs2 : starEach [b] X.env = [(false, eval b X.env)] := by rfl) : PI X tg (.Call (.Name "range" p) [a, b] [] pos) (lI K (diR2 da)) :=
  piOf (pi_range2 hg hm ha hs hs2) fun σ H Q ⟨B, δ, S, k, s, r, h, q⟩ => ⟨B, δ, S, _, s, r, h, fun xs S1 vs B1 H1 h1 e1 r1 d1 => by
    split at h1
    · rename_i i j
      cases d1 with
      | cons d1 dr =>
        cases dr with
        | cons d2 dr =>
          cases dr
          rw [rd_int d1, rd_int d2]
          exact ⟨i, j, rfl, h1.1, q _ S1 B1 H1 _ h1.2 e1 r1 (itok_rng i _)⟩
    · exact h1.elim⟩
def diStr (de : DE) : DI := fun δ S k => de δ S fun x S1 => match x with
  | .str z => k (z.cps.toList.map fun c => .str ⟨#[c]⟩) S1
  | _ => False
theorem di_str (h : PE X l (lE K de)) : PI X tg l (lI K (diStr de)) := piOf (pi_str h) fun σ H Q ⟨B, δ, S, k, s, r, h, q⟩ =>
  ⟨B, δ, S, _, s, r, h, fun x S1 v B1 H1 h1 e1 r1 d1 => by
    split at h1
    · rename_i z
      refine ⟨z, rd_str d1, q _ S1 B1 H1 _ h1 e1 r1 ⟨fun i H e hi => by show i < z.cps.size; simpa using hi, fun i H e hi => by show z.cps.size ≤ i; simpa using hi, fun i H x H' B1 S e1 r1 hi hy => ?_⟩⟩
      obtain ⟨rfl, c, hc, rfl⟩ := hy
      have hc' : z.cps.toList[i]? = some c := by rw [Array.getElem?_toList]; exact hc
      exact ⟨_, B1, by rw [List.getElem?_map, hc']; rfl, Ex.refl B1, r1, .str _⟩
    · exact h1.elim⟩
def enumD (ds : List D) : List D := (List.range ds.length).map fun (i : Nat) => .tup [.int (i : Int), ds.getD i .non]
theorem enumD_len (ds : List D) : (enumD ds).length = ds.length := by simp [enumD]
theorem enumD_get {ds : List D} {i : Nat} {x : D} (h : ds[i]? = some x) : (enumD ds)[i]? = some (.tup [.int i, x]) := by
  have hi := (List.getElem?_eq_some_iff.mp h).1
  unfold enumD
  rw [List.getElem?_map, List.getElem?_range hi]
  show some (D.tup [.int i, ds.getD i .non]) = _
  rw [getD_of h]
def diEnum (da : DA) : DI := fun δ S k => da δ S fun xs S1 => match xs with
  | [.list ds] => k (enumD ds) S1
  | [.scr ds] => k (enumD ds) S1
  | _ => False
theorem itok_enum {B : Hp} {a : Addr} {xs : List V} {ds : List D} (h : SqL K B a xs) (r : RdL K B xs ds) : ItOk K B (Ite K a) (enumD ds) := by
  refine ⟨fun i H e hi => ?_, fun i H e hi => ⟨xs, ex_l e h, by rw [enumD_len] at hi; rw [r.length]; exact hi⟩, fun i H x H' B1 S e1 r1 hi hy => ?_⟩
  · rw [enumD_len] at hi
    have : i < xs.length := by rw [r.length]; exact hi
    exact ⟨xs, xs[i], ex_l e h, List.getElem?_eq_getElem this⟩
  · obtain ⟨T, y, rfl, nT, rfl, hy⟩ := hy
    have hx := hy xs (ex_l (e1.trans r1.ex) h)
    obtain ⟨d, hd, rd⟩ := r.getV hx
    have n := r1.new (o := .tup [.int (i : Nat), y]) nT
    exact ⟨_, _, enumD_get hd, n.2, n.1, .tup (st_of upd_same) (.cons (.int _) (.cons (rd.mono (e1.trans n.2)) .nil))⟩
theorem di_enum {e : Expr} {p pos tpos : Pos} {elts : List Expr} {kk : Nat} (hg : Gl X "enumerate") (hm : X.mg "enumerate" = none) (ha : PA X [e] (lA K da)) (hs : starEach [e] X.env = [(false, eval e X.env)] := by rfl) (hk : X.K = K := by rfl) :
    PI X (.Tuple elts kk tpos) (.Call (.Name "enumerate" p) [e] [] pos) (lI K (diEnum da)) := piOf (piEnum hg hm ha hs hk) fun σ H Q ⟨B, δ, S, k, s, r, h, q⟩ =>
  ⟨B, δ, S, _, s, r, h, fun xs S1 vs B1 H1 h1 e1 r1 d1 => by
    split at h1
    · rename_i ds
      cases d1 with
      | cons d1 dr =>
        cases dr
        obtain ⟨a, xs, rfl, ha, rl⟩ := rd_list d1
        exact ⟨a, xs, rfl, sq_of (r1.ex _ _ ha), q _ S1 B1 H1 _ h1 e1 r1 (itok_enum (sq_of ha) rl)⟩
    · rename_i ds
      cases d1 with
      | cons d1 dr =>
        cases dr
        obtain ⟨a, xs, rfl, ha, rl⟩ := rd_scr d1
        exact ⟨a, xs, rfl, ex_l r1.ex ha, q _ S1 B1 H1 _ h1 e1 r1 (itok_enum ha rl)⟩
    · exact h1.elim⟩
end
/-! loops -/
def dFor (di : DI) (g : DG) (b : DS) : DS := fun D δ S => di δ S fun ds S1 => ∃ I : Nat → Dst → Sto → Prop, I 0 δ S1 ∧
  (∀ n d δ' S', ds[n]? = some d → I n δ' S' → g d δ' S' fun δ2 S2 => b { D with nx := I (n + 1), ct := I (n + 1), bk := D.nx } δ2 S2) ∧ ∀ δ' S', I ds.length δ' S' → D.nx δ' S'
theorem ds_for {iter tg : Expr} {body : List Stmt} {di : DI} {g : DG} (hp : PassesOwn (model X.prog X.w) X.A X.env X.xe) (hc : X.calm = true) (hi : PI X tg iter (lI K di)) (hg : PG X tg (lG K g)) (hb : PSs X body (lS K d)) (hs : ∀ x, foldedSetIterable iter X.env x = pure x := by intro _; rfl)
    : PS X (.For tg iter body [] pos) (lS K (dFor di g d)) := psOf (ps_for hp hc hi hg hb hs) fun E σ H ⟨B, δ, S, D, s, r, h, l⟩ =>
  ⟨B, δ, S, _, s, r, h, fun ds S1 B1 H1 J ⟨I, h0, hs, hd⟩ e1 r1 it => by
    refine ⟨fun i m σ' H' => m = ds.length - i ∧ i ≤ ds.length ∧ ∃ B2 δ2 S2, Ex B1 B2 ∧ Sl K B2 σ' δ2 ∧ R K B2 S2 H' ∧ I i δ2 S2, ⟨ds.length, rfl, Nat.zero_le _, B1, δ, S1, Ex.refl B1, s.mono e1, r1, h0⟩, ?_⟩
    rintro i m σ' H' ⟨rfl, hi, B2, δ2, S2, e2, s2, r2, hI⟩
    by_cases hlt : i < ds.length
    · refine .inr ⟨it.go i H' (e2.trans r2.ex) hlt, fun σ3 H3 => ∃ B3 δ3 S3, Ex B1 B3 ∧ Sl K B3 σ3 δ3 ∧ R K B3 S3 H3 ∧ I (i + 1) δ3 S3, fun σ3 H3 hn => ⟨ds.length - (i + 1), by omega, rfl, by omega, hn⟩, fun x H3 hy => ?_⟩
      obtain ⟨d', B3, hd', e3, r3, rd⟩ := it.yld i H' x H3 B2 S2 e2 r2 hlt hy
      refine ⟨B3, δ2, S2, d', _, s2.mono e3, r3, rd, hs i d' δ2 S2 hd' hI, fun δ4 S4 σ4 B4 H4 h4 e4 s4 r4 => ⟨B4, δ4, S4, _, s4, r4, h4, ?_⟩⟩
      have e14 : Ex B1 B4 := e2.trans (e3.trans e4)
      exact ⟨fun δ5 S5 σ5 B5 H5 h5 e5 s5 r5 => ⟨B5, δ5, S5, e14.trans e5, s5, r5, h5⟩, fun x S v B' H' hk e' => l.rt x S v B' H' hk (e1.trans (e14.trans e')), fun δ5 S5 σ5 B5 H5 h5 e5 s5 r5 => l.nx δ5 S5 σ5 B5 H5 h5 (e1.trans (e14.trans e5)) s5 r5,
        fun δ5 S5 σ5 B5 H5 h5 e5 s5 r5 => ⟨B5, δ5, S5, e14.trans e5, s5, r5, h5⟩⟩
    · have ei : i = ds.length := by omega
      subst ei
      exact .inl ⟨it.stop _ H' (e2.trans r2.ex) (Nat.le_refl _), l.nx δ2 S2 σ' B2 H' (hd δ2 S2 hI) (e1.trans e2) s2 r2⟩⟩
def dWhile (t : DT) (b : DS) : DS := fun D δ S => ∃ W : Nat → Dst → Sto → Prop, (∃ m, W m δ S) ∧ ∀ m δ' S', W m δ' S' → t δ' S' fun c S1 => if c = true then b { D with nx := fun δ2 S2 => ∃ m', m' < m ∧ W m' δ2 S2, ct := fun δ2 S2 => ∃ m', m' < m ∧ W m' δ2 S2, bk := D.nx } δ' S1 else D.nx δ' S1
theorem ds_while {c : Expr} {body : List Stmt} (hp : PassesOwn (model X.prog X.w) X.A X.env X.xe) (hc : PT X c (lT K t)) (hb : PSs X body (lS K d)) : PS X (.While c body [] pos) (lS K (dWhile t d)) := psOf (ps_while hp hc hb) fun E σ H ⟨B, δ, S, D, s, r, ⟨W, ⟨m0, w0⟩, h⟩, l⟩ => by
  refine ⟨fun m σ' H' => ∃ B2 δ2 S2, Ex B B2 ∧ Sl K B2 σ' δ2 ∧ R K B2 S2 H' ∧ W m δ2 S2, ⟨m0, B, δ, S, Ex.refl B, s, r, w0⟩, ?_⟩
  rintro m σ' H' ⟨B2, δ2, S2, e2, s2, r2, hW⟩
  refine ⟨B2, δ2, S2, _, s2, r2, h m δ2 S2 hW, fun c S3 B3 H3 h3 e3 r3 => ?_⟩
  cases c with
  | true =>
    refine ⟨fun σ4 H4 => ∃ m', m' < m ∧ ∃ B2 δ2 S2, Ex B B2 ∧ Sl K B2 σ4 δ2 ∧ R K B2 S2 H4 ∧ W m' δ2 S2, fun σ4 H4 h4 => h4, B3, δ2, S3, _, s2.mono e3, r3, h3, ?_⟩
    have e13 := e2.trans e3
    exact ⟨fun δ5 S5 σ5 B5 H5 ⟨m', hm, h5⟩ e5 s5 r5 => ⟨m', hm, B5, δ5, S5, e13.trans e5, s5, r5, h5⟩, fun x S v B' H' hk e' => l.rt x S v B' H' hk (e13.trans e'), fun δ5 S5 σ5 B5 H5 h5 e5 s5 r5 => l.nx δ5 S5 σ5 B5 H5 h5 (e13.trans e5) s5 r5,
      fun δ5 S5 σ5 B5 H5 ⟨m', hm, h5⟩ e5 s5 r5 => ⟨m', hm, B5, δ5, S5, e13.trans e5, s5, r5, h5⟩⟩
  | false => exact l.nx δ2 S3 σ' B3 H3 h3 (e2.trans e3) (s2.mono e3) r3
end
/-! ### a def -/
def startD (N : List Str) (ds : List D) : Dst := ds.map some ++ List.replicate (N.length - ds.length) none
theorem sl_start {K : PySem.W.Frag} {B : Hp} {N : List Str} {vs : List V} {ds : List D} (h : RdL K B vs ds) : Sl K B (L2.start N vs) (startD N ds) := by
  have hl := h.length
  refine ⟨by simp [L2.start, startD, hl], fun i d e => ?_⟩
  unfold startD at e
  by_cases hi : i < ds.length
  · rw [List.getElem?_append_left (by simpa using hi), List.getElem?_map] at e
    obtain ⟨d', h1, h2⟩ := Option.map_eq_some_iff.mp e
    cases h2
    obtain ⟨v, hv, rd⟩ := h.get h1
    refine ⟨v, ?_, rd⟩
    unfold L2.start
    rw [List.getElem?_append_left (by rw [List.length_map]; omega), List.getElem?_map, hv]
    rfl
  · rw [List.getElem?_append_right (by simpa using hi)] at e
    have := List.mem_of_getElem? e
    simp at this
section
variable {P : Program} {w : World} {K : PySem.W.Frag} {mg : Str → Option Value} {base : Heap}
theorem dok {x qual : Str} {st : Stmt} {f : Addr} {fd : FuncData} {N ps : List Str} {k : Nat} {sp : SpD} (F : Fun K x qual st f fd) (Sc : FnScope N ps (defScope st)) (len : ∀ ds S q qx, sp ds S q qx → ds.length = ps.length)
    (h : ∃ d : DS, (∀ (cdv : Value) (A : Around) (outer : List Env) (s : Shared) (H : Hp) (E : XK), Room k (A.deeper (PyProof.Rows.envOfC qual (defScope st) s.heap.objs.size f cdv)) → PSs (cxOf CX0 P w K mg base N qual (defScope st) f cdv A outer s H E).nox (defBody st) (lS K d)) ∧
      ∀ ds S q qx, sp ds S q qx → d { nx := fun _ S' => q .non S', rt := q } (startD N ds) S) : FnOk P w K mg base CX0 (k + 1) f fd ps (lSp K sp) := by
  obtain ⟨d, hd, hs⟩ := h
  refine F.ok Sc (fun vs H Q E ⟨B, ds, S, q, qx, rd, r, h, _⟩ => by rw [rd.length]; exact len ds S q qx h) (fun cdv A outer s H vs Q E hr ⟨B, ds, S, q, qx, rd, r, h, hq, _⟩ => ?_)
  refine ⟨_, hd cdv A outer s H E hr, B, startD N ds, S, _, sl_start rd, r, hs ds S q qx h, ?_⟩
  exact ⟨fun δ S' σ B' H' hk e' _ r' => hq .non S' .non B' H' hk e' r' .non, fun x S' v B' H' hk e' r' rd' => hq x S' v B' H' hk e' r' rd', fun _ _ _ _ _ z => z.elim, fun _ _ _ _ _ z => z.elim⟩
end
end DL

set_option Elab.async false
set_option linter.all false
set_option maxRecDepth 100000
namespace DL
open PySem L2 Evl EX
/-! ### comprehensions -/
def wipeD (δ : Dst) : List Nat → Dst
  | [] => δ
  | v :: vs => (wipeD δ vs).set v none
theorem wipe_at (σ : L2.St) (i : Nat) : ∀ vs : List Nat, (wipe σ vs)[i]? = if i ∈ vs ∧ i < σ.length then some none else σ[i]?
  | [] => by simp [wipe]
  | v :: vs => by
    unfold wipe
    by_cases h : v = i
    · subst h
      by_cases hl : v < σ.length
      · rw [List.getElem?_set_self (by rw [wipe_length]; exact hl), if_pos ⟨List.mem_cons_self, hl⟩]
      · rw [List.getElem?_eq_none (by rw [List.length_set, wipe_length]; omega), if_neg (fun z => hl z.2), List.getElem?_eq_none (by omega)]
    · rw [List.getElem?_set_ne h, wipe_at σ i vs]
      have : (i ∈ v :: vs) ↔ i ∈ vs := by simp [List.mem_cons, Ne.symm h]
      simp [this]
theorem wipe_same {σ τ : L2.St} {vs : List Nat} (hl : σ.length = τ.length) (h : ∀ i, i ∉ vs → σ[i]? = τ[i]?) : wipe σ vs = wipe τ vs := by
  apply List.ext_getElem?
  intro i
  rw [wipe_at, wipe_at, hl]
  by_cases hi : i ∈ vs
  · by_cases h2 : i < τ.length
    · rw [if_pos ⟨hi, h2⟩, if_pos ⟨hi, h2⟩]
    · rw [if_neg (fun z => h2 z.2), if_neg (fun z => h2 z.2), List.getElem?_eq_none (by omega), List.getElem?_eq_none (by omega)]
  · rw [if_neg (fun z => hi z.1), if_neg (fun z => hi z.1)]
    exact h i hi
theorem Sl.setN {K : PySem.W.Frag} {B : Hp} {σ : L2.St} {δ : Dst} (s : Sl K B σ δ) (j : Nat) : Sl K B (σ.set j none) (δ.set j none) := by
  refine ⟨by simp [s.len], fun i d e => ?_⟩
  by_cases h : j = i
  · subst h
    by_cases hl : j < δ.length
    · rw [List.getElem?_set_self hl] at e; cases e
    · rw [List.getElem?_eq_none (by simpa using hl)] at e; cases e
  · rw [List.getElem?_set_ne h] at e ⊢
    exact s.at_ i d e
theorem Sl.wipe {K : PySem.W.Frag} {B : Hp} {σ : L2.St} {δ : Dst} (s : Sl K B σ δ) : ∀ vs, Sl K B (L2.wipe σ vs) (wipeD δ vs)
  | [] => s
  | v :: vs => (Sl.wipe s vs).setN v
abbrev DGc := D → Dst → (Dst → Prop) → Prop
/-- a comprehension's target: it sets slots of its own alone -/
def GcOk (K : PySem.W.Frag) (vs : List Nat) (g : TG) (gd : DGc) : Prop := ∀ (B H : Hp) (σ : L2.St) (δ : Dst) (v : V) (d : D) (k : Dst → Prop) (Q : L2.St → Hp → Prop), Sl K B (wipe σ vs) δ → Ex B H → RdD K B v d → gd d δ k →
  (∀ σ2 δ2, k δ2 → Sl K B σ2 δ2 → wipe σ2 vs = wipe σ vs → Q σ2 H) → g v (wipe σ vs) H Q
def gcN (j : Nat) : DGc := fun d δ k => k (δ.set j (some d))
theorem gc_name {K : PySem.W.Frag} {vs : List Nat} {j : Nat} (hj : j ∈ vs) : GcOk K vs (gName j) (gcN j) := fun B H σ δ v d k Q s e rd h q => by
  refine q _ _ h (s.set rd j) (wipe_same (by rw [List.length_set, wipe_length]) fun i hi => ?_)
  rw [List.getElem?_set_ne (show j ≠ i from fun z => hi (z ▸ hj)), wipe_at, if_neg (fun z => hi z.1)]
def gNames : List Nat → TGs
  | [] => gNil
  | j :: js => gCons (gName j) (gNames js)
def setV (σ : L2.St) : List Nat → List V → L2.St
  | j :: js, v :: vs => setV (σ.set j (some v)) js vs
  | _, _ => σ
def setD (δ : Dst) : List Nat → List D → Dst
  | j :: js, d :: ds => setD (δ.set j (some d)) js ds
  | _, _ => δ
theorem gNames_of {H : Hp} {Q : L2.St → Hp → Prop} : ∀ {js : List Nat} {vs : List V} {σ : L2.St}, vs.length = js.length → Q (setV σ js vs) H → gNames js vs σ H Q
  | [], [], _, _, q => ⟨rfl, q⟩
  | j :: js, v :: vs, σ, hl, q => ⟨v, vs, rfl, gNames_of (js := js) (by simpa using hl) q⟩
  | [], _ :: _, _, hl, _ => by simp at hl
  | _ :: _, [], _, hl, _ => by simp at hl
theorem sl_setV {K : PySem.W.Frag} {B : Hp} : ∀ {js : List Nat} {vs : List V} {ds : List D} {σ : L2.St} {δ : Dst}, Sl K B σ δ → RdL K B vs ds → Sl K B (setV σ js vs) (setD δ js ds)
  | [], _, _, _, _, s, r => by cases r <;> exact s
  | j :: js, _, _, _, _, s, .nil => s
  | j :: js, _, _, _, _, s, .cons h r => sl_setV (js := js) (s.set h j) r
theorem setV_len : ∀ (js : List Nat) (vs : List V) (σ : L2.St), (setV σ js vs).length = σ.length
  | [], vs, σ => by cases vs <;> rfl
  | j :: js, [], σ => rfl
  | j :: js, v :: vs, σ => by
    show (setV (σ.set j (some v)) js vs).length = _
    rw [setV_len js vs, List.length_set]
theorem setV_at : ∀ (js : List Nat) (vs : List V) (σ : L2.St) {i : Nat}, i ∉ js → (setV σ js vs)[i]? = σ[i]?
  | [], vs, σ, i, _ => by cases vs <;> rfl
  | j :: js, [], σ, i, _ => rfl
  | j :: js, v :: vs, σ, i, h => by
    show (setV (σ.set j (some v)) js vs)[i]? = _
    rw [setV_at js vs _ (fun z => h (List.mem_cons_of_mem _ z)), List.getElem?_set_ne (show j ≠ i from fun z => h (z ▸ List.mem_cons_self))]
def gcT (js : List Nat) : DGc := fun d δ k => match d with
  | .tup ds => ds.length = js.length ∧ k (setD δ js ds)
  | _ => False
theorem gc_tup {K : PySem.W.Frag} {vs js : List Nat} (hj : ∀ j ∈ js, j ∈ vs) : GcOk K vs (gTup K js.length (gNames js)) (gcT js) := fun B H σ δ v d k Q s e rd h q => by
  unfold gcT at h
  split at h
  · rename_i ds
    obtain ⟨a, xs, rfl, hs, hl⟩ := rd_tup rd
    refine ⟨a, xs, rfl, ex_t e hs, by rw [hl.length]; exact h.1, gNames_of (by rw [hl.length]; exact h.1) (q _ _ h.2 (sl_setV s hl) (wipe_same (by rw [setV_len, wipe_length]) fun i hi => ?_))⟩
    rw [setV_at js xs _ (fun z => hi (hj i z)), wipe_at, if_neg (fun z => hi z.1)]
  · exact h.elim
def dLc (di : DI) (g : DGc) (t : DT) (de : DE) (vs : List Nat) : DE := fun δ S k => di δ S fun ds S1 => ds.length < 100000 ∧ ∀ p, S1 p = none → ∃ I : Nat → List D → Sto → Prop, I 0 [] S1 ∧
  (∀ n d acc S', ds[n]? = some d → S' p = none → I n acc S' → g d (wipeD δ vs) fun δ2 => t δ2 (put S' p (.lst acc)) fun b S2 => if b = true then de δ2 S2 (fun y S3 => ∃ S4, S4 p = none ∧ S3 = put S4 p (.lst acc) ∧ I (n + 1) (acc ++ [y]) S4) else ∃ S4, S4 p = none ∧ S2 = put S4 p (.lst acc) ∧ I (n + 1) acc S4) ∧
  ∀ acc S', S' p = none → I ds.length acc S' → k (.list acc) S'
def dYes : DT := fun _ S k => k true S
section
variable {X : Cx} {K : PySem.W.Frag}
theorem ptsOf {es : List Expr} {t u : TT} (h : PTs X es t) (k : ∀ σ H Q, u σ H Q → t σ H Q) : PTs X es u := ⟨fun pins s σ H Q I q => h.run pins s σ H Q I (k σ H Q q)⟩
theorem dts_nil : PTs X [] (lT K dYes) := ptsOf pts_nil fun σ H Q ⟨B, δ, S, k, s, r, h, q⟩ => q true S B H h (Ex.refl B) r
theorem dts_one {c : Expr} {t : DT} (h : PT X c (lT K t)) : PTs X [c] (lT K t) := pts_one h
theorem l_lc {di : DI} {g : TG} {gd : DGc} {t : DT} {de : DE} {vs : List Nat} (hg : GcOk K vs g gd) (σ : L2.St) (H : Hp) (Q : VK) : lE K (dLc di gd t de vs) σ H Q → tLc (lI K di) g (lT K t) (lE K de) vs σ H Q := fun ⟨B, δ, S, k, s, r, h, q⟩ =>
  ⟨B, δ, S, _, s, r, h, fun ds S1 B1 H1 J ⟨hlen, hp⟩ e1 r1 it => fun Dl hD => by
    have fr := (r1.fresh hD).2
    obtain ⟨I, h0, hs, hd⟩ := hp Dl fr
    refine ⟨fun i m H' => m = ds.length - i ∧ i ≤ ds.length ∧ ∃ B2 S2 acc, acc.length ≤ i ∧ S2 Dl = none ∧ Ex B1 B2 ∧ R K B2 (put S2 Dl (.lst acc)) H' ∧ I i acc S2, ⟨ds.length, rfl, Nat.zero_le _, B1, S1, [], Nat.le_refl _, fr, Ex.refl B1, r1.newS hD (.lst .nil), h0⟩, ?_⟩
    rintro i m H' ⟨rfl, hi, B2, S2, acc, hal, n2, e2, r2, hI⟩
    by_cases hlt : i < ds.length
    · refine .inr ⟨it.go i H' (e2.trans r2.ex) hlt, fun H3 => ∃ B3 S3 acc, acc.length ≤ i + 1 ∧ S3 Dl = none ∧ Ex B1 B3 ∧ R K B3 (put S3 Dl (.lst acc)) H3 ∧ I (i + 1) acc S3, fun H3 hn => ⟨ds.length - (i + 1), by omega, rfl, by omega, hn⟩, fun x H3 hy => ?_⟩
      obtain ⟨d, B3, hd', e3, r3, rd⟩ := it.yld i H' x H3 B2 _ e2 r2 hlt hy
      refine hg B3 H3 σ (wipeD δ vs) x d _ _ ((s.mono (e1.trans (e2.trans e3))).wipe vs) r3.ex rd (hs i d acc S2 hd' n2 hI) fun σ2 δ2 hk s2 hw => ⟨hw, ?_⟩
      refine ⟨B3, δ2, _, _, s2, r3, hk, fun b S4 B4 H4 h4 e4 r4 => ?_⟩
      have e14 : Ex B1 B4 := e2.trans (e3.trans e4)
      cases b with
      | false =>
        obtain ⟨S5, n5, rfl, hI5⟩ := h4
        exact ⟨B4, S5, acc, by omega, n5, e14, r4, hI5⟩
      | true =>
        refine ⟨B4, δ2, S4, _, s2.mono e4, r4, h4, fun y S5 v B5 H5 ⟨S6, n6, h6, hI6⟩ e5 r5 d5 => ?_⟩
        subst h6
        obtain ⟨xs, hx, rl⟩ := r5.lst put_same
        have r6 := r5.mut put_same (.lst (rl.append (.one d5)))
        rw [put_put] at r6
        exact ⟨xs, hx, sz_lt (by rw [rl.length]; omega), B5, S6, acc ++ [y], by simp; omega, n6, e14.trans e5, r6, hI6⟩
    · have ei : i = ds.length := by omega
      subst ei
      obtain ⟨B', e', r', rd⟩ := r2.freeze put_same
      rw [del_put n2] at r'
      exact .inl ⟨it.stop _ H' (e2.trans r2.ex) (Nat.le_refl _), q _ _ _ B' H' (hd acc S2 n2 hI) (e1.trans (e2.trans e')) r' rd⟩⟩
theorem de_lc {elt tg iter : Expr} {ifs : List Expr} {scope : Scope} {own : List (Str × Nat)} {pos : Pos} {di : DI} {g : TG} {gd : DGc} {t : DT} {de : DE} (hgc : GcOk K (own.map (·.2)) g gd) (hc : X.calm = true) (hN : X.N.Nodup) (hi : PI X tg iter (lI K di)) (ok : BlkOk X.N X.env.scope scope own)
    (hg : ∀ (s : Shared) (H : Hp) (C : Addr) (cl : List (Str × Addr)) (fp : List Addr), PG (X.blk s H scope (compEnvC scope cl C X.env) fp) tg g) (ht : ∀ (s : Shared) (H : Hp) (C : Addr) (cl : List (Str × Addr)) (fp : List Addr), PTs (X.blk s H scope (compEnvC scope cl C X.env) fp) ifs (lT K t))
    (he : ∀ (s : Shared) (H : Hp) (C : Addr) (cl : List (Str × Addr)) (fp : List Addr), PE (X.blk s H scope (compEnvC scope cl C X.env) fp) elt (lE K de)) (hs : ∀ x, foldedSetIterable iter X.env x = pure x := by intro _; rfl) :
    PE X (.ListComp elt [⟨tg, iter, ifs, 0⟩] scope pos) (lE K (dLc di gd t de (own.map (·.2)))) := peOf (pe_lc hc hN hi ok hg ht he hs) (l_lc hgc)
theorem ds_setLc {i : Nat} {y : Str} {py : Pos} {elt tg iter : Expr} {ifs : List Expr} {scope : Scope} {own : List (Str × Nat)} {pos spos : Pos} {di : DI} {g : TG} {gd : DGc} {t : DT} {de : DE} (hgc : GcOk K (own.map (·.2)) g gd) (hc : X.calm = true) (hN : X.N.Nodup) (hy : X.N[i]? = some y) (hyl : X.env.scope.names.lookup y = some .local)
    (hsw : swapsWith (.ListComp elt [⟨tg, iter, ifs, 0⟩] scope pos) (some (.Name y py)) spos.line X.env = pure true) (hi : PI X tg iter (lI K di)) (ok : BlkOk X.N X.env.scope scope own)
    (hg : ∀ (s : Shared) (H : Hp) (C : Addr) (cl : List (Str × Addr)) (fp : List Addr), PG (X.blk s H scope (compEnvC scope cl C X.env) fp) tg g) (ht : ∀ (s : Shared) (H : Hp) (C : Addr) (cl : List (Str × Addr)) (fp : List Addr), PTs (X.blk s H scope (compEnvC scope cl C X.env) fp) ifs (lT K t))
    (he : ∀ (s : Shared) (H : Hp) (C : Addr) (cl : List (Str × Addr)) (fp : List Addr), PE (X.blk s H scope (compEnvC scope cl C X.env) fp) elt (lE K de)) (hs : ∀ x, foldedSetIterable iter X.env x = pure x := by intro _; rfl) :
    PS X (.Assign [.Name y py] (.ListComp elt [⟨tg, iter, ifs, 0⟩] scope pos) spos) (lS K (dSet (dLc di gd t de (own.map (·.2))) i)) := psOf (ps_setLc hc hN hy hyl hsw hi ok hg ht he hs) fun E σ H ⟨B, δ, S, D, s, r, h, l⟩ =>
  l_lc hgc σ H _ ⟨B, δ, S, _, s, r, h, fun x S1 v B1 H1 h1 e1 r1 d1 => l.nx _ S1 _ B1 H1 h1 e1 ((s.mono e1).set d1 i) r1⟩
end
/-- a comprehension that leaves the store: the list so far by what holds of it -/
def LcO (S : Sto) (p : Addr) (acc : List D) (Q : Prop) (S3 : Sto) : Prop := ∃ S4, S4 p = none ∧ S3 = put S4 p (.lst acc) ∧ S4 = S ∧ Q
theorem LcO.of {S : Sto} {p : Addr} {acc : List D} {Q : Prop} (hp : S p = none) (h : Q) : LcO S p acc Q (put S p (.lst acc)) := ⟨S, hp, rfl, rfl, h⟩
theorem lc_go {g : DGc} {t : DT} {de : DE} {vs : List Nat} {δ : Dst} {S : Sto} {k : DK} {ds : List D} (P : Nat → List D → Prop) (hl : ds.length < 100000) (h0 : P 0 [])
    (hs : ∀ p, S p = none → ∀ n d acc, ds[n]? = some d → P n acc → g d (wipeD δ vs) fun δ2 => t δ2 (put S p (.lst acc)) fun b S2 => if b = true then de δ2 S2 (fun y S3 => LcO S p acc (P (n + 1) (acc ++ [y])) S3) else LcO S p acc (P (n + 1) acc) S2) (hd : ∀ acc, P ds.length acc → k (.list acc) S) :
    ds.length < 100000 ∧ ∀ p, S p = none → ∃ I : Nat → List D → Sto → Prop, I 0 [] S ∧
  (∀ n d acc S', ds[n]? = some d → S' p = none → I n acc S' → g d (wipeD δ vs) fun δ2 => t δ2 (put S' p (.lst acc)) fun b S2 => if b = true then de δ2 S2 (fun y S3 => ∃ S4, S4 p = none ∧ S3 = put S4 p (.lst acc) ∧ I (n + 1) (acc ++ [y]) S4) else ∃ S4, S4 p = none ∧ S2 = put S4 p (.lst acc) ∧ I (n + 1) acc S4) ∧
  ∀ acc S', S' p = none → I ds.length acc S' → k (.list acc) S' := by
  refine ⟨hl, fun p hp => ⟨fun n acc S' => S' = S ∧ P n acc, ⟨rfl, h0⟩, ?_, ?_⟩⟩
  · rintro n d acc S' hd' _ ⟨rfl, hP⟩
    exact hs p hp n d acc hd' hP
  · rintro acc S' _ ⟨rfl, hP⟩
    exact hd acc hP
end DL

set_option Elab.async false
set_option linter.all false
set_option maxRecDepth 100000
namespace DL
open PySem L2 Evl EX
/-! ### operators -/
def oI (f : Int → Int → D) : DR2 := fun x y S k => match x, y with
  | .int i, .int j => k (f i j) S
  | _, _ => False
def oIc (C : Int → Int → Prop) (f : Int → Int → D) : DR2 := fun x y S k => match x, y with
  | .int i, .int j => C i j ∧ k (f i j) S
  | _, _ => False
def oS (f : Str → Str → D) : DR2 := fun x y S k => match x, y with
  | .str i, .str j => k (f i j) S
  | _, _ => False
section
variable {K : PySem.W.Frag}
theorem si_I {g : Int → Int → V} {f : Int → Int → D} (h : ∀ i j B, RdD K B (g i j) (f i j)) : Sim2 K (rI0 g) (oI f) := fun B S H v w x y k Q r rx ry h1 q => by
  unfold oI at h1
  split at h1
  · rename_i i j
    exact ⟨i, j, rd_int rx, rd_int ry, q _ S _ B H h1 (Ex.refl B) r (h i j B)⟩
  · exact h1.elim
theorem si_Ic {C : Int → Int → Prop} {g : Int → Int → V} {f : Int → Int → D} (h : ∀ i j B, RdD K B (g i j) (f i j)) : Sim2 K (rI C g) (oIc C f) := fun B S H v w x y k Q r rx ry h1 q => by
  unfold oIc at h1
  split at h1
  · rename_i i j
    exact ⟨i, j, rd_int rx, rd_int ry, h1.1, q _ S _ B H h1.2 (Ex.refl B) r (h i j B)⟩
  · exact h1.elim
theorem si_add : Sim2 K (rI0 fun i j => .int (i + j)) (oI fun i j => .int (i + j)) := si_I fun _ _ _ => .int _
theorem si_sub : Sim2 K (rI0 fun i j => .int (i - j)) (oI fun i j => .int (i - j)) := si_I fun _ _ _ => .int _
theorem si_mul : Sim2 K (rI CMul fun i j => .int (i * j)) (oIc CMul fun i j => .int (i * j)) := si_Ic fun _ _ _ => .int _
theorem si_fdiv : Sim2 K (rI CDiv fun i j => .int (i / j)) (oIc CDiv fun i j => .int (i / j)) := si_Ic fun _ _ _ => .int _
theorem si_mod : Sim2 K (rI (fun _ j => 0 < j) fun i j => .int (i % j)) (oIc (fun _ j => 0 < j) fun i j => .int (i % j)) := si_Ic fun _ _ _ => .int _
theorem si_pow : Sim2 K (rI CPow fun i j => .int (i ^ j.toNat)) (oIc CPow fun i j => .int (i ^ j.toNat)) := si_Ic fun _ _ _ => .int _
theorem si_lt : Sim2 K (rI0 fun i j => .bl (decide (i < j))) (oI fun i j => .bl (decide (i < j))) := si_I fun _ _ _ => .bl _
theorem si_le : Sim2 K (rI0 fun i j => .bl (decide (i ≤ j))) (oI fun i j => .bl (decide (i ≤ j))) := si_I fun _ _ _ => .bl _
theorem si_gt : Sim2 K (rI0 fun i j => .bl (decide (j < i))) (oI fun i j => .bl (decide (j < i))) := si_I fun _ _ _ => .bl _
theorem si_ge : Sim2 K (rI0 fun i j => .bl (decide (j ≤ i))) (oI fun i j => .bl (decide (j ≤ i))) := si_I fun _ _ _ => .bl _
def oAddS : DR2 := fun x y S k => match x, y with
  | .str i, .str j => i.length + j.length ≤ 100000 ∧ k (.str (i ++ j)) S
  | _, _ => False
theorem si_addS : Sim2 K (fun x y H Q => ∃ i j, x = .str i ∧ y = .str j ∧ i.length + j.length ≤ sizeLine ∧ Q (.str (i ++ j)) H) oAddS := fun B S H v w x y k Q r rx ry h1 q => by
  unfold oAddS at h1
  split at h1
  · rename_i i j
    exact ⟨i, j, rd_str rx, rd_str ry, sz_of h1.1, q _ S _ B H h1.2 (Ex.refl B) r (.str _)⟩
  · exact h1.elim
theorem si_ltS : Sim2 K (fun x y H Q => ∃ i j, x = .str i ∧ y = .str j ∧ Q (.bl (decide (i.cps.toList < j.cps.toList))) H) (oS fun i j => .bl (decide (i.cps.toList < j.cps.toList))) := fun B S H v w x y k Q r rx ry h1 q => by
  unfold oS at h1
  split at h1
  · rename_i i j
    exact ⟨i, j, rd_str rx, rd_str ry, q _ S _ B H h1 (Ex.refl B) r (.bl _)⟩
  · exact h1.elim
def oMulS : DR2 := fun x y S k => match x, y with
  | .str i, .int n => i.length ≤ 16 ∧ -(2 ^ 63 : Int) ≤ n ∧ n ≤ 1048576 ∧ k (.str (Txt.mul i n)) S
  | _, _ => False
theorem si_mulS : Sim2 K rMulS oMulS := fun B S H v w x y k Q r rx ry h1 q => by
  unfold oMulS at h1
  split at h1
  · rename_i i n
    exact ⟨i, n, rd_str rx, rd_int ry, h1.1, h1.2.1, h1.2.2.1, q _ S _ B H h1.2.2.2 (Ex.refl B) r (.str _)⟩
  · exact h1.elim
/-- one sign in a text -/
def oSg (neg : Bool) : DR2 := fun x y S k => match y with
  | .str z => ∃ c : Nat, x = .str ⟨#[c]⟩ ∧ k (.bl (if neg then !decide (c ∈ z.cps.toList) else decide (c ∈ z.cps.toList))) S
  | _ => False
theorem si_sg : Sim2 K (fun x y H Q => ∃ (c : Nat) (z : Str), x = .str ⟨#[c]⟩ ∧ y = .str z ∧ Q (.bl (decide (c ∈ z.cps.toList))) H) (oSg false) := fun B S H v w x y k Q r rx ry h1 q => by
  unfold oSg at h1
  split at h1
  · obtain ⟨c, rfl, h1⟩ := h1
    exact ⟨c, _, rd_str rx, rd_str ry, q _ S _ B H h1 (Ex.refl B) r (.bl _)⟩
  · exact h1.elim
theorem si_nsg : Sim2 K (fun x y H Q => ∃ (c : Nat) (z : Str), x = .str ⟨#[c]⟩ ∧ y = .str z ∧ Q (.bl (!decide (c ∈ z.cps.toList))) H) (oSg true) := fun B S H v w x y k Q r rx ry h1 q => by
  unfold oSg at h1
  split at h1
  · obtain ⟨c, rfl, h1⟩ := h1
    exact ⟨c, _, rd_str rx, rd_str ry, q _ S _ B H h1 (Ex.refl B) r (.bl _)⟩
  · exact h1.elim
/-- is None -/
def isNon : D → Bool
  | .non => true
  | _ => false
def oIsN (neg : Bool) : DR2 := fun x y S k => match y with
  | .non => k (.bl (if neg then !isNon x else isNon x)) S
  | _ => False
theorem isNon_iff {B : Hp} {v : V} {x : D} (h : RdD K B v x) : decide (v = .non) = isNon x := by
  cases h <;> simp [isNon]
theorem si_isN : Sim2 K (fun x y H Q => y = .non ∧ Q (.bl (decide (x = .non))) H) (oIsN false) := fun B S H v w x y k Q r rx ry h1 q => by
  unfold oIsN at h1
  split at h1
  · exact ⟨rd_non ry, by rw [isNon_iff rx]; exact q _ S _ B H h1 (Ex.refl B) r (.bl _)⟩
  · exact h1.elim
theorem si_notN : Sim2 K (fun x y H Q => y = .non ∧ Q (.bl (!decide (x = .non))) H) (oIsN true) := fun B S H v w x y k Q r rx ry h1 q => by
  unfold oIsN at h1
  split at h1
  · exact ⟨rd_non ry, by rw [isNon_iff rx]; exact q _ S _ B H h1 (Ex.refl B) r (.bl _)⟩
  · exact h1.elim
/-- == of scalars -/
def sEq : D → D → Option Bool
  | .int i, .int j => some (decide (i = j))
  | .str a, .str b => some (decide (a = b))
  | .bl a, .bl b => some (decide (a = b))
  | .non, .non => some true
  | .non, .int _ => some false
  | .non, .str _ => some false
  | .non, .bl _ => some false
  | .int _, .non => some false
  | .str _, .non => some false
  | .bl _, .non => some false
  | .int _, .str _ => some false
  | .str _, .int _ => some false
  | .bl _, .str _ => some false
  | .str _, .bl _ => some false
  | _, _ => none
theorem sEq_ok {B : Hp} {v w : V} {x y : D} {b : Bool} (h : sEq x y = some b) (rx : RdD K B v x) (ry : RdD K B w y) : scal v w = true ∧ decide (v = w) = b := by
  cases rx <;> cases ry <;> first | (simp [sEq] at h; done) | (simp only [sEq, Option.some.injEq] at h; subst h; exact ⟨rfl, by simp⟩)
def oEq (neg : Bool) : DR2 := fun x y S k => match sEq x y with
  | some b => k (.bl (if neg then !b else b)) S
  | none => False
theorem si_eq : Sim2 K rEq (oEq false) := fun B S H v w x y k Q r rx ry h1 q => by
  unfold oEq at h1
  split at h1
  · rename_i b e
    obtain ⟨h2, h3⟩ := sEq_ok e rx ry
    exact ⟨h2, by rw [h3]; exact q _ S _ B H h1 (Ex.refl B) r (.bl _)⟩
  · exact h1.elim
theorem si_ne : Sim2 K rNe (oEq true) := fun B S H v w x y k Q r rx ry h1 q => by
  unfold oEq at h1
  split at h1
  · rename_i b e
    obtain ⟨h2, h3⟩ := sEq_ok e rx ry
    exact ⟨h2, by rw [h3]; exact q _ S _ B H h1 (Ex.refl B) r (.bl _)⟩
  · exact h1.elim
/-! what a sequence is -/
def SeqD (S : Sto) (x : D) (ds : List D) : Prop := match x with
  | .list es => es = ds
  | .scr es => es = ds
  | .tup es => es = ds
  | .ref a => S a = some (.lst ds)
  | _ => False
theorem seqD_ok {B H : Hp} {S : Sto} {v : V} {x : D} {ds : List D} (h : SeqD S x ds) (r : R K B S H) (rx : RdD K B v x) : ∃ p xs, v = .ref p ∧ (SqL K H p xs ∨ SqT K H p xs) ∧ RdL K B xs ds := by
  unfold SeqD at h
  split at h
  · subst h
    obtain ⟨a, xs, rfl, ha, rl⟩ := rd_list rx
    exact ⟨a, xs, rfl, .inl (sq_of (r.ex _ _ ha)), rl⟩
  · subst h
    obtain ⟨a, xs, rfl, ha, rl⟩ := rd_scr rx
    exact ⟨a, xs, rfl, .inl (ex_l r.ex ha), rl⟩
  · subst h
    obtain ⟨a, xs, rfl, ha, rl⟩ := rd_tup rx
    exact ⟨a, xs, rfl, .inr (ex_t r.ex ha), rl⟩
  · obtain ⟨xs, ha, rl⟩ := r.lst h
    exact ⟨_, xs, rd_ref rx, .inl (sq_of ha), rl⟩
  · exact h.elim
theorem rdl_atI {B : Hp} {xs : List V} {ds : List D} {i : Int} {d : D} (h : RdL K B xs ds) (e : atI ds i = some d) : ∃ v, atI xs i = some v ∧ RdD K B v d := by
  unfold atI at e ⊢
  rw [h.length]
  obtain ⟨j, hj, e⟩ := Option.bind_eq_some_iff.mp e
  obtain ⟨v, hv, rd⟩ := h.get e
  exact ⟨v, by rw [hj]; exact hv, rd⟩
/-- x[i] -/
def oIx : DR2 := fun x y S k => match y with
  | .int i => match x with
    | .str z => ∃ c, z.length ≤ 100000 ∧ atI z.cps.toList i = some c ∧ k (.str ⟨#[c]⟩) S
    | x => ∃ ds d, SeqD S x ds ∧ atI ds i = some d ∧ k d S
  | _ => False
theorem si_ix {X : Cx} (hk : X.K = K) : Sim2 K (L2.rIx X.K) oIx := fun B S H v w x y k Q r rx ry h1 q => by
  subst hk
  unfold oIx at h1
  split at h1
  · rename_i i
    rw [rd_int ry]
    split at h1
    · rename_i z
      obtain ⟨c, hz, hc, h1⟩ := h1
      rw [rd_str rx]
      exact .inr (.inr ⟨z, i, c, rfl, rfl, sz_of hz, hc, q _ S _ B H h1 (Ex.refl B) r (.str _)⟩)
    · obtain ⟨ds, d, hs, hd, h1⟩ := h1
      obtain ⟨p, xs, rfl, hp, rl⟩ := seqD_ok hs r rx
      obtain ⟨v, hv, rd⟩ := rdl_atI rl hd
      rcases hp with hp | hp
      · exact .inl ⟨p, xs, i, v, rfl, rfl, hp, hv, q _ S _ B H h1 (Ex.refl B) r rd⟩
      · exact .inr (.inl ⟨p, xs, i, v, rfl, rfl, hp, hv, q _ S _ B H h1 (Ex.refl B) r rd⟩)
  · exact h1.elim
/-- flat things -/
def toV : D → V
  | .non => .non
  | .bl b => .bl b
  | .int i => .int i
  | .str x => .str x
  | _ => .ty ""
def flatD : D → Bool
  | .non => true
  | .bl _ => true
  | .int _ => true
  | .str _ => true
  | _ => false
theorem toV_ok {B : Hp} {v : V} {x : D} (h : RdD K B v x) (f : flatD x = true) : v = toV x ∧ flatV v = true := by
  cases h <;> first | exact ⟨rfl, rfl⟩ | cases f
theorem toV_all {B : Hp} : ∀ {vs : List V} {ds : List D}, RdL K B vs ds → ds.all flatD = true → vs = ds.map toV ∧ vs.all flatV = true
  | _, _, .nil, _ => ⟨rfl, rfl⟩
  | _, _, .cons h r, f => by
    rw [List.all_cons, Bool.and_eq_true] at f
    obtain ⟨h1, h2⟩ := toV_ok h f.1
    obtain ⟨h3, h4⟩ := toV_all r f.2
    exact ⟨by rw [h1, h3]; rfl, by rw [List.all_cons, h2, h4]; rfl⟩
def inD (x : D) (ds : List D) : Bool := inV (toV x) (ds.map toV)
def oIn (neg : Bool) : DR2 := fun x y S k => ∃ ds, SeqD S y ds ∧ flatD x = true ∧ ds.all flatD = true ∧ k (.bl (if neg then !inD x ds else inD x ds)) S
theorem si_in (neg : Bool) : Sim2 K (rIn K neg) (oIn neg) := fun B S H v w x y k Q r rx ry h1 q => by
  obtain ⟨ds, hs, f1, f2, h1⟩ := h1
  obtain ⟨p, xs, rfl, hp, rl⟩ := seqD_ok hs r ry
  obtain ⟨h2, h3⟩ := toV_ok rx f1
  obtain ⟨h4, h5⟩ := toV_all rl f2
  refine ⟨p, xs, rfl, hp, h3, h5, ?_⟩
  rw [h2, h4]
  exact q _ S _ B H h1 (Ex.refl B) r (.bl _)
/-- list + list, tuple + tuple -/
def oCat : DR2 := fun x y S k => match x, y with
  | .list a, .list b => a.length + b.length ≤ 100000 ∧ k (.list (a ++ b)) S
  | _, _ => False
theorem si_cat : Sim2 K rCat oCat := fun B S H v w x y k Q r rx ry h1 q => by
  unfold oCat at h1
  split at h1
  · obtain ⟨p, xs, rfl, hp, rl⟩ := rd_list rx
    obtain ⟨p2, ys, rfl, hp2, rl2⟩ := rd_list ry
    refine ⟨p, p2, xs, ys, rfl, rfl, r.ex _ _ hp, r.ex _ _ hp2, sz_of (by rw [rl.length, rl2.length]; exact h1.1), fun z hz => ?_⟩
    have n := r.new (o := .lst (xs ++ ys)) hz
    exact q _ S _ _ _ h1.2 n.2 n.1 (.lst upd_same ((rl.append rl2).mono n.2))
  · exact h1.elim
def oCatT : DR2 := fun x y S k => match x, y with
  | .tup a, .tup b => a ≠ [] ∧ a.length + b.length ≤ 100000 ∧ k (.tup (a ++ b)) S
  | _, _ => False
theorem si_catT : Sim2 K (rCatT K) oCatT := fun B S H v w x y k Q r rx ry h1 q => by
  unfold oCatT at h1
  split at h1
  · rename_i a b
    obtain ⟨p, xs, rfl, hp, rl⟩ := rd_tup rx
    obtain ⟨p2, ys, rfl, hp2, rl2⟩ := rd_tup ry
    refine ⟨p, p2, xs, ys, rfl, rfl, ex_t r.ex hp, ex_t r.ex hp2, fun z => h1.1 (List.eq_nil_of_length_eq_zero (by rw [← rl.length, z]; rfl)), sz_of (by rw [rl.length, rl2.length]; exact h1.2.1), fun z => ?_, fun _ z hz => ?_⟩
    · have : b = [] := List.eq_nil_of_length_eq_zero (by rw [← rl2.length, z]; rfl)
      subst this
      have h2 := h1.2.2
      rw [List.append_nil] at h2
      exact q _ S _ B H h2 (Ex.refl B) r rx
    · have n := r.new (o := .tup (xs ++ ys)) hz
      exact q _ S _ _ _ h1.2.2 n.2 n.1 (.tup (st_of upd_same) ((rl.append rl2).mono n.2))
  · exact h1.elim
theorem opCatT {X : Cx} (h : X.K = K := by rfl) : OpR X (binaryOp .Add) (rCatT K) := h ▸ op_catT
/-! slices -/
def cutD (xs : List D) (lo hi : Option Int) : List D := (xs.drop (HT.sIx xs.length 0 lo)).take (HT.sIx xs.length xs.length hi - HT.sIx xs.length 0 lo)
theorem rdl_cut {B : Hp} {xs : List V} {ds : List D} (h : RdL K B xs ds) (lo hi : Option Int) : RdL K B (cutV xs lo hi) (cutD ds lo hi) := by
  unfold cutV cutD
  rw [h.length]
  exact (h.drop _).take _
end
abbrev DO := Dst → Sto → (Option Int → Sto → Prop) → Prop
def lO (K : PySem.W.Frag) (d : DO) : TO := fun σ H Q => ∃ B δ S k, Sl K B σ δ ∧ R K B S H ∧ d δ S k ∧ ∀ o S' B' H', k o S' → Ex B B' → R K B' S' H' → Q o H'
def dNoP : DO := fun _ S k => k none S
def dPart (de : DE) : DO := fun δ S k => de δ S fun x S1 => match x with
  | .int i => k (some i) S1
  | _ => False
section
variable {X : Cx} {K : PySem.W.Frag} {e : Expr} {de : DE} {lo hi : Option Expr} {dl dh : DO}
theorem poOf {t u : TO} {lo : Option Expr} (h : PO X lo t) (k : ∀ σ H Q, u σ H Q → t σ H Q) : PO X lo u := by
  obtain ⟨r⟩ := h
  exact ⟨fun pins s σ H Q I q => r pins s σ H Q I (k σ H Q q)⟩
theorem do_none : PO X none (lO K dNoP) := poOf po_none fun σ H Q ⟨B, δ, S, k, s, r, h, q⟩ => q none S B H h (Ex.refl B) r
theorem do_some (h : PE X e (lE K de)) : PO X (some e) (lO K (dPart de)) := poOf (po_some h) fun σ H Q ⟨B, δ, S, k, s, r, h, q⟩ => ⟨B, δ, S, _, s, r, h, fun x S1 v B1 H1 h1 e1 r1 d1 => by
  split at h1
  · exact ⟨_, rd_int d1, q _ S1 B1 H1 h1 e1 r1⟩
  · exact h1.elim⟩
def dSl (rd : D → Option Int → Option Int → Sto → DK → Prop) (de : DE) (dl dh : DO) : DE := fun δ S k => de δ S fun x S1 => dl δ S1 fun l S2 => dh δ S2 fun u S3 => rd x l u S3 k
def SimS (K : PySem.W.Frag) (r : V → Option Int → Option Int → Hp → VK → Prop) (rd : D → Option Int → Option Int → Sto → DK → Prop) : Prop := ∀ (B : Hp) (S : Sto) (H : Hp) (v : V) (x : D) (l u : Option Int) (k : DK) (Q : VK), R K B S H → RdD K B v x → rd x l u S k →
  (∀ z S' u B' H', k z S' → Ex B B' → R K B' S' H' → RdD K B' u z → Q u H') → r v l u H Q
theorem de_slice {r : V → Option Int → Option Int → Hp → VK → Prop} {rd : D → Option Int → Option Int → Sto → DK → Prop} {p2 pos : Pos} (hr : SlR X r) (hs : SimS K r rd) (he : PE X e (lE K de)) (hl : PO X lo (lO K dl)) (hu : PO X hi (lO K dh)) : PE X (.Subscript e (.Slice lo hi none p2) pos) (lE K (dSl rd de dl dh)) :=
  peOf (pe_slice hr he hl hu) fun σ H Q ⟨B, δ, S, k, s, r, h, q⟩ => ⟨B, δ, S, _, s, r, h, fun x S1 v B1 H1 h1 e1 r1 d1 => ⟨B1, δ, S1, _, s.mono e1, r1, h1, fun l S2 B2 H2 h2 e2 r2 => ⟨B2, δ, S2, _, s.mono (e1.trans e2), r2, h2, fun u S3 B3 H3 h3 e3 r3 =>
    hs B3 S3 H3 v x l u k Q r3 (d1.mono (e2.trans e3)) h3 fun z S' w B' H' hk e' r' d' => q z S' w B' H' hk (e1.trans (e2.trans (e3.trans e'))) r' d'⟩⟩⟩
def oSlL : D → Option Int → Option Int → Sto → DK → Prop := fun x l u S k => match x with
  | .list ds => k (.list (cutD ds l u)) S
  | .scr ds => k (.list (cutD ds l u)) S
  | .ref a => ∃ ds, S a = some (.lst ds) ∧ k (.list (cutD ds l u)) S
  | _ => False
theorem si_slL : SimS K (rSlL K) oSlL := fun B S H v x l u k Q r rx h1 q => by
  have main : ∀ ds, SeqD S x ds → (∃ p xs, v = .ref p ∧ SqL K H p xs ∧ RdL K B xs ds) → k (.list (cutD ds l u)) S → rSlL K v l u H Q := fun ds hs ⟨p, xs, hv, hp, rl⟩ h1 =>
    ⟨p, xs, hv, hp, fun z hz => by
      have n := r.new (o := .lst (cutV xs l u)) hz
      exact q _ S _ _ _ h1 n.2 n.1 (.lst upd_same ((rdl_cut rl l u).mono n.2))⟩
  unfold oSlL at h1
  split at h1
  · obtain ⟨a, xs, rfl, ha, rl⟩ := rd_list rx
    exact main _ rfl ⟨a, xs, rfl, sq_of (r.ex _ _ ha), rl⟩ h1
  · obtain ⟨a, xs, rfl, ha, rl⟩ := rd_scr rx
    exact main _ rfl ⟨a, xs, rfl, ex_l r.ex ha, rl⟩ h1
  · obtain ⟨ds, hs, h1⟩ := h1
    obtain ⟨xs, ha, rl⟩ := r.lst hs
    exact main ds hs ⟨_, xs, rd_ref rx, sq_of ha, rl⟩ h1
  · exact h1.elim
/-- t[lo:hi], not the whole -/
def oSlT : D → Option Int → Option Int → Sto → DK → Prop := fun x l u S k => match x with
  | .tup ds => ¬ (HT.sIx ds.length 0 l = 0 ∧ HT.sIx ds.length ds.length u = ds.length) ∧ k (.tup (cutD ds l u)) S
  | _ => False
theorem si_slT : SimS K (rSlT K) oSlT := fun B S H v x l u k Q r rx h1 q => by
  unfold oSlT at h1
  split at h1
  · obtain ⟨a, xs, rfl, ha, rl⟩ := rd_tup rx
    refine ⟨a, xs, rfl, ex_t r.ex ha, by rw [rl.length]; exact h1.1, fun z hz => ?_⟩
    have n := r.new (o := .tup (cutV xs l u)) hz
    exact q _ S _ _ _ h1.2 n.2 n.1 (.tup (st_of upd_same) ((rdl_cut rl l u).mono n.2))
  · exact h1.elim
def oSlS : D → Option Int → Option Int → Sto → DK → Prop := fun x l u S k => match x with
  | .str z => z.length ≤ 100000 ∧ k (.str (cutS z l u)) S
  | _ => False
theorem si_slS : SimS K rSlS oSlS := fun B S H v x l u k Q r rx h1 q => by
  unfold oSlS at h1
  split at h1
  · exact ⟨_, rd_str rx, sz_of h1.1, q _ S _ B H h1.2 (Ex.refl B) r (.str _)⟩
  · exact h1.elim
end
end DL

set_option Elab.async false
set_option linter.all false
set_option maxRecDepth 100000
namespace DL
open PySem L2 Evl EX
/-! ### calls of built-ins -/
section
variable {K : PySem.W.Frag}
theorem rdl1 {B : Hp} {vs : List V} {x : D} (h : RdL K B vs [x]) : ∃ v, vs = [v] ∧ RdD K B v x := by
  cases h with
  | cons h r => cases r; exact ⟨_, rfl, h⟩
theorem rdl2 {B : Hp} {vs : List V} {x y : D} (h : RdL K B vs [x, y]) : ∃ v w, vs = [v, w] ∧ RdD K B v x ∧ RdD K B w y := by
  cases h with
  | cons h r =>
    obtain ⟨w, rfl, hw⟩ := rdl1 r
    exact ⟨_, w, rfl, h, hw⟩
/-- len -/
def oLen : List D → Sto → DK → Prop := fun xs S k => match xs with
  | [.str z] => z.length ≤ 100000 ∧ k (.int z.length) S
  | [x] => ∃ ds, SeqD S x ds ∧ k (.int ds.length) S
  | _ => False
theorem si_len {X : Cx} (hk : X.K = K) : SimC K (fun xs H Q => ∃ x n, xs = [x] ∧ LenV X.K x H n ∧ Q (.int n) H) oLen := fun B S H vs xs k Q r rx h1 q => by
  subst hk
  unfold oLen at h1
  split at h1
  · rename_i z
    obtain ⟨v, rfl, rv⟩ := rdl1 rx
    cases rd_str rv
    exact ⟨_, z.length, rfl, ⟨sz_of h1.1, rfl⟩, q _ S _ B H h1.2 (Ex.refl B) r (.int _)⟩
  · rename_i x hx
    obtain ⟨v, rfl, rv⟩ := rdl1 rx
    obtain ⟨ds, hs, h1⟩ := h1
    obtain ⟨p, xs, rfl, hp, rl⟩ := seqD_ok hs r rv
    refine ⟨_, xs.length, rfl, ?_, by rw [rl.length]; exact q _ S _ B H h1 (Ex.refl B) r (.int _)⟩
    rcases hp with hp | hp
    · exact .inl ⟨xs, hp, rfl⟩
    · exact .inr ⟨xs, hp, rfl⟩
  · exact h1.elim
def oLenD : List D → Sto → DK → Prop := fun xs S k => match xs with
  | [.ref a] => ∃ kvs, S a = some (.dct kvs) ∧ k (.int kvs.length) S
  | _ => False
theorem rdkv_len {κ : Type} {B : Hp} : ∀ {l : List (κ × V)} {m : List (κ × D)}, RdKV K B l m → l.length = m.length := fun h => Paired.length h
theorem si_lenD : SimC K (fun xs H Q => ∃ a kvs, xs = [V.ref a] ∧ H a = some (.dK kvs) ∧ Q (.int kvs.length) H) oLenD := fun B S H vs xs k Q r rx h1 q => by
  unfold oLenD at h1
  split at h1
  · obtain ⟨v, rfl, rv⟩ := rdl1 rx
    cases rd_ref rv
    obtain ⟨kvs, hs, h1⟩ := h1
    obtain ⟨us, hu, rl⟩ := r.dct hs
    exact ⟨_, us, rfl, hu, by rw [rdkv_len rl]; exact q _ S _ B H h1 (Ex.refl B) r (.int _)⟩
  · exact h1.elim
def oI1 (f : Int → D) : List D → Sto → DK → Prop := fun xs S k => match xs with
  | [.int i] => k (f i) S
  | _ => False
def oI2 (f : Int → Int → D) : List D → Sto → DK → Prop := fun xs S k => match xs with
  | [.int i, .int j] => k (f i j) S
  | _ => False
theorem si_abs : SimC K (fun xs H Q => ∃ i, xs = [.int i] ∧ Q (.int (if i < 0 then -i else i)) H) (oI1 fun i => .int (if i < 0 then -i else i)) := fun B S H vs xs k Q r rx h1 q => by
  unfold oI1 at h1
  split at h1
  · obtain ⟨v, rfl, rv⟩ := rdl1 rx
    cases rd_int rv
    exact ⟨_, rfl, q _ S _ B H h1 (Ex.refl B) r (.int _)⟩
  · exact h1.elim
theorem si_max2 : SimC K (fun xs H Q => ∃ i j, xs = [.int i, .int j] ∧ Q (.int (if j > i then j else i)) H) (oI2 fun i j => .int (if j > i then j else i)) := fun B S H vs xs k Q r rx h1 q => by
  unfold oI2 at h1
  split at h1
  · obtain ⟨v, w, rfl, rv, rw'⟩ := rdl2 rx
    cases rd_int rv
    cases rd_int rw'
    exact ⟨_, _, rfl, q _ S _ B H h1 (Ex.refl B) r (.int _)⟩
  · exact h1.elim
theorem si_min2 : SimC K (fun xs H Q => ∃ i j, xs = [.int i, .int j] ∧ Q (.int (if j < i then j else i)) H) (oI2 fun i j => .int (if j < i then j else i)) := fun B S H vs xs k Q r rx h1 q => by
  unfold oI2 at h1
  split at h1
  · obtain ⟨v, w, rfl, rv, rw'⟩ := rdl2 rx
    cases rd_int rv
    cases rd_int rw'
    exact ⟨_, _, rfl, q _ S _ B H h1 (Ex.refl B) r (.int _)⟩
  · exact h1.elim
def oInt1 : List D → Sto → DK → Prop := fun xs S k => match xs with
  | [.int i] => k (.int i) S
  | [.bl b] => k (.int (if b then 1 else 0)) S
  | _ => False
theorem si_int1 : SimC K (fun xs H Q => (∃ i, xs = [.int i] ∧ Q (.int i) H) ∨ ∃ k, xs = [.bl k] ∧ Q (.int (if k then 1 else 0)) H) oInt1 := fun B S H vs xs k Q r rx h1 q => by
  unfold oInt1 at h1
  split at h1
  · obtain ⟨v, rfl, rv⟩ := rdl1 rx
    cases rd_int rv
    exact .inl ⟨_, rfl, q _ S _ B H h1 (Ex.refl B) r (.int _)⟩
  · obtain ⟨v, rfl, rv⟩ := rdl1 rx
    cases rd_bl rv
    exact .inr ⟨_, rfl, q _ S _ B H h1 (Ex.refl B) r (.int _)⟩
  · exact h1.elim
def oIntS : List D → Sto → DK → Prop := fun xs S k => match xs with
  | [.str a] => ∃ n, PySem.intText? a = some n ∧ a.length ≤ 640 ∧ k (.int n) S
  | _ => False
theorem si_intS : SimC K (fun xs H Q => ∃ a n, xs = [.str a] ∧ PySem.intText? a = some n ∧ a.length ≤ 640 ∧ Q (.int n) H) oIntS := fun B S H vs xs k Q r rx h1 q => by
  unfold oIntS at h1
  split at h1
  · obtain ⟨v, rfl, rv⟩ := rdl1 rx
    cases rd_str rv
    obtain ⟨n, a, b, h1⟩ := h1
    exact ⟨_, n, rfl, a, b, q _ S _ B H h1 (Ex.refl B) r (.int _)⟩
  · exact h1.elim
def oStr : List D → Sto → DK → Prop := fun xs S k => match xs with
  | [.int i] => i.natAbs.log2 < 1920 ∧ k (.str (toString i)) S
  | [.str a] => k (.str a) S
  | _ => False
theorem callStr {X : Cx} : CallR X (.type "str") (fun xs H Q => (∃ i : Int, xs = [.int i] ∧ i.natAbs.log2 < 1920 ∧ Q (.str (toString i)) H) ∨ ∃ a, xs = [.str a] ∧ Q (.str a) H) := fun pins s σ H xs us Q I r h =>
  h.elim (fun h => call_str_int pins s σ H xs us Q I r h) (fun h => SkE.call_str_str pins s σ H xs us Q I r h)
theorem si_str : SimC K (fun xs H Q => (∃ i : Int, xs = [.int i] ∧ i.natAbs.log2 < 1920 ∧ Q (.str (toString i)) H) ∨ ∃ a, xs = [.str a] ∧ Q (.str a) H) oStr := fun B S H vs xs k Q r rx h1 q => by
  unfold oStr at h1
  split at h1
  · obtain ⟨v, rfl, rv⟩ := rdl1 rx
    cases rd_int rv
    exact .inl ⟨_, rfl, h1.1, q _ S _ B H h1.2 (Ex.refl B) r (.str _)⟩
  · obtain ⟨v, rfl, rv⟩ := rdl1 rx
    cases rd_str rv
    exact .inr ⟨_, rfl, q _ S _ B H h1 (Ex.refl B) r (.str _)⟩
  · exact h1.elim
/-- list(xs): a new list, told once for all; list(xs) that will change -/
def oList : List D → Sto → DK → Prop := fun xs S k => match xs with
  | [x] => ∃ ds, SeqD S x ds ∧ k (.list ds) S
  | _ => False
theorem si_list : SimC K (rListS K) oList := fun B S H vs xs k Q r rx h1 q => by
  unfold oList at h1
  split at h1
  · obtain ⟨v, rfl, rv⟩ := rdl1 rx
    obtain ⟨ds, hs, h1⟩ := h1
    obtain ⟨p, ys, rfl, hp, rl⟩ := seqD_ok hs r rv
    refine ⟨p, ys, rfl, hp, fun l hl => ?_⟩
    have n := r.new (o := .lst ys) hl
    exact q _ S _ _ _ h1 n.2 n.1 (.lst upd_same (rl.mono n.2))
  · exact h1.elim
def oListN : List D → Sto → DK → Prop := fun xs S k => match xs with
  | [x] => ∃ ds, SeqD S x ds ∧ ∀ p, S p = none → k (.ref p) (put S p (.lst ds))
  | _ => False
theorem si_listN : SimC K (rListS K) oListN := fun B S H vs xs k Q r rx h1 q => by
  unfold oListN at h1
  split at h1
  · obtain ⟨v, rfl, rv⟩ := rdl1 rx
    obtain ⟨ds, hs, h1⟩ := h1
    obtain ⟨p, ys, rfl, hp, rl⟩ := seqD_ok hs r rv
    exact ⟨p, ys, rfl, hp, fun l hl => q _ _ _ B _ (h1 l (r.fresh hl).2) (Ex.refl B) (r.newS hl (.lst rl)) (.ref l)⟩
  · exact h1.elim
def rTupleS (K : PySem.W.Frag) : List V → Hp → VK → Prop := fun xs H Q => ∃ p ys, xs = [.ref p] ∧ ((SqL K H p ys ∧ ∀ l, H l = none → Q (.ref l) (upd H l (.tup ys))) ∨ (SqT K H p ys ∧ Q (.ref p) H))
theorem clTuple {X : Cx} (h : X.K = K := by rfl) : CallR X (.type "tuple") (rTupleS K) := h ▸ call_tuple_of
def oTuple : List D → Sto → DK → Prop := fun xs S k => match xs with
  | [x] => ∃ ds, SeqD S x ds ∧ k (.tup ds) S
  | _ => False
theorem si_tuple : SimC K (rTupleS K) oTuple := fun B S H vs xs k Q r rx h1 q => by
  unfold oTuple at h1
  split at h1
  · obtain ⟨v, rfl, rv⟩ := rdl1 rx
    obtain ⟨ds, hs, h1⟩ := h1
    have fromL : ∀ p ys, v = .ref p → SqL K H p ys → RdL K B ys ds → rTupleS K [v] H Q := fun p ys hv hp rl => ⟨p, ys, by rw [hv], .inl ⟨hp, fun l hl => by
      have n := r.new (o := .tup ys) hl
      exact q _ S _ _ _ h1 n.2 n.1 (.tup (st_of upd_same) (rl.mono n.2))⟩⟩
    unfold SeqD at hs
    split at hs
    · subst hs
      obtain ⟨a, xs, hv, ha, rl⟩ := rd_list rv
      exact fromL a xs hv (sq_of (r.ex _ _ ha)) rl
    · subst hs
      obtain ⟨a, xs, hv, ha, rl⟩ := rd_scr rv
      exact fromL a xs hv (ex_l r.ex ha) rl
    · subst hs
      obtain ⟨a, xs, hv, ha, rl⟩ := rd_tup rv
      exact ⟨a, xs, by rw [hv], .inr ⟨ex_t r.ex ha, by rw [← hv]; exact q _ S _ B H h1 (Ex.refl B) r rv⟩⟩
    · obtain ⟨xs, ha, rl⟩ := r.lst hs
      exact fromL _ xs (rd_ref rv) (sq_of ha) rl
    · exact hs.elim
  · exact h1.elim
/-! any, all, sum over lists -/
theorem rdl_of_map {α : Type} {B : Hp} {f : α → D} {g : α → V} (h : ∀ v a, RdD K B v (f a) → v = g a) : ∀ {vs : List V} (as : List α), RdL K B vs (as.map f) → vs = as.map g
  | _, [], .nil => rfl
  | _, a :: as, .cons hd r => by rw [h _ a hd, rdl_of_map h as r]; rfl
def oAny : List D → Sto → DK → Prop := fun xs S k => match xs with
  | [.list ds] => ∃ bs : List Bool, ds = bs.map D.bl ∧ k (.bl (bs.any id)) S
  | _ => False
def oAll : List D → Sto → DK → Prop := fun xs S k => match xs with
  | [.list ds] => ∃ bs : List Bool, ds = bs.map D.bl ∧ k (.bl (bs.all id)) S
  | _ => False
theorem si_any : SimC K (rAny K) oAny := fun B S H vs xs k Q r rx h1 q => by
  unfold oAny at h1
  split at h1
  · obtain ⟨v, rfl, rv⟩ := rdl1 rx
    obtain ⟨bs, rfl, h1⟩ := h1
    obtain ⟨a, xs, rfl, ha, rl⟩ := rd_list rv
    have e := rdl_of_map (g := V.bl) (fun v b h => rd_bl h) bs rl
    subst e
    exact ⟨a, bs, rfl, sq_of (r.ex _ _ ha), q _ S _ B H h1 (Ex.refl B) r (.bl _)⟩
  · exact h1.elim
theorem si_all : SimC K (rAll K) oAll := fun B S H vs xs k Q r rx h1 q => by
  unfold oAll at h1
  split at h1
  · obtain ⟨v, rfl, rv⟩ := rdl1 rx
    obtain ⟨bs, rfl, h1⟩ := h1
    obtain ⟨a, xs, rfl, ha, rl⟩ := rd_list rv
    have e := rdl_of_map (g := V.bl) (fun v b h => rd_bl h) bs rl
    subst e
    exact ⟨a, bs, rfl, sq_of (r.ex _ _ ha), q _ S _ B H h1 (Ex.refl B) r (.bl _)⟩
  · exact h1.elim
def oSum : List D → Sto → DK → Prop := fun xs S k => match xs with
  | [.list ds] => ∃ ns : List Int, ds = ns.map D.int ∧ k (.int ns.sum) S
  | _ => False
theorem crSum {X : Cx} (hc : X.calm = true) (h : X.K = K := by rfl) : CallR X (.builtin "sum") (rSum K) := h ▸ cr_sum hc
theorem si_sum : SimC K (rSum K) oSum := fun B S H vs xs k Q r rx h1 q => by
  unfold oSum at h1
  split at h1
  · obtain ⟨v, rfl, rv⟩ := rdl1 rx
    obtain ⟨bs, rfl, h1⟩ := h1
    obtain ⟨a, xs, rfl, ha, rl⟩ := rd_list rv
    have e := rdl_of_map (g := V.int) (fun v b h => rd_int h) bs rl
    subst e
    exact ⟨a, bs, rfl, sq_of (r.ex _ _ ha), q _ S _ B H h1 (Ex.refl B) r (.int _)⟩
  · exact h1.elim
/-! sorted -/
def oSortI : List D → Sto → DK → Prop := fun xs S k => match xs with
  | [x] => ∃ ns : List Int, SeqD S x (ns.map D.int) ∧ (∀ ds, x ≠ .tup ds) ∧ ∀ ms : List Int, ms.Perm ns → ms.Pairwise (· ≤ ·) → k (.list (ms.map D.int)) S
  | _ => False
theorem crSortI {X : Cx} (h : X.K = K := by rfl) : CallR X (.builtin "sorted") (rSortedI K) := h ▸ cr_sortedI
theorem seqL_ok {B H : Hp} {S : Sto} {v : V} {x : D} {ds : List D} (h : SeqD S x ds) (ht : ∀ ds, x ≠ .tup ds) (r : R K B S H) (rx : RdD K B v x) : ∃ p xs, v = .ref p ∧ SqL K H p xs ∧ RdL K B xs ds := by
  unfold SeqD at h
  split at h
  · subst h
    obtain ⟨a, xs, rfl, ha, rl⟩ := rd_list rx
    exact ⟨a, xs, rfl, sq_of (r.ex _ _ ha), rl⟩
  · subst h
    obtain ⟨a, xs, rfl, ha, rl⟩ := rd_scr rx
    exact ⟨a, xs, rfl, ex_l r.ex ha, rl⟩
  · exact absurd rfl (ht _)
  · obtain ⟨xs, ha, rl⟩ := r.lst h
    exact ⟨_, xs, rd_ref rx, sq_of ha, rl⟩
  · exact h.elim
theorem si_sortI : SimC K (rSortedI K) oSortI := fun B S H vs xs k Q r rx h1 q => by
  unfold oSortI at h1
  split at h1
  · obtain ⟨v, rfl, rv⟩ := rdl1 rx
    obtain ⟨ns, hs, ht, h1⟩ := h1
    obtain ⟨p, ys, rfl, hp, rl⟩ := seqL_ok hs ht r rv
    have e := rdl_of_map (g := V.int) (fun v b h => rd_int h) ns rl
    subst e
    refine ⟨p, ns, rfl, hp, fun ms l pm pw hl => ?_⟩
    have n := r.new (o := .lst (ms.map V.int)) hl
    exact q _ S _ _ _ (h1 ms pm pw) n.2 n.1 (.lst upd_same (rdl_ints ms))
  · exact h1.elim
def oSortS : List D → Sto → DK → Prop := fun xs S k => match xs with
  | [x] => ∃ ns : List Str, SeqD S x (ns.map D.str) ∧ ns.length < 64 ∧ (∀ ds, x ≠ .tup ds) ∧ ∀ ms : List Str, ms.Perm ns → PyProof.Rows.sortedS ms = true → k (.list (ms.map D.str)) S
  | _ => False
theorem crSortS {X : Cx} (h : X.K = K := by rfl) : CallR X (.builtin "sorted") (rSortedS K) := h ▸ cr_sortedS
theorem si_sortS : SimC K (rSortedS K) oSortS := fun B S H vs xs k Q r rx h1 q => by
  unfold oSortS at h1
  split at h1
  · obtain ⟨v, rfl, rv⟩ := rdl1 rx
    obtain ⟨ns, hs, hl, ht, h1⟩ := h1
    obtain ⟨p, ys, rfl, hp, rl⟩ := seqL_ok hs ht r rv
    have e := rdl_of_map (g := V.str) (fun v b h => rd_str h) ns rl
    subst e
    refine ⟨p, ns, rfl, hp, hl, fun ms l pm pw hl => ?_⟩
    have n := r.new (o := .lst (ms.map V.str)) hl
    exact q _ S _ _ _ (h1 ms pm pw) n.2 n.1 (.lst upd_same (rdl_strs ms))
  · exact h1.elim
/-! isinstance -/
def tyD (S : Sto) : D → Option String
  | .non => some "NoneType"
  | .bl _ => some "bool"
  | .int _ => some "int"
  | .str _ => some "str"
  | .list _ => some "list"
  | .scr _ => some "list"
  | .tup _ => some "tuple"
  | .ref a => match S a with
    | some (.lst _) => some "list"
    | some (.dct _) => some "dict"
    | _ => none
  | .ty _ => none
def isB (t c : String) : Bool := t == c || (t == "bool" && c == "int")
def Ts : List String := ["NoneType", "bool", "int", "str", "list", "tuple", "dict"]
def Cs : List String := ["bool", "int", "str", "list", "tuple", "dict"]
theorem isB_ok : ∀ t ∈ Ts, ∀ c ∈ Cs, kitB t c = some (isB t c) := by decide +kernel
theorem tyD_mem {S : Sto} {x : D} {t : String} (h : tyD S x = some t) : t ∈ Ts := by
  unfold tyD at h
  split at h <;> first | (cases h; decide) | (split at h <;> first | (cases h; decide) | cases h) | cases h
theorem tyD_ok {B H : Hp} {S : Sto} {v : V} {x : D} {t : String} (h : tyD S x = some t) (r : R K B S H) (rx : RdD K B v x) : TyX K H v (.type t) := by
  cases rx with
  | non => cases h; exact .base .non
  | bl b => cases h; exact .base (.bl b)
  | int i => cases h; exact .base (.int i)
  | str z => cases h; exact .base (.str z)
  | ty n => cases h
  | lst ha rl => cases h; exact .base (.lst (r.ex _ _ ha))
  | tup ha rl =>
    cases h
    rcases ex_t r.ex ha with (ha | ⟨o, ha⟩) | ⟨o, its, n, h1, h2, _⟩
    · exact .base (.tup ha)
    · exact .fTuple ha
    · exact .kTuple h1 h2
  | scr ha rl =>
    cases h
    rcases ex_l r.ex ha with (ha | ⟨o, ha⟩) | ⟨o, its, n, h1, h2, _⟩
    · exact .base (.lst ha)
    · exact .base (.frz ha)
    · exact .kList h1 h2
  | ref a =>
    simp only [tyD] at h
    split at h
    · rename_i ds e
      cases h
      obtain ⟨xs, ha, _⟩ := r.lst e
      exact .base (.lst ha)
    · rename_i ds e
      cases h
      obtain ⟨xs, ha, _⟩ := r.dct e
      exact .base (.dK ha)
    · cases h
def oIsi : List D → Sto → DK → Prop := fun xs S k => match xs with
  | [x, .ty c] => ∃ t, tyD S x = some t ∧ c ∈ Cs ∧ k (.bl (isB t c)) S
  | _ => False
theorem clIsi' {X : Cx} (h : X.K = K := by rfl) : CallR X (.builtin "isinstance") (rIsi K) := h ▸ call_isi
theorem si_isi : SimC K (rIsi K) oIsi := fun B S H vs xs k Q r rx h1 q => by
  unfold oIsi at h1
  split at h1
  · rename_i x c
    obtain ⟨v, w, rfl, rv, rw'⟩ := rdl2 rx
    obtain ⟨t, ht, hc, h1⟩ := h1
    have hw : w = .ty c := by cases rw'; rfl
    subst hw
    exact ⟨v, .ty c, .type t, .type c, isB t c, rfl, .ty c, tyD_ok ht r rv, kit_ty (isB_ok t (tyD_mem ht) c hc), q _ S _ B H h1 (Ex.refl B) r (.bl _)⟩
  · exact h1.elim
/-- isinstance(x, (c1, c2)) -/
theorem clIsiT {X : Cx} (h : X.K = K := by rfl) : CallR X (.builtin "isinstance") (rIsiT K) := h ▸ call_isiT
def dIsiT (c1 c2 : String) (de : DE) : DE := fun δ S k => de δ S fun x S1 => ∃ t, tyD S1 x = some t ∧ c1 ∈ Cs ∧ c2 ∈ Cs ∧ k (.bl (isB t c1 || isB t c2)) S1
theorem de_isiT {X : Cx} {e n1 n2 : Expr} {c1 c2 : String} {de : DE} {p q p2 : Pos} {ct : Nat} (he : PE X e (lE K de)) (h1 : PE X n1 (tC (.ty c1))) (h2 : PE X n2 (tC (.ty c2))) (hg : Gl X "isinstance") (hm : X.mg "isinstance" = none)
    (hs1 : starEach (e :: [.Tuple [n1, n2] ct p2]) X.env = (false, eval e X.env) :: starEach [.Tuple [n1, n2] ct p2] X.env := by rfl) (hs2 : starEach (n1 :: [n2]) X.env = (false, eval n1 X.env) :: starEach [n2] X.env := by rfl) (hs3 : starEach (n2 :: []) X.env = (false, eval n2 X.env) :: starEach [] X.env := by rfl)
    (hs4 : starEach (Expr.Tuple [n1, n2] ct p2 :: []) X.env = (false, eval (.Tuple [n1, n2] ct p2) X.env) :: starEach [] X.env := by rfl) (hpl : (backTo q (starEach [.Tuple [n1, n2] ct p2] X.env)).any (·.1) = false := by rfl) (hk : X.K = K := by rfl) :
    PE X (.Call (.Name "isinstance" p) (e :: [.Tuple [n1, n2] ct p2]) [] q) (lE K (dIsiT c1 c2 de)) := by
  refine peOf (pe_callB (clIsiT hk) hg hm (by decide +kernel) (pa_cons he (pa_cons (pe_tup (pa_cons h1 (pa_cons h2 pa_nil hs3) hs2)) pa_nil hs4) hs1) (by decide) (by decide) hs1 hpl) ?_
  rintro σ H Q ⟨B, δ, S, k, s, r, h, qq⟩
  refine ⟨B, δ, S, _, s, r, h, fun x S1 v B1 H1 ⟨t, ht, hc1, hc2, h1⟩ e1 r1 d1 => ⟨sz_of (by show 2 ≤ 100000; decide), fun tp htp => ?_⟩⟩
  have n := r1.new (o := .tup [.ty c1, .ty c2]) htp
  refine ⟨v, tp, [.ty c1, .ty c2], .type t, [.type c1, .type c2], isB t c1 || isB t c2, rfl, upd_same, .cons (.ty c1) (.cons (.ty c2) .nil), tyD_ok ht n.1 (d1.mono n.2), ?_, qq _ S1 _ _ _ h1 (e1.trans n.2) n.1 (.bl _)⟩
  refine kitAny_cons (b := isB t c1) (kit_ty (isB_ok t (tyD_mem ht) c1 hc1)) (fun e => ?_) (fun e => by rw [e]; rfl)
  rw [e, Bool.false_or]
  refine kitAny_cons (b := isB t c2) (kit_ty (isB_ok t (tyD_mem ht) c2 hc2)) (fun e => by rw [e]; rfl) (fun e => e)
end
end DL

set_option Elab.async false
set_option linter.all false
set_option maxRecDepth 100000
namespace DL
open PySem L2 Evl EX
/-! ### methods of lists and texts -/
abbrev DM := D → List D → Sto → DK → Prop
def SimM (K : PySem.W.Frag) (r : V → List V → Hp → VK → Prop) (rd : DM) : Prop := ∀ (B : Hp) (S : Sto) (H : Hp) (v : V) (x : D) (vs : List V) (xs : List D) (k : DK) (Q : VK), R K B S H → RdD K B v x → RdL K B vs xs → rd x xs S k →
  (∀ z S' u B' H', k z S' → Ex B B' → R K B' S' H' → RdD K B' u z → Q u H') → r v vs H Q
/-- a method of a list -/
def IsL (S : Sto) : D → Prop
  | .ref a => ∃ ds, S a = some (.lst ds)
  | .list _ => True
  | .scr _ => True
  | _ => False
theorem isL_ok {K : PySem.W.Frag} {B H : Hp} {S : Sto} {v : V} {x : D} (h : IsL S x) (r : R K B S H) (rx : RdD K B v x) : tyV K "list" v H := by
  cases rx with
  | ref a =>
    obtain ⟨ds, h⟩ := h
    obtain ⟨xs, ha, _⟩ := r.lst h
    exact .inl ⟨rfl, xs, sq_of ha⟩
  | lst ha rl => exact .inl ⟨rfl, _, sq_of (r.ex _ _ ha)⟩
  | scr ha rl => exact .inl ⟨rfl, _, ex_l r.ex ha⟩
  | _ => exact h.elim
def dML (rd : DM) (do' : DE) (da : DA) : DE := fun δ S k => do' δ S fun x S1 => IsL S1 x ∧ da δ S1 fun xs S2 => rd x xs S2 k
def dMS (rd : DM) (do' : DE) (da : DA) : DE := fun δ S k => do' δ S fun x S1 => match x with
  | .str z => da δ S1 fun xs S2 => rd (.str z) xs S2 k
  | _ => False
section
variable {X : Cx} {K : PySem.W.Frag} {o e : Expr} {es : List Expr} {dO : DE} {da : DA} {name : Str} {apos cpos : Pos} {id : String} {r : V → List V → Hp → VK → Prop} {rd : DM}
theorem de_ml (slot : Slot "list" name id) (hty : typeOf (.builtin id) = pure (.type "method_descriptor")) (hm : MtR X id r) (hs' : SimM K r rd) (ho : PE X o (lE K dO)) (ha : PA X (e :: es) (lA K da))
    (hbase : attributeBase o name X.env (eval o X.env) = eval o X.env := by rfl)
    (hfew : ((backTo cpos (starEach (e :: es) X.env)).all (fun x => !x.1) && (backToKw cpos (keywordEach [] X.env)).all (fun x => x.1.isSome)
      && decide ((e :: es).length + ([] : List Keyword).length + (if ([] : List Keyword).isEmpty then 0 else 1) < 30)) = true := by rfl)
    (hline : (apos.endLine == cpos.line) = true := by rfl) (hs : starEach (e :: es) X.env = (false, eval e X.env) :: starEach es X.env := by rfl) (hplain : (backTo cpos (starEach es X.env)).any (·.1) = false := by rfl) (h : X.K = K := by rfl) :
    PE X (.Call (.Attribute o name apos) (e :: es) [] cpos) (lE K (dML rd dO da)) := peOf (peBm (K := K) PySem.F.plainAttrs_list slot hty hm ho ha hbase hfew hline hs hplain h) fun σ H Q ⟨B, δ, S, k, s, r, h, q⟩ =>
  ⟨B, δ, S, _, s, r, h, fun x S1 v B1 H1 ⟨hl, h1⟩ e1 r1 d1 => ⟨isL_ok hl r1 d1, B1, δ, S1, _, s.mono e1, r1, h1, fun xs S2 vs B2 H2 h2 e2 r2 d2 => hs' B2 S2 H2 v x vs xs k Q r2 (d1.mono e2) d2 h2 fun z S' u B' H' hk e' r' d' => q z S' u B' H' hk (e1.trans (e2.trans e')) r' d'⟩⟩
theorem de_ml0 (slot : Slot "list" name id) (hty : typeOf (.builtin id) = pure (.type "method_descriptor")) (hm : MtR X id r) (hs' : SimM K r rd) (ho : PE X o (lE K dO))
    (hbase : attributeBase o name X.env (eval o X.env) = eval o X.env := by rfl) (hline : (apos.endLine == cpos.line) = true := by rfl) (h : X.K = K := by rfl) :
    PE X (.Call (.Attribute o name apos) [] [] cpos) (lE K (dML rd dO dNil)) := peOf (pe_bm0 PySem.F.plainAttrs_list slot hty hm ho hbase hline) fun σ H Q ⟨B, δ, S, k, s, r, hh, q⟩ =>
  ⟨B, δ, S, _, s, r, hh, fun x S1 v B1 H1 ⟨hl, h1⟩ e1 r1 d1 => ⟨by subst h; exact isL_ok hl r1 d1, hs' B1 S1 H1 v x [] [] k Q r1 d1 .nil h1 fun z S' u B' H' hk e' r' d' => q z S' u B' H' hk (e1.trans e') r' d'⟩⟩
theorem de_ms (slot : Slot "str" name id) (hty : typeOf (.builtin id) = pure (.type "method_descriptor")) (hm : MtR X id r) (hs' : SimM K r rd) (ho : PE X o (lE K dO)) (ha : PA X (e :: es) (lA K da))
    (hbase : attributeBase o name X.env (eval o X.env) = eval o X.env := by rfl)
    (hfew : ((backTo cpos (starEach (e :: es) X.env)).all (fun x => !x.1) && (backToKw cpos (keywordEach [] X.env)).all (fun x => x.1.isSome)
      && decide ((e :: es).length + ([] : List Keyword).length + (if ([] : List Keyword).isEmpty then 0 else 1) < 30)) = true := by rfl)
    (hline : (apos.endLine == cpos.line) = true := by rfl) (hs : starEach (e :: es) X.env = (false, eval e X.env) :: starEach es X.env := by rfl) (hplain : (backTo cpos (starEach es X.env)).any (·.1) = false := by rfl) (h : X.K = K := by rfl) :
    PE X (.Call (.Attribute o name apos) (e :: es) [] cpos) (lE K (dMS rd dO da)) := peOf (peBm (K := K) PySem.F.plainAttrs_str slot hty hm ho ha hbase hfew hline hs hplain h) fun σ H Q ⟨B, δ, S, k, s, r, h, q⟩ =>
  ⟨B, δ, S, _, s, r, h, fun x S1 v B1 H1 h1 e1 r1 d1 => by
    split at h1
    · rename_i z
      refine ⟨by cases rd_str d1; rfl, B1, δ, S1, _, s.mono e1, r1, h1, fun xs S2 vs B2 H2 h2 e2 r2 d2 => hs' B2 S2 H2 v _ vs xs k Q r2 (d1.mono e2) d2 h2 fun z S' u B' H' hk e' r' d' => q z S' u B' H' hk (e1.trans (e2.trans e')) r' d'⟩
    · exact h1.elim⟩
end
section
variable {K : PySem.W.Frag}
def oApp : DM := fun x xs S k => match x, xs with
  | .ref a, [y] => ∃ ds, S a = some (.lst ds) ∧ ds.length < 100000 ∧ k .non (put S a (.lst (ds ++ [y])))
  | _, _ => False
theorem si_app : SimM K rAppend oApp := fun B S H v x vs xs k Q r rx rl h1 q => by
  unfold oApp at h1
  split at h1
  · obtain ⟨w, rfl, rw'⟩ := rdl1 rl
    obtain ⟨ds, hs, hl, h1⟩ := h1
    obtain ⟨ys, ha, rr⟩ := r.lst hs
    cases rd_ref rx
    exact ⟨_, ys, w, rfl, rfl, ha, sz_lt (by rw [rr.length]; exact hl), q _ _ _ B _ h1 (Ex.refl B) (r.mut hs (.lst (rr.append (.one rw')))) .non⟩
  · exact h1.elim
def oExt : DM := fun x xs S k => match x, xs with
  | .ref a, [.list es] => ∃ ds, S a = some (.lst ds) ∧ ds.length + es.length ≤ 100000 ∧ k .non (put S a (.lst (ds ++ es)))
  | _, _ => False
theorem si_ext : SimM K rExtend oExt := fun B S H v x vs xs k Q r rx rl h1 q => by
  unfold oExt at h1
  split at h1
  · obtain ⟨w, rfl, rw'⟩ := rdl1 rl
    obtain ⟨ds, hs, hl, h1⟩ := h1
    obtain ⟨ys, ha, rr⟩ := r.lst hs
    obtain ⟨b, zs, rfl, hb, rz⟩ := rd_list rw'
    cases rd_ref rx
    exact ⟨_, b, ys, zs, rfl, rfl, ha, r.ex _ _ hb, sz_of (by rw [rr.length, rz.length]; exact hl), q _ _ _ B _ h1 (Ex.refl B) (r.mut hs (.lst (rr.append rz))) .non⟩
  · exact h1.elim
def oPop : DM := fun x xs S k => match x, xs with
  | .ref a, [] => ∃ ds y, S a = some (.lst (ds ++ [y])) ∧ k y (put S a (.lst ds))
  | _, _ => False
theorem RdL.snoc {B : Hp} {xs : List V} {ds : List D} {d : D} (h : RdL K B xs (ds ++ [d])) : ∃ ys v, xs = ys ++ [v] ∧ RdL K B ys ds ∧ RdD K B v d := by
  have hl := h.length
  have h1 := h.take ds.length
  have h2 := h.drop ds.length
  rw [List.take_left'] at h1
  · rw [List.drop_left'] at h2
    · cases hx : xs.drop ds.length with
      | nil => rw [hx] at h2; cases h2
      | cons v r =>
        rw [hx] at h2
        cases h2 with
        | cons hd hr =>
          cases hr
          refine ⟨xs.take ds.length, v, ?_, h1, hd⟩
          rw [← hx, List.take_append_drop]
    · rfl
  · rfl
theorem si_pop : SimM K rPop oPop := fun B S H v x vs xs k Q r rx rl h1 q => by
  unfold oPop at h1
  split at h1
  · cases rl
    obtain ⟨ds, y, hs, h1⟩ := h1
    obtain ⟨ys, ha, rr⟩ := r.lst hs
    obtain ⟨zs, w, rfl, rz, rw'⟩ := rr.snoc
    cases rd_ref rx
    refine ⟨_, zs ++ [w], w, rfl, rfl, ha, by simp, ?_⟩
    rw [List.dropLast_concat]
    exact q _ _ _ B _ h1 (Ex.refl B) (r.mut hs (.lst rz)) rw'
  · exact h1.elim
/-- xs.pop(0) -/
def oPop0 : DM := fun x xs S k => match x, xs with
  | .ref a, [.int 0] => ∃ ds y, S a = some (.lst (y :: ds)) ∧ k y (put S a (.lst ds))
  | _, _ => False
theorem si_pop0 : SimM K rPopAt oPop0 := fun B S H v x vs xs k Q r rx rl h1 q => by
  unfold oPop0 at h1
  split at h1
  · obtain ⟨w, rfl, rw'⟩ := rdl1 rl
    obtain ⟨ds, y, hs, h1⟩ := h1
    obtain ⟨ys, ha, rr⟩ := r.lst hs
    cases rr with
    | cons hy rr =>
      cases rd_ref rx
      cases rd_int rw'
      exact ⟨_, _, 0, 0, _, rfl, rfl, ha, by decide, by decide, by simp [seqIndex?], rfl, q _ _ _ B _ h1 (Ex.refl B) (r.mut hs (.lst rr)) hy⟩
  · exact h1.elim
def oRev : DM := fun x xs S k => match x, xs with
  | .ref a, [] => ∃ ds, S a = some (.lst ds) ∧ k .non (put S a (.lst ds.reverse))
  | _, _ => False
theorem si_rev : SimM K rReverse oRev := fun B S H v x vs xs k Q r rx rl h1 q => by
  unfold oRev at h1
  split at h1
  · cases rl
    obtain ⟨ds, hs, h1⟩ := h1
    obtain ⟨ys, ha, rr⟩ := r.lst hs
    cases rd_ref rx
    exact ⟨_, ys, rfl, rfl, ha, q _ _ _ B _ h1 (Ex.refl B) (r.mut hs (.lst rr.rev)) .non⟩
  · exact h1.elim
/-! texts -/
def oSS (f : Str → Str → D) : DM := fun x xs S k => match x, xs with
  | .str a, [.str b] => k (f a b) S
  | _, _ => False
def oSSc (C : Str → Str → Prop) (f : Str → Str → D) : DM := fun x xs S k => match x, xs with
  | .str a, [.str b] => C a b ∧ k (f a b) S
  | _, _ => False
def oSSI (f : Str → Str → Int → D) : DM := fun x xs S k => match x, xs with
  | .str a, [.str b, .int i] => k (f a b i) S
  | _, _ => False
theorem si_ssB {f : Str → Str → Bool} : SimM K (fun x xs H Q => ∃ a b, x = .str a ∧ xs = [.str b] ∧ Q (.bl (f a b)) H) (oSS fun a b => .bl (f a b)) := fun B S H v x vs xs k Q r rx rl h1 q => by
  unfold oSS at h1
  split at h1
  · obtain ⟨w, rfl, rw'⟩ := rdl1 rl
    cases rd_str rx
    cases rd_str rw'
    exact ⟨_, _, rfl, rfl, q _ _ _ B _ h1 (Ex.refl B) r (.bl _)⟩
  · exact h1.elim
theorem si_ssiB {f : Str → Str → Int → Bool} : SimM K (fun x xs H Q => ∃ (a b : Str) (i : Int), x = .str a ∧ xs = [.str b, .int i] ∧ Q (.bl (f a b i)) H) (oSSI fun a b i => .bl (f a b i)) := fun B S H v x vs xs k Q r rx rl h1 q => by
  unfold oSSI at h1
  split at h1
  · obtain ⟨w, w2, rfl, rw', rw2⟩ := rdl2 rl
    cases rd_str rx
    cases rd_str rw'
    cases rd_int rw2
    exact ⟨_, _, _, rfl, rfl, q _ _ _ B _ h1 (Ex.refl B) r (.bl _)⟩
  · exact h1.elim
theorem si_ssiI {f : Str → Str → Int → Int} : SimM K (fun x xs H Q => ∃ (a b : Str) (i : Int), x = .str a ∧ xs = [.str b, .int i] ∧ Q (.int (f a b i)) H) (oSSI fun a b i => .int (f a b i)) := fun B S H v x vs xs k Q r rx rl h1 q => by
  unfold oSSI at h1
  split at h1
  · obtain ⟨w, w2, rfl, rw', rw2⟩ := rdl2 rl
    cases rd_str rx
    cases rd_str rw'
    cases rd_int rw2
    exact ⟨_, _, _, rfl, rfl, q _ _ _ B _ h1 (Ex.refl B) r (.int _)⟩
  · exact h1.elim
theorem si_sscS {f : Str → Str → Str} : SimM K (fun x xs H Q => ∃ a b, x = .str a ∧ xs = [.str b] ∧ a.length ≤ sizeLine ∧ Q (.str (f a b)) H) (oSSc (fun a _ => a.length ≤ 100000) fun a b => .str (f a b)) := fun B S H v x vs xs k Q r rx rl h1 q => by
  unfold oSSc at h1
  split at h1
  · obtain ⟨w, rfl, rw'⟩ := rdl1 rl
    cases rd_str rx
    cases rd_str rw'
    exact ⟨_, _, rfl, rfl, sz_of h1.1, q _ _ _ B _ h1.2 (Ex.refl B) r (.str _)⟩
  · exact h1.elim
/-- a.split(b) -/
def dSplit (da db : DE) : DE := fun δ S k => da δ S fun x S1 => match x with
  | .str a => db δ S1 fun y S2 => match y with
    | .str b => (b.length == 0) = false ∧ a.length + 2 ≤ 100000 ∧ k (.list ((Txt.split a b).map D.str)) S2
    | _ => False
  | _ => False
/-- a.join(xs) -/
def dJoin (da db : DE) : DE := fun δ S k => da δ S fun x S1 => match x with
  | .str a => db δ S1 fun y S2 => ∃ ys : List Str, SeqD S2 y (ys.map D.str) ∧ (ys.map (·.length)).sum + ys.length * a.length ≤ 16777216 ∧ k (.str (Txt.join a ys)) S2
  | _ => False
end
section
variable {X : Cx} {K : PySem.W.Frag} {o e : Expr} {dO de : DE} {apos pos : Pos}
theorem de_split (ho : PE X o (lE K dO)) (he : PE X e (lE K de)) (hs : starEach [e] X.env = [(false, eval e X.env)] := by rfl) (hbase : attributeBase o "split" X.env (eval o X.env) = eval o X.env := by rfl) (hline : (apos.endLine == pos.line) = true := by rfl) :
    PE X (.Call (.Attribute o "split" apos) [e] [] pos) (lE K (dSplit dO de)) := peOf (pe_split ho he hs hbase hline) fun σ H Q ⟨B, δ, S, k, s, r, h, q⟩ => ⟨B, δ, S, _, s, r, h, fun x S1 v B1 H1 h1 e1 r1 d1 => by
  split at h1
  · rename_i a
    cases rd_str d1
    refine ⟨⟨a, rfl⟩, B1, δ, S1, _, s.mono e1, r1, h1, fun y S2 w B2 H2 h2 e2 r2 d2 => ?_⟩
    split at h2
    · rename_i b
      cases rd_str d2
      refine ⟨a, b, rfl, rfl, h2.1, sz_of h2.2.1, fun p hp => ?_⟩
      have n := r2.new (o := .lst ((Txt.split a b).map V.str)) hp
      exact q _ S2 _ _ _ h2.2.2 (e1.trans (e2.trans n.2)) n.1 (.lst upd_same (rdl_strs _))
    · exact h2.elim
  · exact h1.elim⟩
theorem de_join (ho : PE X o (lE K dO)) (he : PE X e (lE K de)) (hs : starEach [e] X.env = [(false, eval e X.env)] := by rfl) (hbase : attributeBase o "join" X.env (eval o X.env) = eval o X.env := by rfl) (hline : (apos.endLine == pos.line) = true := by rfl) (hk : X.K = K := by rfl) :
    PE X (.Call (.Attribute o "join" apos) [e] [] pos) (lE K (dJoin dO de)) := peOf (pe_join ho he hs hbase hline) fun σ H Q ⟨B, δ, S, k, s, r, h, q⟩ => ⟨B, δ, S, _, s, r, h, fun x S1 v B1 H1 h1 e1 r1 d1 => by
  split at h1
  · rename_i a
    cases rd_str d1
    refine ⟨⟨a, rfl⟩, B1, δ, S1, _, s.mono e1, r1, h1, fun y S2 w B2 H2 ⟨ys, hs, hz, h2⟩ e2 r2 d2 => ?_⟩
    obtain ⟨p, xs, rfl, hp, rl⟩ := seqD_ok hs r2 d2
    have e := rdl_of_map (g := V.str) (fun v b h => rd_str h) ys rl
    subst e
    subst hk
    exact ⟨a, p, ys, rfl, rfl, hp, hz, q _ S2 _ _ _ h2 (e1.trans e2) r2 (.str _)⟩
  · exact h1.elim⟩
/-! x op= e -/
def dAug (i : Nat) (f : Int → Int → Int) (de : DE) : DS := fun D δ S => match δ[i]? with
  | some (some (.int a)) => de δ S fun y S1 => match y with
    | .int b => D.nx (δ.set i (some (.int (f a b)))) S1
    | _ => False
  | _ => False
theorem ds_aug {i : Nat} {x : Str} {op : Operator} {f : Int → Int → Int} {pos' : Pos} (hN : X.N.Nodup) (hi : X.N[i]? = some x) (hx : Loc X.env.scope x) (he : PE X e (lE K de)) (ho : PIp X op (ipI f)) (hf : X.fn x = true ∨ X.env.scope.names.lookup x = some .local := by first | exact .inl rfl | exact .inr rfl | assumption) :
    PS X (.AugAssign (.Name x pos') op e pos) (lS K (dAug i f de)) := psOf (ps_aug hN hi hx he ho hf) fun E σ H ⟨B, δ, S, D, s, r, h, l⟩ => by
  unfold dAug at h
  split at h
  · rename_i a ea
    obtain ⟨v, hv, rv⟩ := s.at_ i _ ea
    cases rd_int rv
    refine ⟨_, hv, B, δ, S, _, s, r, h, fun y S1 w B1 H1 h1 e1 r1 d1 => ?_⟩
    split at h1
    · rename_i b
      cases rd_int d1
      exact ⟨a, b, rfl, rfl, l.nx _ S1 _ B1 H1 h1 e1 ((s.mono e1).set (.int _) i) r1⟩
    · exact h1.elim
  · exact h.elim
end
end DL

set_option Elab.async false
set_option linter.all false
set_option maxRecDepth 100000
namespace DL
open PySem L2 Evl EX
/-! ### == at any depth -/
mutual
def D.py : D → PyData
  | .bl b => .bool b
  | .int i => .int i
  | .str x => .str x
  | .list ds => .list (pyL ds)
  | .scr ds => .list (pyL ds)
  | .tup ds => .tuple (pyL ds)
  | _ => .none
def pyL : List D → List PyData
  | [] => []
  | d :: ds => d.py :: pyL ds
end
mutual
/-- data of numbers (or, f: of truth values), texts (well made), None, lists, tuples -/
def D.nbG (f : Bool) : D → Bool
  | .non => true
  | .int _ => !f
  | .bl _ => f
  | .str x => PyData.strOk x
  | .list ds => nbGL f ds
  | .tup ds => nbGL f ds
  | _ => false
def nbGL (f : Bool) : List D → Bool
  | [] => true
  | d :: ds => d.nbG f && nbGL f ds
end
abbrev D.nb (d : D) : Bool := d.nbG false
abbrev nbL (ds : List D) : Bool := nbGL false ds
mutual
def D.deep : D → Nat
  | .list ds => deepL ds + 1
  | .tup ds => deepL ds + 1
  | _ => 0
def deepL : List D → Nat
  | [] => 0
  | d :: ds => max d.deep (deepL ds)
end
theorem nbGL_iff {f : Bool} : ∀ ds : List D, nbGL f ds = true ↔ ∀ d ∈ ds, d.nbG f = true
  | [] => by simp [nbGL]
  | d :: ds => by simp [nbGL, nbGL_iff ds]
theorem nbL_iff (ds : List D) : nbL ds = true ↔ ∀ d ∈ ds, d.nb = true := nbGL_iff ds
theorem deepL_le {n : Nat} : ∀ ds : List D, deepL ds ≤ n ↔ ∀ d ∈ ds, d.deep ≤ n
  | [] => by simp [deepL]
  | d :: ds => by simp [deepL, deepL_le ds, Nat.max_le]
mutual
theorem py_lay {f : Bool} : ∀ d : D, d.nbG f = true → d.py.canLay0 = true
  | .non, _ => rfl
  | .int _, _ => rfl
  | .str x, h => by simpa [D.nbG, D.py, PyData.canLay0] using h
  | .list ds, h => by
    rw [D.nbG] at h
    rw [D.py, PyData.canLay0]
    exact pyL_lay ds h
  | .tup ds, h => by
    rw [D.nbG] at h
    rw [D.py, PyData.canLay0]
    exact pyL_lay ds h
  | .bl _, h => rfl
  | .ref _, h => by cases h
  | .ty _, h => by cases h
  | .scr _, h => by simp [D.nbG] at h
theorem pyL_lay {f : Bool} : ∀ ds : List D, nbGL f ds = true → PyData.canLayAll0 (pyL ds) = true
  | [], _ => rfl
  | d :: ds, h => by
    rw [nbGL, Bool.and_eq_true] at h
    rw [pyL, PyData.canLayAll0, py_lay d h.1, pyL_lay ds h.2]
    rfl
end
mutual
theorem py_deep {f : Bool} : ∀ d : D, d.nbG f = true → d.py.depth = d.deep
  | .non, _ => rfl
  | .int _, _ => rfl
  | .str x, h => rfl
  | .list ds, h => by
    rw [D.nbG] at h
    rw [D.py, PyData.depth, D.deep, pyL_deep ds h]
  | .tup ds, h => by
    rw [D.nbG] at h
    rw [D.py, PyData.depth, D.deep, pyL_deep ds h]
  | .bl _, h => rfl
  | .ref _, h => by cases h
  | .ty _, h => by cases h
  | .scr _, h => by simp [D.nbG] at h
theorem pyL_deep {f : Bool} : ∀ ds : List D, nbGL f ds = true → PyData.depthAll (pyL ds) = deepL ds
  | [], _ => rfl
  | d :: ds, h => by
    rw [nbGL, Bool.and_eq_true] at h
    rw [pyL, PyData.depthAll, deepL, py_deep d h.1, pyL_deep ds h.2]
end
mutual
theorem py_inj {f : Bool} : ∀ d e : D, d.nbG f = true → e.nbG f = true → PyData.eqv d.py e.py = true → d = e
  | .non, e, _, he, h => by cases e <;> first | rfl | (simp [D.py, PyData.eqv] at h; done) | (simp [D.nbG] at he; done)
  | .int i, e, hd, he, h => by
    cases e with
    | int j => simp [D.py, PyData.eqv] at h; rw [h]
    | bl b => simp [D.nbG] at hd he; rw [hd] at he; cases he
    | _ => first | (simp [D.py, PyData.eqv] at h; done) | (simp [D.nbG] at he; done)
  | .str x, e, _, he, h => by
    cases e with
    | str y => simp [D.py, PyData.eqv] at h; rw [h]
    | _ => first | (simp [D.py, PyData.eqv] at h; done) | (simp [D.nbG] at he; done)
  | .list ds, e, hd, he, h => by
    cases e with
    | list es =>
      rw [D.nbG] at hd he
      rw [D.py, D.py, PyData.eqv] at h
      rw [pyL_inj ds es hd he h]
    | _ => first | (simp [D.py, PyData.eqv] at h; done) | (simp [D.nbG] at he; done)
  | .tup ds, e, hd, he, h => by
    cases e with
    | tup es =>
      rw [D.nbG] at hd he
      rw [D.py, D.py, PyData.eqv] at h
      rw [pyL_inj ds es hd he h]
    | _ => first | (simp [D.py, PyData.eqv] at h; done) | (simp [D.nbG] at he; done)
  | .bl b, e, hd, he, h => by
    cases e with
    | bl c => simp [D.py, PyData.eqv] at h; rw [h]
    | int i => simp [D.nbG] at hd he; rw [hd] at he; cases he
    | _ => first | (simp [D.py, PyData.eqv] at h; done) | (simp [D.nbG] at he; done)
  | .ref _, _, hd, _, _ => by cases hd
  | .ty _, _, hd, _, _ => by cases hd
  | .scr _, _, hd, _, _ => by simp [D.nbG] at hd
theorem pyL_inj {f : Bool} : ∀ ds es : List D, nbGL f ds = true → nbGL f es = true → PyData.eqvAll (pyL ds) (pyL es) = true → ds = es
  | [], [], _, _, _ => rfl
  | [], _ :: _, _, _, h => by simp [pyL, PyData.eqvAll] at h
  | _ :: _, [], _, _, h => by simp [pyL, PyData.eqvAll] at h
  | d :: ds, e :: es, hd, he, h => by
    rw [nbGL, Bool.and_eq_true] at hd he
    rw [pyL, pyL, PyData.eqvAll, Bool.and_eq_true] at h
    rw [py_inj d e hd.1 he.1 h.1, pyL_inj ds es hd.2 he.2 h.2]
end
open Classical in
theorem eqv_dec {f : Bool} {d e : D} (hd : d.nbG f = true) (he : e.nbG f = true) : PyData.eqv d.py e.py = decide (d = e) := by
  by_cases h : d = e
  · subst h
    rw [decide_eq_true rfl]
    exact SeqAt.eqv_refl d.py (py_lay d hd)
  · rw [decide_eq_false h]
    cases q : PyData.eqv d.py e.py with
    | false => rfl
    | true => exact absurd (py_inj d e hd he q) h
section
variable {K : PySem.W.Frag} {B H : Hp}
mutual
theorem dp_of {f : Bool} (e : Ex B H) : ∀ {v : V} {d : D}, RdD K B v d → d.nbG f = true → Dp K H v d.py
  | _, _, .non, _ => .non
  | _, _, .int i, _ => .int i
  | _, _, .str x, _ => .str x
  | _, _, .lst ha r, h => by
    rw [D.nbG] at h
    rw [D.py]
    exact .lst (sq_of (e _ _ ha)) (dpL_of e r h)
  | _, _, .tup ha r, h => by
    rw [D.nbG] at h
    rw [D.py]
    exact .tup (ex_t e ha) (dpL_of e r h)
  | _, _, .bl b, h => .bl b
  | _, _, .ref _, h => by cases h
  | _, _, .ty _, h => by cases h
  | _, _, .scr _ _, h => by simp [D.nbG] at h
theorem dpL_of {f : Bool} (e : Ex B H) : ∀ {vs : List V} {ds : List D}, RdL K B vs ds → nbGL f ds = true → DpAll K H vs (pyL ds)
  | _, _, .nil, _ => .nil
  | _, _, .cons h r, hn => by
    rw [nbGL, Bool.and_eq_true] at hn
    rw [pyL]
    exact .cons (dp_of e h hn.1) (dpL_of e r hn.2)
end
/-- a list of the store told by what it holds -/
def res (S : Sto) : D → D
  | .ref a => match S a with
    | some (.lst ds) => .list ds
    | _ => .ref a
  | x => x
theorem dp_res {f : Bool} {S : Sto} {v : V} {x : D} (r : R K B S H) (rx : RdD K B v x) (h : (res S x).nbG f = true) : Dp K H v (res S x).py := by
  cases x with
  | ref a =>
    simp only [res] at h ⊢
    cases e : S a with
    | none => rw [e] at h; cases h
    | some o =>
      cases o with
      | lst ds =>
        rw [e] at h
        simp only [D.nbG] at h
        obtain ⟨xs, ha, rl⟩ := r.lst e
        cases rd_ref rx
        simp only [D.py]
        exact .lst (sq_of ha) (dpL_of r.ex rl h)
      | _ => rw [e] at h; cases h
  | _ => exact dp_of r.ex rx h
end
section
variable {X : Cx} {K : PySem.W.Frag}
def rEqM (K : PySem.W.Frag) (neg : Bool) : R2 := fun x y H Q => ∃ d e, Dp K H x d ∧ Dp K H y e ∧ d.canLay0 = true ∧ e.canLay0 = true ∧ min d.depth e.depth ≤ 64 ∧ Q (.bl (if neg then !PyData.eqv d e else PyData.eqv d e)) H
theorem op_eqM (hu : X.A.units + 64 < cLine) (hk : X.K = K := by rfl) : OpR X (compareOp .Eq) (rEqM K false) := by
  intro pins s σ H x y v u Q I rx ry h
  subst hk
  obtain ⟨d, e, hd, he, sd, se, hm, q⟩ := h
  obtain ⟨as, r1⟩ := Dp.reads I d x v hd rx
  obtain ⟨bs, r2⟩ := Dp.reads I e y u he ry
  exact SeqAt.compareEq_reads r1 r2 sd se (by omega) ⟨.bl _, H, I, rfl, q⟩
theorem op_neM (hu : X.A.units + 64 < cLine) (hk : X.K = K := by rfl) : OpR X (compareOp .NotEq) (rEqM K true) := by
  intro pins s σ H x y v u Q I rx ry h
  subst hk
  obtain ⟨d, e, hd, he, sd, se, hm, q⟩ := h
  obtain ⟨as, r1⟩ := Dp.reads I d x v hd rx
  obtain ⟨bs, r2⟩ := Dp.reads I e y u he ry
  exact SeqAt.compareNe_reads r1 r2 sd se (by omega) ⟨.bl _, H, I, rfl, q⟩
open Classical in
def oEqD (neg : Bool) : DR2 := fun x y S k => ∃ f, (res S x).nbG f = true ∧ (res S y).nbG f = true ∧ min (res S x).deep (res S y).deep ≤ 64 ∧ k (.bl (if neg then !decide (res S x = res S y) else decide (res S x = res S y))) S
theorem si_eqM (neg : Bool) : Sim2 K (rEqM K neg) (oEqD neg) := fun B S H v w x y k Q r rx ry h1 q => by
  obtain ⟨f, hx, hy, hm, h1⟩ := h1
  refine ⟨_, _, dp_res r rx hx, dp_res r ry hy, py_lay _ hx, py_lay _ hy, by rw [py_deep _ hx, py_deep _ hy]; exact hm, ?_⟩
  rw [eqv_dec hx hy]
  exact q _ S _ B H h1 (Ex.refl B) r (.bl _)
/-! x in xs, a list of data -/
open Classical in
def oInD (neg : Bool) : DR2 := fun x y S k => ∃ ds, y = .list ds ∧ x.nb = true ∧ nbL ds = true ∧ x.deep ≤ 64 ∧ deepL ds ≤ 60 ∧ k (.bl (if neg then !decide (x ∈ ds) else decide (x ∈ ds))) S
open Classical in
theorem any_mem {x : D} (hx : x.nb = true) : ∀ ds : List D, nbL ds = true → ((pyL ds).any fun z => PyData.eqv z x.py) = decide (x ∈ ds)
  | [], _ => by simp [pyL]
  | d :: ds, h => by
    have h : (d.nbG false && nbGL false ds) = true := h
    rw [Bool.and_eq_true] at h
    rw [pyL, List.any_cons, any_mem hx ds h.2, eqv_dec h.1 hx]
    by_cases q : d = x
    · subst q; simp
    · have q' : ¬ x = d := fun z => q z.symm
      simp [q, q']
theorem si_inD : Sim2 K (rInD K) (oInD false) := fun B S H v w x y k Q r rx ry h1 q => by
  obtain ⟨ds, rfl, hx, hds, h64, h60, h1⟩ := h1
  have hl : (D.list ds).nb = true := by rw [D.nb, D.nbG]; exact hds
  have dl := dp_of r.ex ry hl
  rw [D.py] at dl
  refine ⟨_, _, dp_of r.ex rx hx, dl, ?_, ?_, ?_⟩
  · unfold SeqAt.shaped
    rw [py_lay _ hx, py_deep _ hx, decide_eq_true h64]
    rfl
  · unfold SeqAt.shaped
    have := py_lay _ hl
    have h2 := py_deep _ hl
    rw [D.py] at this h2
    rw [this, h2, D.deep, decide_eq_true (by omega)]
    rfl
  · rw [any_mem hx ds hds]
    exact q _ S _ B H h1 (Ex.refl B) r (.bl _)
end
end DL

set_option Elab.async false
set_option linter.all false
set_option maxRecDepth 100000
/-! ### draws, told over data -/
namespace DL
open PySem L2 Evl EX
def dDraw : SpD := fun ds S k _ => ∃ (tp : Addr) (n : Int), ds = [.ref tp, .int n] ∧ S tp = some .tap ∧ 0 < n ∧ n < 1073741824 ∧ ∀ r : Int, 0 ≤ r → r < n → k (.int r) S
def dTap : SpD := fun ds S k _ => ∃ c : Int, ds = [.int c] ∧ ∀ p, S p = none → k (.ref p) (put S p .tap)
section
variable {K : PySem.W.Frag} {B H H' : Hp} {S : Sto}
theorem R.drawn (r : R K B S H) {tp : Addr} (ht : S tp = some .tap) (e : Ex (hide tp H) H') (t : Tap H' tp) : R K B S H' := by
  have hb := (r.own tp _ ht).1
  refine ⟨(ex_hide r.ex hb).trans e, fun a o h => ?_⟩
  obtain ⟨n, ho, h1, h2⟩ := r.own a o h
  by_cases z : a = tp
  · subst z
    rw [ht] at h
    cases h
    obtain ⟨x, y, u, v, h3⟩ := t
    exact ⟨n, _, h3, .tap x y u v⟩
  · exact ⟨n, ho, e a ho (hide_get h1 z), h2⟩
/-- all that is new stands fast -/
theorem R.grow (r : R K B S H) (e : Ex H H') : ∃ B', Ex B B' ∧ R K B' S H' ∧ ∀ a o, H' a = some o → S a = none → B' a = some o := by
  refine ⟨fun a => if (S a).isSome then none else H' a, fun a o h => ?_, ⟨fun a o h => ?_, fun a o h => ?_⟩, fun a o h n => ?_⟩
  · have hs : S a = none := by
      cases q : S a with
      | none => rfl
      | some u => rw [(r.own a u q).1] at h; cases h
    show (if (S a).isSome = true then none else H' a) = some o
    rw [hs]
    exact e a o (r.ex a o h)
  · have h' : (if (S a).isSome = true then none else H' a) = some o := h
    split at h'
    · cases h'
    · exact h'
  · obtain ⟨n, ho, h1, h2⟩ := r.own a o h
    refine ⟨?_, ho, e a ho h1, h2.mono fun b u hb => ?_⟩
    · show (if (S a).isSome = true then none else H' a) = none
      rw [h]
      rfl
    · have hs : S b = none := by
        cases q : S b with
        | none => rfl
        | some u => rw [(r.own b u q).1] at hb; cases hb
      show (if (S b).isSome = true then none else H' b) = some u
      rw [hs]
      exact e b u (r.ex b u hb)
  · show (if (S a).isSome = true then none else H' a) = some o
    rw [n]
    exact h
end
section
variable {P : Program} {w : World} {K : PySem.W.Frag} {mg : Str → Option Value} {base : Heap} {k : Nat} {f : Addr} {fd : FuncData} {ps : List Str}
theorem draw_of (F : FnOk P w K mg base CX0 k f fd ps spDraw) : FnOk P w K mg base CX0 k f fd ps (lSp K dDraw) := F.imp fun vs H Q E ⟨B, ds, S, q, qx, rd, r, ⟨tp, n, hds, ht, n0, n1, h⟩, hq, _⟩ => by
  subst hds
  obtain ⟨v, w, rfl, rv, rw'⟩ := rdl2 rd
  cases rd_ref rv
  cases rd_int rw'
  exact ⟨tp, n, rfl, r.tap ht, n0, n1, fun x H' x0 x1 e t => hq _ S _ B H' (h x x0 x1) (Ex.refl B) (r.drawn ht e t) (.int x)⟩
end
end DL

set_option Elab.async false
set_option linter.all false
set_option maxRecDepth 100000
/-! ### stepping: readings over data, rewritten from the head on -/
namespace DL
open PySem L2 Evl EX
/-- what is marked is not rewritten within -/
structure Tag {α : Sort _} (a : α) : Type where
/-- an open choice -/
def branch (b : Bool) (A B : Prop) (_ : Tag (fun x : Bool => if x = true then A else B)) : Prop := if b = true then A else B
/-- a slot that is read -/
def rdv (o : Option (Option D)) (S : Sto) (k : DK) (_ : Tag k) : Prop := match o with
  | some (some d) => k d S
  | _ => False
def tst (x : D) (S : Sto) (k : Bool → Sto → Prop) (_ : Tag k) : Prop := match x with
  | .bl b => k b S
  | _ => False
def tstV (x : D) (k : Bool → Prop) (_ : Tag k) : Prop := match x with
  | .bl b => k b
  | _ => False
/-- a call by a promise -/
def ask (f : SpD) (xs : List D) (S : Sto) (k : DK) (_ : Tag k) : Prop := f xs S k fun _ _ _ => False
/-- a new place -/
def fresh (S : Sto) (k : Addr → Prop) (_ : Tag k) : Prop := ∀ p, S p = none → k p
def few (n : Nat) (A : Prop) (_ : Tag A) : Prop := n ≤ 100000 ∧ A
/-- what is asked, then the rest -/
def need (C A : Prop) (_ : Tag A) : Prop := C ∧ A
def ixq (x : D) (i : Int) (S : Sto) (k : DK) (_ : Tag k) : Prop := oIx x (.int i) S k
def lenq (x : D) (S : Sto) (k : DK) (_ : Tag k) : Prop := oLen [x] S k
theorem x_few {n : Nat} {A : Prop} (h : n ≤ 100000) : few n A ⟨⟩ = A := propext ⟨fun z => z.2, fun z => ⟨h, z⟩⟩
theorem x_need {C A : Prop} (h : C) : need C A ⟨⟩ = A := propext ⟨fun z => z.2, fun z => ⟨h, z⟩⟩
section
variable {δ : Dst} {S : Sto} {k : DK} {kt : Bool → Sto → Prop} {ka : List D → Sto → Prop} {E : DEnds} {da db de : DE} {dA : DA} {t u : DT} {d e : DS} {i j : Nat} {x y : D}
theorem x_seq : dSeq d e E δ S = d { E with nx := e E } δ S := propext Iff.rfl
theorem x_nx : dNext E δ S = E.nx δ S := propext Iff.rfl
theorem x_pass : dPass E δ S = E.nx δ S := propext Iff.rfl
theorem x_brk : dBreak E δ S = E.bk δ S := propext Iff.rfl
theorem x_cnt : dCont E δ S = E.ct δ S := propext Iff.rfl
theorem x_drop : dDrop de E δ S = de δ S fun _ S1 => E.nx δ S1 := propext Iff.rfl
theorem x_ret : dRet de E δ S = de δ S E.rt := propext Iff.rfl
theorem x_retN : dRetN E δ S = E.rt .non S := propext Iff.rfl
theorem x_ifS : dIfS t d e E δ S = t δ S fun b S1 => branch b (d E δ S1) (e E δ S1) ⟨⟩ := propext Iff.rfl
theorem x_set : dSet de i E δ S = de δ S fun x S1 => E.nx (δ.set i (some x)) S1 := propext Iff.rfl
theorem x_asg {g : DG} : dAsg de g E δ S = de δ S fun x S1 => g x δ S1 E.nx := propext Iff.rfl
theorem x_gN {kg : Dst → Sto → Prop} : gN i x δ S kg = kg (δ.set i (some x)) S := propext Iff.rfl
theorem x_gT {n : Nat} {gs : DGs} {ds : List D} {kg : Dst → Sto → Prop} : gT n gs (.tup ds) δ S kg = need (ds.length = n) (gs ds δ S kg) ⟨⟩ := propext Iff.rfl
theorem x_gsC {g : DG} {gs : DGs} {ds : List D} {kg : Dst → Sto → Prop} : gsCons g gs (x :: ds) δ S kg = g x δ S fun δ' S' => gs ds δ' S' kg := propext Iff.rfl
theorem x_gsN {kg : Dst → Sto → Prop} : gsNil [] δ S kg = kg δ S := propext Iff.rfl
theorem x_var : dVar i δ S k = rdv δ[i]? S k ⟨⟩ := propext (by unfold dVar rdv; exact Iff.rfl)
theorem x_rdv : rdv (some (some x)) S k ⟨⟩ = k x S := propext Iff.rfl
theorem x_c : dC x δ S k = k x S := propext Iff.rfl
theorem x_op {rd : DR2} : dOp rd da db δ S k = da δ S fun x S1 => db δ S1 fun y S2 => rd x y S2 k := propext Iff.rfl
theorem x_test : dTest de δ S kt = de δ S fun x S1 => tst x S1 kt ⟨⟩ := propext (by unfold dTest tst; exact Iff.rfl)
theorem x_tst {b : Bool} : tst (.bl b) S kt ⟨⟩ = kt b S := propext Iff.rfl
theorem x_and : dAnd t u δ S kt = t δ S fun c S1 => branch c (u δ S1 kt) (kt false S1) ⟨⟩ := propext Iff.rfl
theorem x_or : dOr t u δ S kt = t δ S fun c S1 => branch c (kt true S1) (u δ S1 kt) ⟨⟩ := propext Iff.rfl
theorem x_not : dNot t δ S kt = t δ S fun c S1 => kt (!c) S1 := propext Iff.rfl
theorem x_andV : dAndV da db δ S k = da δ S fun x S1 => tstV x (fun c => branch c (db δ S1 k) (k (.bl false) S1) ⟨⟩) ⟨⟩ := propext (by unfold dAndV tstV; exact Iff.rfl)
theorem x_orV : dOrV da db δ S k = da δ S fun x S1 => tstV x (fun c => branch c (k (.bl true) S1) (db δ S1 k) ⟨⟩) ⟨⟩ := propext (by unfold dOrV tstV; exact Iff.rfl)
theorem x_notV : dNotV da δ S k = da δ S fun x S1 => tstV x (fun c => k (.bl (!c)) S1) ⟨⟩ := propext (by unfold dNotV tstV; exact Iff.rfl)
theorem x_tstV {b : Bool} {kb : Bool → Prop} : tstV (.bl b) kb ⟨⟩ = kb b := propext Iff.rfl
theorem x_ifE : dIf t da db δ S k = t δ S fun c S1 => branch c (da δ S1 k) (db δ S1 k) ⟨⟩ := propext Iff.rfl
theorem x_true {A B : Prop} : branch true A B ⟨⟩ = A := by unfold branch; simp
theorem x_false {A B : Prop} : branch false A B ⟨⟩ = B := by unfold branch; simp
theorem x_nil : dNil δ S ka = ka [] S := propext Iff.rfl
theorem x_cons : dCons da dA δ S ka = da δ S fun x S1 => dA δ S1 fun xs S2 => ka (x :: xs) S2 := propext Iff.rfl
theorem x_tup : dTup dA δ S k = dA δ S fun xs S1 => few xs.length (k (.tup xs) S1) ⟨⟩ := propext Iff.rfl
theorem x_lst : dLst dA δ S k = dA δ S fun xs S1 => few xs.length (k (.list xs) S1) ⟨⟩ := propext Iff.rfl
theorem x_new : dNew dA δ S k = dA δ S fun xs S1 => few xs.length (fresh S1 (fun p => k (.ref p) (put S1 p (.lst xs))) ⟨⟩) ⟨⟩ := propext Iff.rfl
theorem x_newD : dNewD δ S k = fresh S (fun p => k (.ref p) (put S p (.dct []))) ⟨⟩ := propext Iff.rfl
theorem x_call {f : SpD} : dCall f dA δ S k = dA δ S fun xs S1 => ask f xs S1 k ⟨⟩ := propext Iff.rfl
theorem x_cb {rd : List D → Sto → DK → Prop} : dCB rd dA δ S k = dA δ S fun xs S1 => rd xs S1 k := propext Iff.rfl
theorem x_oI {f : Int → Int → D} {a b : Int} : oI f (.int a) (.int b) S k = k (f a b) S := propext Iff.rfl
theorem x_oIc {C : Int → Int → Prop} {f : Int → Int → D} {a b : Int} : oIc C f (.int a) (.int b) S k = need (C a b) (k (f a b) S) ⟨⟩ := propext Iff.rfl
theorem x_oS {f : Str → Str → D} {a b : Str} : oS f (.str a) (.str b) S k = k (f a b) S := propext Iff.rfl
theorem x_addS {a b : Str} : oAddS (.str a) (.str b) S k = few (a.length + b.length) (k (.str (a ++ b)) S) ⟨⟩ := propext Iff.rfl
theorem x_isN : oIsN false x .non S k = k (.bl (isNon x)) S := propext Iff.rfl
theorem x_notN : oIsN true x .non S k = k (.bl (!isNon x)) S := propext Iff.rfl
theorem x_eqI {a b : Int} : oEq false (.int a) (.int b) S k = k (.bl (decide (a = b))) S := propext Iff.rfl
theorem x_eqS {a b : Str} : oEq false (.str a) (.str b) S k = k (.bl (decide (a = b))) S := propext Iff.rfl
theorem x_eqIS {a : Int} {b : Str} : oEq false (.int a) (.str b) S k = k (.bl false) S := propext Iff.rfl
theorem x_eqSI {a : Str} {b : Int} : oEq false (.str a) (.int b) S k = k (.bl false) S := propext Iff.rfl
theorem x_eqNS {b : Str} : oEq false .non (.str b) S k = k (.bl false) S := propext Iff.rfl
theorem x_neI {a b : Int} : oEq true (.int a) (.int b) S k = k (.bl (!decide (a = b))) S := propext Iff.rfl
theorem x_neS {a b : Str} : oEq true (.str a) (.str b) S k = k (.bl (!decide (a = b))) S := propext Iff.rfl
theorem x_neB {a b : Bool} : oEq true (.bl a) (.bl b) S k = k (.bl (!decide (a = b))) S := propext Iff.rfl
theorem x_eqB {a b : Bool} : oEq false (.bl a) (.bl b) S k = k (.bl (decide (a = b))) S := propext Iff.rfl
theorem x_lenS {z : Str} : oLen [.str z] S k = few z.length (k (.int z.length) S) ⟨⟩ := propext Iff.rfl
theorem ix_of {ds : List D} {i : Int} {d : D} {k : DK} {x : D} (hx : x = .list ds ∨ x = .tup ds ∨ x = .scr ds) (h : atI ds i = some d) : oIx x (.int i) S k = k d S := by
  rcases hx with rfl | rfl | rfl
  all_goals
    refine propext ⟨fun ⟨es, e, hs, he, q⟩ => ?_, fun q => ⟨ds, d, rfl, h, q⟩⟩
    cases (show ds = es from hs)
    rw [h] at he
    cases he
    exact q
theorem x_ix {a : Int} : oIx x (.int a) S k = ixq x a S k ⟨⟩ := propext Iff.rfl
theorem x_ixq {ds : List D} {i : Int} {d : D} (hx : x = .list ds ∨ x = .tup ds ∨ x = .scr ds) (h : atI ds i = some d) : ixq x i S k ⟨⟩ = k d S := ix_of hx h
theorem x_ixL0 {a : D} {r : List D} : ixq (.list (a :: r)) 0 S k ⟨⟩ = k a S := ix_of (.inl rfl) (atI_nat (j := 0) rfl)
theorem x_ixT0 {a : D} {r : List D} : ixq (.tup (a :: r)) 0 S k ⟨⟩ = k a S := ix_of (.inr (.inl rfl)) (atI_nat (j := 0) rfl)
theorem x_ixT1 {a b : D} {r : List D} : ixq (.tup (a :: b :: r)) 1 S k ⟨⟩ = k b S := ix_of (.inr (.inl rfl)) (atI_nat (j := 1) rfl)
theorem x_ixT2 {a b c : D} {r : List D} : ixq (.tup (a :: b :: c :: r)) 2 S k ⟨⟩ = k c S := ix_of (.inr (.inl rfl)) (atI_nat (j := 2) rfl)
theorem x_ixT3 {a b c d : D} {r : List D} : ixq (.tup (a :: b :: c :: d :: r)) 3 S k ⟨⟩ = k d S := ix_of (.inr (.inl rfl)) (atI_nat (j := 3) rfl)
theorem x_ixT4 {a b c d e : D} {r : List D} : ixq (.tup (a :: b :: c :: d :: e :: r)) 4 S k ⟨⟩ = k e S := ix_of (.inr (.inl rfl)) (atI_nat (j := 4) rfl)
theorem seq_of {S : Sto} {x : D} {ds : List D} {Q : List D → Prop} (h : SeqD S x ds) : (∃ es, SeqD S x es ∧ Q es) = Q ds := by
  refine propext ⟨fun ⟨es, hs, q⟩ => ?_, fun q => ⟨ds, h, q⟩⟩
  have : es = ds := by
    unfold SeqD at h hs
    cases x with
    | list l => exact hs.symm.trans h
    | scr l => exact hs.symm.trans h
    | tup l => exact hs.symm.trans h
    | ref a =>
      have h' : S a = some (.lst ds) := h
      have hs' : S a = some (.lst es) := hs
      rw [h'] at hs'
      cases hs'
      rfl
    | _ => exact h.elim
  rw [← this]
  exact q
theorem x_lenL {ds : List D} : oLen [.list ds] S k = k (.int ds.length) S := seq_of (Q := fun es => k (.int es.length) S) rfl
theorem x_lenT {ds : List D} : oLen [.tup ds] S k = k (.int ds.length) S := seq_of (Q := fun es => k (.int es.length) S) rfl
theorem x_lenC {ds : List D} : oLen [.scr ds] S k = k (.int ds.length) S := seq_of (Q := fun es => k (.int es.length) S) rfl
theorem x_lenR {a : Addr} {ds : List D} (h : S a = some (.lst ds)) : oLen [.ref a] S k = k (.int ds.length) S := seq_of (Q := fun es => k (.int es.length) S) h
theorem x_listL {ds : List D} : oList [.list ds] S k = k (.list ds) S := seq_of (Q := fun es => k (.list es) S) rfl
theorem x_listT {ds : List D} : oList [.tup ds] S k = k (.list ds) S := seq_of (Q := fun es => k (.list es) S) rfl
theorem x_tupL {ds : List D} : oTuple [.list ds] S k = k (.tup ds) S := seq_of (Q := fun es => k (.tup es) S) rfl
theorem x_tupT {ds : List D} : oTuple [.tup ds] S k = k (.tup ds) S := seq_of (Q := fun es => k (.tup es) S) rfl
theorem x_tupR {a : Addr} {ds : List D} (h : S a = some (.lst ds)) : oTuple [.ref a] S k = k (.tup ds) S := seq_of (Q := fun es => k (.tup es) S) h
theorem x_strI {a : Int} : oStr [.int a] S k = need (a.natAbs.log2 < 1920) (k (.str (toString a)) S) ⟨⟩ := propext Iff.rfl
theorem x_strS {a : Str} : oStr [.str a] S k = k (.str a) S := propext Iff.rfl
theorem x_int1 {a : Int} : oInt1 [.int a] S k = k (.int a) S := propext Iff.rfl
theorem x_intB {b : Bool} : oInt1 [.bl b] S k = k (.int (if b then 1 else 0)) S := propext Iff.rfl
theorem x_I1 {f : Int → D} {a : Int} : oI1 f [.int a] S k = k (f a) S := propext Iff.rfl
theorem x_I2 {f : Int → Int → D} {a b : Int} : oI2 f [.int a, .int b] S k = k (f a b) S := propext Iff.rfl
theorem x_cat {a b : List D} : oCat (.list a) (.list b) S k = few (a.length + b.length) (k (.list (a ++ b)) S) ⟨⟩ := propext Iff.rfl
theorem x_catT {a b : List D} : oCatT (.tup a) (.tup b) S k = need (a ≠ []) (few (a.length + b.length) (k (.tup (a ++ b)) S) ⟨⟩) ⟨⟩ := propext Iff.rfl
theorem x_split {a b : Str} : dSplit (dC (.str a)) (dC (.str b)) δ S k = need ((b.length == 0) = false) (few (a.length + 2) (k (.list ((Txt.split a b).map D.str)) S) ⟨⟩) ⟨⟩ := propext Iff.rfl
theorem x_frz : dFrz i δ S k = rdv δ[i]? S (fun x _ => ∃ a ds, x = .ref a ∧ S a = some (.lst ds) ∧ k (.list ds) (del S a)) ⟨⟩ := by
  unfold dFrz rdv
  refine propext ⟨fun h => ?_, fun h => ?_⟩
  · split at h
    · rename_i b e
      obtain ⟨ds, h1, h2⟩ := h
      rw [e]
      exact ⟨b, ds, rfl, h1, h2⟩
    · exact h.elim
  · split at h
    · rename_i d e
      obtain ⟨b, ds, rfl, h1, h2⟩ := h
      rw [e]
      exact ⟨ds, h1, h2⟩
    · exact h.elim
end
theorem br {b : Bool} {A B : Prop} (h1 : b = true → A) (h2 : b = false → B) : branch b A B ⟨⟩ := by
  unfold branch
  cases b with
  | true => exact h1 rfl
  | false => exact h2 rfl
/-- values that are reckoned without a change of the store -/
def PvD (de : DE) (δ : Dst) (S : Sto) (d : D) : Prop := ∀ k : DK, k d S → de δ S k
def PvT (t : DT) (δ : Dst) (S : Sto) (b : Bool) : Prop := ∀ k : Bool → Sto → Prop, k b S → t δ S k
section
variable {δ : Dst} {S : Sto} {t u : DT} {a b : Bool} {de : DE}
theorem pt_ok (h : ∀ k : Bool → Sto → Prop, t δ S k = k b S) : PvT t δ S b := fun k q => by rw [h]; exact q
theorem pv_or (h1 : PvT t δ S a) (h2 : a = false → PvT u δ S b) : PvT (dOr t u) δ S (a || b) := fun k q => h1 _ (by
  cases a with
  | true => exact q
  | false => exact h2 rfl k q)
theorem pv_and (h1 : PvT t δ S a) (h2 : a = true → PvT u δ S b) : PvT (dAnd t u) δ S (a && b) := fun k q => h1 _ (by
  cases a with
  | true => exact h2 rfl k q
  | false => exact q)
theorem pv_not (h1 : PvT t δ S a) : PvT (dNot t) δ S (!a) := fun k q => h1 _ q
theorem pv_is {c : Bool} (h : PvT t δ S a) (e : a = c) : PvT t δ S c := e ▸ h
theorem x_ifP {E : DEnds} {d e : DS} (h : PvT t δ S b) (k : branch b (d E δ S) (e E δ S) ⟨⟩) : dIfS t d e E δ S := h _ k
theorem x_seqIfP {E : DEnds} {d e r : DS} (h : PvT t δ S b) (k : branch b (d { E with nx := r E } δ S) (e { E with nx := r E } δ S) ⟨⟩) : dSeq (dIfS t d e) r E δ S := h _ k
end
end DL
namespace DL
open PySem L2 Evl EX
section
variable {S : Sto} {k : DK} {tp : Addr} {x : D}
theorem drawOf {n : Int} (hT : S tp = some .tap) (h0 : 0 < n) (h1 : n < 1073741824) (h : ∀ r : Nat, (r : Int) < n → k (.int (r : Int)) S) : ask dDraw [.ref tp, .int n] S k ⟨⟩ :=
  ⟨tp, n, rfl, hT, h0, h1, fun r r0 r1 => by
    have e : r = ((r.toNat : Nat) : Int) := by omega
    rw [e]
    exact h r.toNat (by omega)⟩
/-- xs[j], j a place that is there -/
theorem ixAt {ds : List D} {j : Nat} {d : D} (hx : x = .list ds ∨ x = .tup ds ∨ x = .scr ds) (h : ds[j]? = some d) (q : k d S) : ixq x (j : Int) S k ⟨⟩ := by
  rw [x_ixq hx (atI_nat h)]
  exact q
theorem ixS {z : Str} {j c : Nat} (hz : z.length ≤ 100000) (h : z.cps.toList[j]? = some c) (q : k (.str ⟨#[c]⟩) S) : ixq (.str z) (j : Int) S k ⟨⟩ := ⟨c, hz, atI_nat h, q⟩
theorem fewOf {n : Nat} {A : Prop} (h : n ≤ 100000) (q : A) : few n A ⟨⟩ := ⟨h, q⟩
theorem needOf {C A : Prop} (h : C) (q : A) : need C A ⟨⟩ := ⟨h, q⟩
theorem freshOf {k : Addr → Prop} (h : ∀ p, S p = none → k p) : fresh S k ⟨⟩ := h
theorem askOf {f : SpD} {xs : List D} (h : f xs S k fun _ _ _ => False) : ask f xs S k ⟨⟩ := h
end
end DL

set_option Elab.async false
set_option linter.all false
set_option maxRecDepth 100000
namespace DL
open PySem L2 Evl EX
theorem nrfl {α : Sort _} {a b : α} (h : a = b) : a = b := h
theorem x_flS {s : Str} : flatD (.str s) = true := nrfl rfl
theorem x_flI {s : Int} : flatD (.int s) = true := nrfl rfl
theorem x_flN : flatD .non = true := nrfl rfl
theorem x_flB {s : Bool} : flatD (.bl s) = true := nrfl rfl
theorem x_cs_bool : ("bool" ∈ Cs) = True := eq_true (by decide)
theorem x_isB_NoneType_bool : isB "NoneType" "bool" = false := nrfl (by decide)
theorem x_isB_bool_bool : isB "bool" "bool" = true := nrfl (by decide)
theorem x_isB_int_bool : isB "int" "bool" = false := nrfl (by decide)
theorem x_isB_str_bool : isB "str" "bool" = false := nrfl (by decide)
theorem x_isB_list_bool : isB "list" "bool" = false := nrfl (by decide)
theorem x_isB_tuple_bool : isB "tuple" "bool" = false := nrfl (by decide)
theorem x_isB_dict_bool : isB "dict" "bool" = false := nrfl (by decide)
theorem x_cs_int : ("int" ∈ Cs) = True := eq_true (by decide)
theorem x_isB_NoneType_int : isB "NoneType" "int" = false := nrfl (by decide)
theorem x_isB_bool_int : isB "bool" "int" = true := nrfl (by decide)
theorem x_isB_int_int : isB "int" "int" = true := nrfl (by decide)
theorem x_isB_str_int : isB "str" "int" = false := nrfl (by decide)
theorem x_isB_list_int : isB "list" "int" = false := nrfl (by decide)
theorem x_isB_tuple_int : isB "tuple" "int" = false := nrfl (by decide)
theorem x_isB_dict_int : isB "dict" "int" = false := nrfl (by decide)
theorem x_cs_str : ("str" ∈ Cs) = True := eq_true (by decide)
theorem x_isB_NoneType_str : isB "NoneType" "str" = false := nrfl (by decide)
theorem x_isB_bool_str : isB "bool" "str" = false := nrfl (by decide)
theorem x_isB_int_str : isB "int" "str" = false := nrfl (by decide)
theorem x_isB_str_str : isB "str" "str" = true := nrfl (by decide)
theorem x_isB_list_str : isB "list" "str" = false := nrfl (by decide)
theorem x_isB_tuple_str : isB "tuple" "str" = false := nrfl (by decide)
theorem x_isB_dict_str : isB "dict" "str" = false := nrfl (by decide)
theorem x_cs_list : ("list" ∈ Cs) = True := eq_true (by decide)
theorem x_isB_NoneType_list : isB "NoneType" "list" = false := nrfl (by decide)
theorem x_isB_bool_list : isB "bool" "list" = false := nrfl (by decide)
theorem x_isB_int_list : isB "int" "list" = false := nrfl (by decide)
theorem x_isB_str_list : isB "str" "list" = false := nrfl (by decide)
theorem x_isB_list_list : isB "list" "list" = true := nrfl (by decide)
theorem x_isB_tuple_list : isB "tuple" "list" = false := nrfl (by decide)
theorem x_isB_dict_list : isB "dict" "list" = false := nrfl (by decide)
theorem x_cs_tuple : ("tuple" ∈ Cs) = True := eq_true (by decide)
theorem x_isB_NoneType_tuple : isB "NoneType" "tuple" = false := nrfl (by decide)
theorem x_isB_bool_tuple : isB "bool" "tuple" = false := nrfl (by decide)
theorem x_isB_int_tuple : isB "int" "tuple" = false := nrfl (by decide)
theorem x_isB_str_tuple : isB "str" "tuple" = false := nrfl (by decide)
theorem x_isB_list_tuple : isB "list" "tuple" = false := nrfl (by decide)
theorem x_isB_tuple_tuple : isB "tuple" "tuple" = true := nrfl (by decide)
theorem x_isB_dict_tuple : isB "dict" "tuple" = false := nrfl (by decide)
theorem x_cs_dict : ("dict" ∈ Cs) = True := eq_true (by decide)
theorem x_isB_NoneType_dict : isB "NoneType" "dict" = false := nrfl (by decide)
theorem x_isB_bool_dict : isB "bool" "dict" = false := nrfl (by decide)
theorem x_isB_int_dict : isB "int" "dict" = false := nrfl (by decide)
theorem x_isB_str_dict : isB "str" "dict" = false := nrfl (by decide)
theorem x_isB_list_dict : isB "list" "dict" = false := nrfl (by decide)
theorem x_isB_tuple_dict : isB "tuple" "dict" = false := nrfl (by decide)
theorem x_isB_dict_dict : isB "dict" "dict" = true := nrfl (by decide)
theorem isT {p : Prop} {i : Decidable p} (h : @decide p i = true) : p := @of_decide_eq_true p i h
theorem isF {p : Prop} {i : Decidable p} (h : @decide p i = false) : ¬ p := @of_decide_eq_false p i h
/-! what waits for an answer -/
def st2 (rd : DR2) (x y : D) (S : Sto) (k : DK) (_ : Tag k) : Prop := rd x y S k
def stC (rd : List D → Sto → DK → Prop) (xs : List D) (S : Sto) (k : DK) (_ : Tag k) : Prop := rd xs S k
def stM (rd : DM) (x : D) (xs : List D) (S : Sto) (k : DK) (_ : Tag k) : Prop := rd x xs S k
def stL (rd : D → Option Int → Option Int → Sto → DK → Prop) (x : D) (l u : Option Int) (S : Sto) (k : DK) (_ : Tag k) : Prop := rd x l u S k
def itL (x : D) (S : Sto) (k : List D → Sto → Prop) (_ : Tag k) : Prop := match x with
  | .list ds => k ds S
  | .scr ds => k ds S
  | _ => False
def itT (x : D) (S : Sto) (k : List D → Sto → Prop) (_ : Tag k) : Prop := match x with
  | .tup ds => k ds S
  | _ => False
def itS (x : D) (S : Sto) (k : List D → Sto → Prop) (_ : Tag k) : Prop := match x with
  | .str z => k (z.cps.toList.map fun c => .str ⟨#[c]⟩) S
  | _ => False
def forC (ds : List D) (g : DG) (b : DS) (E : DEnds) (δ : Dst) (S : Sto) (_ : Tag (E, g, b)) : Prop := ∃ I : Nat → Dst → Sto → Prop, I 0 δ S ∧
  (∀ n d δ' S', ds[n]? = some d → I n δ' S' → g d δ' S' fun δ2 S2 => b { E with nx := I (n + 1), ct := I (n + 1), bk := E.nx } δ2 S2) ∧ ∀ δ' S', I ds.length δ' S' → E.nx δ' S'
def lcC (ds : List D) (g : DGc) (t : DT) (de : DE) (vs : List Nat) (δ : Dst) (S : Sto) (k : DK) (_ : Tag (k, g, t, de)) : Prop := ds.length < 100000 ∧ ∀ p, S p = none → ∃ I : Nat → List D → Sto → Prop, I 0 [] S ∧
  (∀ n d acc S', ds[n]? = some d → S' p = none → I n acc S' → g d (wipeD δ vs) fun δ2 => t δ2 (put S' p (.lst acc)) fun b S2 => if b = true then de δ2 S2 (fun y S3 => ∃ S4, S4 p = none ∧ S3 = put S4 p (.lst acc) ∧ I (n + 1) (acc ++ [y]) S4) else ∃ S4, S4 p = none ∧ S2 = put S4 p (.lst acc) ∧ I (n + 1) acc S4) ∧
  ∀ acc S', S' p = none → I ds.length acc S' → k (.list acc) S'
def cutC (d e : DS) (E : DEnds) (δ : Dst) (S : Sto) (_ : Tag (E, d, e)) : Prop := dCut d e E δ S
theorem x_cut {d e : DS} {E : DEnds} {δ : Dst} {S : Sto} : dCut d e E δ S = cutC d e E δ S ⟨⟩ := propext Iff.rfl
/-- a word between a statement and the rest -/
theorem cutOf {d e : DS} {E : DEnds} {δ : Dst} {S : Sto} (M : Dst → Sto → Prop) (h : d { E with nx := M } δ S) (k : ∀ δ' S', M δ' S' → e E δ' S') : cutC d e E δ S ⟨⟩ := ⟨M, h, k⟩
def whlC (t : DT) (b : DS) (E : DEnds) (δ : Dst) (S : Sto) (_ : Tag (E, t, b)) : Prop := dWhile t b E δ S
section
variable {δ : Dst} {S : Sto} {k : DK} {kt : Bool → Sto → Prop} {ka : List D → Sto → Prop} {E : DEnds} {da db de : DE} {dA : DA} {t u : DT} {d e b : DS} {i j : Nat} {x y : D} {g : DG} {gc : DGc} {di : DI} {vs : List Nat} {ds : List D} {a : Addr}
theorem x_for : dFor di g b E δ S = di δ S fun ds S1 => forC ds g b E δ S1 ⟨⟩ := propext Iff.rfl
theorem x_lc : dLc di gc t de vs δ S k = di δ S fun ds S1 => lcC ds gc t de vs δ S1 k ⟨⟩ := propext Iff.rfl
theorem x_whl : dWhile t b E δ S = whlC t b E δ S ⟨⟩ := propext Iff.rfl
theorem x_diL : diL de δ S ka = de δ S fun x S1 => itL x S1 ka ⟨⟩ := propext (by unfold diL itL; exact Iff.rfl)
theorem x_diT : diT de δ S ka = de δ S fun x S1 => itT x S1 ka ⟨⟩ := propext (by unfold diT itT; exact Iff.rfl)
theorem x_diS : diStr de δ S ka = de δ S fun x S1 => itS x S1 ka ⟨⟩ := propext (by unfold diStr itS; exact Iff.rfl)
theorem x_itL : itL (.list ds) S ka ⟨⟩ = ka ds S := propext Iff.rfl
theorem x_itC : itL (.scr ds) S ka ⟨⟩ = ka ds S := propext Iff.rfl
theorem x_itT : itT (.tup ds) S ka ⟨⟩ = ka ds S := propext Iff.rfl
theorem x_itS {z : Str} : itS (.str z) S ka ⟨⟩ = ka (z.cps.toList.map fun c => .str ⟨#[c]⟩) S := propext Iff.rfl
def rng1 (xs : List D) (S : Sto) (k : List D → Sto → Prop) (_ : Tag k) : Prop := match xs with
  | [.int j] => -(2 ^ 62) ≤ j ∧ j < 2 ^ 62 ∧ k (rngD 0 j.toNat) S
  | _ => False
def rng2 (xs : List D) (S : Sto) (k : List D → Sto → Prop) (_ : Tag k) : Prop := match xs with
  | [.int i, .int j] => (-(2 ^ 62) ≤ i ∧ i < 2 ^ 62 ∧ -(2 ^ 62) ≤ j ∧ j < 2 ^ 62) ∧ k (rngD i (j - i).toNat) S
  | _ => False
def enm (xs : List D) (S : Sto) (k : List D → Sto → Prop) (_ : Tag k) : Prop := match xs with
  | [.list ds] => k (enumD ds) S
  | [.scr ds] => k (enumD ds) S
  | _ => False
theorem x_diR1 : diR1 dA δ S ka = dA δ S fun xs S1 => rng1 xs S1 ka ⟨⟩ := propext (by unfold diR1 rng1; exact Iff.rfl)
theorem x_diR2 : diR2 dA δ S ka = dA δ S fun xs S1 => rng2 xs S1 ka ⟨⟩ := propext (by unfold diR2 rng2; exact Iff.rfl)
theorem x_diE : diEnum dA δ S ka = dA δ S fun xs S1 => enm xs S1 ka ⟨⟩ := propext (by unfold diEnum enm; exact Iff.rfl)
theorem x_enmL : enm [.list ds] S ka ⟨⟩ = ka (enumD ds) S := propext Iff.rfl
theorem x_enmC : enm [.scr ds] S ka ⟨⟩ = ka (enumD ds) S := propext Iff.rfl
theorem rngOf {n : Int} (h0 : 0 ≤ n) (h1 : n ≤ 100000) (q : ka (rngD 0 n.toNat) S) : rng1 [.int n] S ka ⟨⟩ := ⟨by omega, by omega, q⟩
theorem rngOf2 {m n : Int} (h0 : -100000 ≤ m) (h1 : m ≤ 100000) (h2 : -100000 ≤ n) (h3 : n ≤ 100000) (q : ka (rngD m (n - m).toNat) S) : rng2 [.int m, .int n] S ka ⟨⟩ := ⟨⟨by omega, by omega, by omega, by omega⟩, q⟩
/-- a loop by its invariant -/
theorem forOf (I : Nat → Dst → Sto → Prop) (h0 : I 0 δ S) (hs : ∀ n d δ' S', ds[n]? = some d → I n δ' S' → g d δ' S' fun δ2 S2 => b { E with nx := I (n + 1), ct := I (n + 1), bk := E.nx } δ2 S2) (hd : ∀ δ' S', I ds.length δ' S' → E.nx δ' S') : forC ds g b E δ S ⟨⟩ := ⟨I, h0, hs, hd⟩
theorem whlOf (W : Nat → Dst → Sto → Prop) (m : Nat) (h0 : W m δ S) (hs : ∀ m δ' S', W m δ' S' → t δ' S' fun c S1 => branch c (b { E with nx := fun δ2 S2 => ∃ m', m' < m ∧ W m' δ2 S2, ct := fun δ2 S2 => ∃ m', m' < m ∧ W m' δ2 S2, bk := E.nx } δ' S1) (E.nx δ' S1) ⟨⟩) : whlC t b E δ S ⟨⟩ := ⟨W, ⟨m, h0⟩, hs⟩
theorem lcOf (P : Nat → List D → Prop) (hl : ds.length < 100000) (h0 : P 0 [])
    (hs : ∀ p, S p = none → ∀ n d acc, ds[n]? = some d → P n acc → gc d (wipeD δ vs) fun δ2 => t δ2 (put S p (.lst acc)) fun b S2 => branch b (de δ2 S2 (fun y S3 => LcO S p acc (P (n + 1) (acc ++ [y])) S3)) (LcO S p acc (P (n + 1) acc) S2) ⟨⟩) (hd : ∀ acc, P ds.length acc → k (.list acc) S) :
    lcC ds gc t de vs δ S k ⟨⟩ := lc_go P hl h0 hs hd
theorem x_gcN {kg : Dst → Prop} : gcN i x δ kg = kg (δ.set i (some x)) := propext Iff.rfl
theorem x_gcT {js : List Nat} {kg : Dst → Prop} : gcT js (.tup ds) δ kg = need (ds.length = js.length) (kg (setD δ js ds)) ⟨⟩ := propext Iff.rfl
theorem x_yes : dYes δ S kt = kt true S := propext Iff.rfl
/-! methods -/
theorem x_ml {rd : DM} : dML rd da dA δ S k = da δ S fun x S1 => need (IsL S1 x) (dA δ S1 fun xs S2 => stM rd x xs S2 k ⟨⟩) ⟨⟩ := propext Iff.rfl
def strq (x : D) (k : Str → Prop) (_ : Tag k) : Prop := match x with
  | .str z => k z
  | _ => False
theorem x_ms {rd : DM} : dMS rd da dA δ S k = da δ S fun x S1 => strq x (fun z => dA δ S1 fun xs S2 => stM rd (.str z) xs S2 k ⟨⟩) ⟨⟩ := propext (by unfold dMS strq stM; exact Iff.rfl)
theorem x_strq {z : Str} {kz : Str → Prop} : strq (.str z) kz ⟨⟩ = kz z := propext Iff.rfl
theorem appOf (h : S a = some (.lst ds)) (hl : ds.length < 100000) (q : k .non (put S a (.lst (ds ++ [y])))) : stM oApp (.ref a) [y] S k ⟨⟩ := ⟨ds, h, hl, q⟩
theorem extOf {es : List D} (h : S a = some (.lst ds)) (hl : ds.length + es.length ≤ 100000) (q : k .non (put S a (.lst (ds ++ es)))) : stM oExt (.ref a) [.list es] S k ⟨⟩ := ⟨ds, h, hl, q⟩
theorem popOf (h : S a = some (.lst (ds ++ [y]))) (q : k y (put S a (.lst ds))) : stM oPop (.ref a) [] S k ⟨⟩ := ⟨ds, y, h, q⟩
theorem isLOf (h : S a = some (.lst ds)) : IsL S (.ref a) := ⟨ds, h⟩
theorem x_ss {f : Str → Str → D} {a b : Str} : stM (oSS f) (.str a) [.str b] S k ⟨⟩ = k (f a b) S := propext Iff.rfl
theorem x_ssc {C : Str → Str → Prop} {f : Str → Str → D} {a b : Str} : stM (oSSc C f) (.str a) [.str b] S k ⟨⟩ = need (C a b) (k (f a b) S) ⟨⟩ := propext Iff.rfl
theorem x_ssi {f : Str → Str → Int → D} {a b : Str} {i : Int} : stM (oSSI f) (.str a) [.str b, .int i] S k ⟨⟩ = k (f a b i) S := propext Iff.rfl
def joinq (a : Str) (y : D) (S : Sto) (k : DK) (_ : Tag k) : Prop := ∃ ys : List Str, SeqD S y (ys.map D.str) ∧ (ys.map (·.length)).sum + ys.length * a.length ≤ 16777216 ∧ k (.str (Txt.join a ys)) S
theorem x_join : dJoin da db δ S k = da δ S fun x S1 => strq x (fun z => db δ S1 fun y S2 => joinq z y S2 k ⟨⟩) ⟨⟩ := propext (by unfold dJoin strq joinq; exact Iff.rfl)
theorem x_st2I {f : Int → Int → D} {a b : Int} : st2 (oI f) (.int a) (.int b) S k ⟨⟩ = k (f a b) S := propext Iff.rfl
/-! slices -/
def DoP (o : Option Int) : DO := fun _ S k => k o S
theorem x_sl {rd : D → Option Int → Option Int → Sto → DK → Prop} {dl dh : DO} : dSl rd da dl dh δ S k = da δ S fun x S1 => dl δ S1 fun l S2 => dh δ S2 fun u S3 => stL rd x l u S3 k ⟨⟩ := propext Iff.rfl
theorem x_noP {ko : Option Int → Sto → Prop} : dNoP δ S ko = ko none S := propext Iff.rfl
def intq (x : D) (k : Int → Prop) (_ : Tag k) : Prop := match x with
  | .int z => k z
  | _ => False
theorem x_part {ko : Option Int → Sto → Prop} : dPart da δ S ko = da δ S fun x S1 => intq x (fun i => ko (some i) S1) ⟨⟩ := propext (by unfold dPart intq; exact Iff.rfl)
theorem x_intq {i : Int} {ki : Int → Prop} : intq (.int i) ki ⟨⟩ = ki i := propext Iff.rfl
theorem x_aug {f : Int → Int → Int} : dAug i f de E δ S = rdv δ[i]? S (fun x _ => intq x (fun a => de δ S fun y S1 => intq y (fun b => E.nx (δ.set i (some (.int (f a b)))) S1) ⟨⟩) ⟨⟩) ⟨⟩ := propext (by
  unfold dAug rdv intq
  cases h : δ[i]? with
  | none => exact Iff.rfl
  | some o =>
    cases o with
    | none => exact Iff.rfl
    | some d => cases d <;> exact Iff.rfl)
theorem x_slL {l u : Option Int} : stL oSlL (.list ds) l u S k ⟨⟩ = k (.list (cutD ds l u)) S := propext Iff.rfl
theorem x_slC {l u : Option Int} : stL oSlL (.scr ds) l u S k ⟨⟩ = k (.list (cutD ds l u)) S := propext Iff.rfl
theorem x_slS {l u : Option Int} {z : Str} : stL oSlS (.str z) l u S k ⟨⟩ = few z.length (k (.str (cutS z l u)) S) ⟨⟩ := propext Iff.rfl
theorem slTOf {l u : Option Int} (h : ¬ (HT.sIx ds.length 0 l = 0 ∧ HT.sIx ds.length ds.length u = ds.length)) (q : k (.tup (cutD ds l u)) S) : stL oSlT (.tup ds) l u S k ⟨⟩ := ⟨h, q⟩
/-! in, == -/
theorem x_in {neg : Bool} : oIn neg x y S k = st2 (oIn neg) x y S k ⟨⟩ := propext Iff.rfl
theorem x_inT (h1 : flatD x = true) (h2 : ds.all flatD = true) : st2 (oIn false) x (.tup ds) S k ⟨⟩ = k (.bl (inD x ds)) S :=
  (seq_of (Q := fun es => flatD x = true ∧ es.all flatD = true ∧ k (.bl (inD x es)) S) (show SeqD S (.tup ds) ds from rfl)).trans (propext ⟨fun z => z.2.2, fun z => ⟨h1, h2, z⟩⟩)
theorem x_inL (h1 : flatD x = true) (h2 : ds.all flatD = true) : st2 (oIn false) x (.list ds) S k ⟨⟩ = k (.bl (inD x ds)) S :=
  (seq_of (Q := fun es => flatD x = true ∧ es.all flatD = true ∧ k (.bl (inD x es)) S) (show SeqD S (.list ds) ds from rfl)).trans (propext ⟨fun z => z.2.2, fun z => ⟨h1, h2, z⟩⟩)
theorem x_ninT (h1 : flatD x = true) (h2 : ds.all flatD = true) : st2 (oIn true) x (.tup ds) S k ⟨⟩ = k (.bl (!inD x ds)) S :=
  (seq_of (Q := fun es => flatD x = true ∧ es.all flatD = true ∧ k (.bl (!inD x es)) S) (show SeqD S (.tup ds) ds from rfl)).trans (propext ⟨fun z => z.2.2, fun z => ⟨h1, h2, z⟩⟩)
theorem x_ninL (h1 : flatD x = true) (h2 : ds.all flatD = true) : st2 (oIn true) x (.list ds) S k ⟨⟩ = k (.bl (!inD x ds)) S :=
  (seq_of (Q := fun es => flatD x = true ∧ es.all flatD = true ∧ k (.bl (!inD x es)) S) (show SeqD S (.list ds) ds from rfl)).trans (propext ⟨fun z => z.2.2, fun z => ⟨h1, h2, z⟩⟩)
theorem x_inR (h : S a = some (.lst ds)) (h1 : flatD x = true) (h2 : ds.all flatD = true) : st2 (oIn false) x (.ref a) S k ⟨⟩ = k (.bl (inD x ds)) S :=
  (seq_of (Q := fun es => flatD x = true ∧ es.all flatD = true ∧ k (.bl (inD x es)) S) (show SeqD S (.ref a) ds from h)).trans (propext ⟨fun z => z.2.2, fun z => ⟨h1, h2, z⟩⟩)
theorem x_ninR (h : S a = some (.lst ds)) (h1 : flatD x = true) (h2 : ds.all flatD = true) : st2 (oIn true) x (.ref a) S k ⟨⟩ = k (.bl (!inD x ds)) S :=
  (seq_of (Q := fun es => flatD x = true ∧ es.all flatD = true ∧ k (.bl (!inD x es)) S) (show SeqD S (.ref a) ds from h)).trans (propext ⟨fun z => z.2.2, fun z => ⟨h1, h2, z⟩⟩)
theorem x_inN : inD x [] = false := by simp [inD, inV]
theorem x_inSS {s z : Str} : inD (.str s) (.str z :: ds) = (decide (s = z) || inD (.str s) ds) := by
  unfold inD
  rw [List.map_cons]
  show (([V.str z] ++ _).any _) = _
  rw [List.any_append]
  congr 1
  show ((z == s) || false) = _
  rw [Bool.or_false, Bool.eq_iff_iff]
  simp only [beq_iff_eq, decide_eq_true_eq]
  exact eq_comm
theorem x_inSI {s : Str} {z : Int} : inD (.str s) (.int z :: ds) = inD (.str s) ds := by unfold inD; rfl
theorem x_inIS {s : Int} {z : Str} : inD (.int s) (.str z :: ds) = inD (.int s) ds := by unfold inD; rfl
theorem x_inII {s z : Int} : inD (.int s) (.int z :: ds) = (decide (s = z) || inD (.int s) ds) := by
  unfold inD
  rw [List.map_cons]
  show (([V.int z] ++ _).any _) = _
  rw [List.any_append]
  congr 1
  show ((z == s) || false) = _
  rw [Bool.or_false, Bool.eq_iff_iff]
  simp only [beq_iff_eq, decide_eq_true_eq]
  exact eq_comm
theorem inD_strs {s : Str} {l : List Str} : inD (.str s) (l.map D.str) = decide (s ∈ l) := by
  unfold inD
  rw [List.map_map, show (l.map (toV ∘ D.str)) = l.map V.str from rfl]
  exact inV_str s l
theorem flat_strs (l : List Str) : (l.map D.str).all flatD = true := by
  induction l with
  | nil => rfl
  | cons a l ih => rw [List.map_cons, List.all_cons, ih]; rfl
theorem x_sg {neg : Bool} : oSg neg x y S k = st2 (oSg neg) x y S k ⟨⟩ := propext Iff.rfl
theorem x_sgS {c : Nat} {z : Str} : st2 (oSg false) (.str ⟨#[c]⟩) (.str z) S k ⟨⟩ = k (.bl (decide (c ∈ z.cps.toList))) S := propext ⟨fun ⟨d, e, q⟩ => by
  have : c = d := by injection e with e; injection e with e; simpa using congrArg (fun a : Array Nat => a.toList) e
  subst this
  exact q, fun q => ⟨c, rfl, q⟩⟩
theorem x_nsgS {c : Nat} {z : Str} : st2 (oSg true) (.str ⟨#[c]⟩) (.str z) S k ⟨⟩ = k (.bl (!decide (c ∈ z.cps.toList))) S := propext ⟨fun ⟨d, e, q⟩ => by
  have : c = d := by injection e with e; injection e with e; simpa using congrArg (fun a : Array Nat => a.toList) e
  subst this
  exact q, fun q => ⟨c, rfl, q⟩⟩
theorem x_eqD {neg : Bool} : oEqD neg x y S k = st2 (oEqD neg) x y S k ⟨⟩ := propext Iff.rfl
theorem x_inDD {neg : Bool} : oInD neg x y S k = st2 (oInD neg) x y S k ⟨⟩ := propext Iff.rfl
open Classical in
theorem eqDOf {p q : D} (hx : res S x = p) (hy : res S y = q) (h1 : p.nb = true) (h2 : q.nb = true) (h3 : min p.deep q.deep ≤ 64) (h : k (.bl (decide (p = q))) S) : st2 (oEqD false) x y S k ⟨⟩ := by
  subst hx hy
  exact ⟨false, h1, h2, h3, h⟩
open Classical in
theorem neDOf {p q : D} (hx : res S x = p) (hy : res S y = q) (h1 : p.nb = true) (h2 : q.nb = true) (h3 : min p.deep q.deep ≤ 64) (h : k (.bl (!decide (p = q))) S) : st2 (oEqD true) x y S k ⟨⟩ := by
  subst hx hy
  exact ⟨false, h1, h2, h3, h⟩
open Classical in
theorem eqBOf {p q : D} (hx : res S x = p) (hy : res S y = q) (h1 : p.nbG true = true) (h2 : q.nbG true = true) (h3 : min p.deep q.deep ≤ 64) (h : k (.bl (decide (p = q))) S) : st2 (oEqD false) x y S k ⟨⟩ := by
  subst hx hy
  exact ⟨true, h1, h2, h3, h⟩
theorem x_mulS {a : Str} {n : Int} : oMulS (.str a) (.int n) S k = need (a.length ≤ 16 ∧ -(2 ^ 63 : Int) ≤ n ∧ n ≤ 1048576) (k (.str (Txt.mul a n)) S) ⟨⟩ := propext ⟨fun ⟨a, b, c, d⟩ => ⟨⟨a, b, c⟩, d⟩, fun ⟨⟨a, b, c⟩, d⟩ => ⟨a, b, c, d⟩⟩
theorem mulS1 {c n : Nat} : Txt.mul ⟨#[c]⟩ (n : Int) = ⟨(List.replicate n c).toArray⟩ := by
  have h := PyProof.Rows.mul_one_list c ((n : Nat) : Int)
  rw [Int.toNat_natCast] at h
  have : (Txt.mul ⟨#[c]⟩ ((n : Nat) : Int)).cps = (List.replicate n c).toArray := by rw [← h]
  exact congrArg Str.mk this
/-! isinstance, any, all, sorted, .. -/
theorem x_isi {xs : List D} : oIsi xs S k = stC oIsi xs S k ⟨⟩ := propext Iff.rfl
theorem isi_of {c t : String} (h : tyD S x = some t) (hc : c ∈ Cs) : stC oIsi [x, .ty c] S k ⟨⟩ = k (.bl (isB t c)) S := propext ⟨fun ⟨u, hu, _, q⟩ => by rw [h] at hu; cases hu; exact q, fun q => ⟨t, h, hc, q⟩⟩
theorem x_isiS {s : Str} {c : String} (hc : c ∈ Cs) : stC oIsi [.str s, .ty c] S k ⟨⟩ = k (.bl (isB "str" c)) S := isi_of rfl hc
theorem x_isiI {s : Int} {c : String} (hc : c ∈ Cs) : stC oIsi [.int s, .ty c] S k ⟨⟩ = k (.bl (isB "int" c)) S := isi_of rfl hc
theorem x_isiB {s : Bool} {c : String} (hc : c ∈ Cs) : stC oIsi [.bl s, .ty c] S k ⟨⟩ = k (.bl (isB "bool" c)) S := isi_of rfl hc
theorem x_isiN {c : String} (hc : c ∈ Cs) : stC oIsi [.non, .ty c] S k ⟨⟩ = k (.bl (isB "NoneType" c)) S := isi_of rfl hc
theorem x_isiL {c : String} (hc : c ∈ Cs) : stC oIsi [.list ds, .ty c] S k ⟨⟩ = k (.bl (isB "list" c)) S := isi_of rfl hc
theorem x_isiT {c : String} (hc : c ∈ Cs) : stC oIsi [.tup ds, .ty c] S k ⟨⟩ = k (.bl (isB "tuple" c)) S := isi_of rfl hc
theorem x_isiR {c : String} (h : S a = some (.lst ds)) (hc : c ∈ Cs) : stC oIsi [.ref a, .ty c] S k ⟨⟩ = k (.bl (isB "list" c)) S := isi_of (by simp only [tyD, h]) hc
def isTq (c1 c2 : String) (x : D) (S : Sto) (k : DK) (_ : Tag k) : Prop := ∃ t, tyD S x = some t ∧ c1 ∈ Cs ∧ c2 ∈ Cs ∧ k (.bl (isB t c1 || isB t c2)) S
theorem x_isTT {c1 c2 : String} : dIsiT c1 c2 de δ S k = de δ S fun x S1 => isTq c1 c2 x S1 k ⟨⟩ := propext Iff.rfl
theorem isT_of {c1 c2 t : String} (h : tyD S x = some t) (h1 : c1 ∈ Cs) (h2 : c2 ∈ Cs) : isTq c1 c2 x S k ⟨⟩ = k (.bl (isB t c1 || isB t c2)) S := propext ⟨fun ⟨u, hu, _, _, q⟩ => by rw [h] at hu; cases hu; exact q, fun q => ⟨t, h, h1, h2, q⟩⟩
theorem x_itI {c1 c2 : String} {s : Int} (h1 : c1 ∈ Cs) (h2 : c2 ∈ Cs) : isTq c1 c2 (.int s) S k ⟨⟩ = k (.bl (isB "int" c1 || isB "int" c2)) S := isT_of rfl h1 h2
theorem x_itStr {c1 c2 : String} {s : Str} (h1 : c1 ∈ Cs) (h2 : c2 ∈ Cs) : isTq c1 c2 (.str s) S k ⟨⟩ = k (.bl (isB "str" c1 || isB "str" c2)) S := isT_of rfl h1 h2
theorem x_itN {c1 c2 : String} (h1 : c1 ∈ Cs) (h2 : c2 ∈ Cs) : isTq c1 c2 .non S k ⟨⟩ = k (.bl (isB "NoneType" c1 || isB "NoneType" c2)) S := isT_of rfl h1 h2
theorem x_itB {c1 c2 : String} {s : Bool} (h1 : c1 ∈ Cs) (h2 : c2 ∈ Cs) : isTq c1 c2 (.bl s) S k ⟨⟩ = k (.bl (isB "bool" c1 || isB "bool" c2)) S := isT_of rfl h1 h2
theorem x_itLst {c1 c2 : String} (h1 : c1 ∈ Cs) (h2 : c2 ∈ Cs) : isTq c1 c2 (.list ds) S k ⟨⟩ = k (.bl (isB "list" c1 || isB "list" c2)) S := isT_of rfl h1 h2
theorem x_itTup {c1 c2 : String} (h1 : c1 ∈ Cs) (h2 : c2 ∈ Cs) : isTq c1 c2 (.tup ds) S k ⟨⟩ = k (.bl (isB "tuple" c1 || isB "tuple" c2)) S := isT_of rfl h1 h2
theorem ixSeq {j : Nat} {d : D} (h : SeqD S x ds) (hd : ds[j]? = some d) (q : k d S) : ixq x (j : Int) S k ⟨⟩ := by
  cases x with
  | list l => exact ixAt (.inl rfl) (by rw [show l = ds from h]; exact hd) q
  | tup l => exact ixAt (.inr (.inl rfl)) (by rw [show l = ds from h]; exact hd) q
  | scr l => exact ixAt (.inr (.inr rfl)) (by rw [show l = ds from h]; exact hd) q
  | ref a => exact ⟨ds, d, h, atI_nat hd, q⟩
  | _ => exact (show False from h).elim
theorem x_any {xs : List D} : oAny xs S k = stC oAny xs S k ⟨⟩ := propext Iff.rfl
theorem x_all {xs : List D} : oAll xs S k = stC oAll xs S k ⟨⟩ := propext Iff.rfl
theorem x_sum {xs : List D} : oSum xs S k = stC oSum xs S k ⟨⟩ := propext Iff.rfl
theorem x_srtI {xs : List D} : oSortI xs S k = stC oSortI xs S k ⟨⟩ := propext Iff.rfl
theorem x_srtS {xs : List D} : oSortS xs S k = stC oSortS xs S k ⟨⟩ := propext Iff.rfl
theorem x_intS {z : Str} : oIntS [.str z] S k = stC oIntS [.str z] S k ⟨⟩ := propext Iff.rfl
theorem x_lenRf : oLen [.ref a] S k = stC oLen [.ref a] S k ⟨⟩ := propext Iff.rfl
theorem lenRf (h : S a = some (.lst ds)) (q : k (.int ds.length) S) : stC oLen [.ref a] S k ⟨⟩ := by
  show oLen [.ref a] S k
  rw [x_lenR h]
  exact q
theorem x_tupRf : oTuple [.ref a] S k = stC oTuple [.ref a] S k ⟨⟩ := propext Iff.rfl
theorem tupRf (h : S a = some (.lst ds)) (q : k (.tup ds) S) : stC oTuple [.ref a] S k ⟨⟩ := by
  show oTuple [.ref a] S k
  rw [x_tupR h]
  exact q
def frzq (x : D) (S : Sto) (k : DK) (_ : Tag k) : Prop := ∃ a ds, x = .ref a ∧ S a = some (.lst ds) ∧ k (.list ds) (del S a)
theorem frzOf (h : S a = some (.lst ds)) (q : k (.list ds) (del S a)) : frzq (.ref a) S k ⟨⟩ := ⟨a, ds, rfl, h, q⟩
theorem x_frz' : dFrz i δ S k = rdv δ[i]? S (fun x _ => frzq x S k ⟨⟩) ⟨⟩ := x_frz
end
end DL

set_option Elab.async false
set_option linter.all false
set_option maxRecDepth 100000
/-! ### classes of the program's own -/
namespace DL
open PySem L2 Evl EX
/-- a class: what the text has of it, its fields -/
structure ClsD (K : PySem.W.Frag) (C : Addr) (flds : List Str) : Prop where
  cl : Cls K C
  nF : ∀ f ∈ flds, NoAttr K C f
structure MDef (P : Program) (w : World) (K : PySem.W.Frag) (mg : Str → Option Value) (base : Heap) (k : Nat) (C : Addr) (m : Str) (ps : List Str) (sp : Sp) : Prop where
  ex : ∃ (f : Addr) (fd : FuncData), FnOk P w K mg base CX0 k f fd ps sp ∧ Meth K C m f ∧ Binds K fd ps []
structure MkDef (P : Program) (w : World) (K : PySem.W.Frag) (mg : Str → Option Value) (base : Heap) (k : Nat) (x : Str) (C : Addr) (ps : List Str) (sp : Sp) : Prop where
  ex : ∃ (f : Addr) (fd : FuncData), Mk K C f ∧ FnOk P w K mg base CX0 k f fd ps sp ∧ mg x = some (.ref C) ∧ Binds K fd ps []
def putFD (f : Str) (v : D) : List (Str × D) → List (Str × D)
  | [] => [(f, v)]
  | (g, w) :: r => if g = f then (g, v) :: r else (g, w) :: putFD f v r
section
variable {K : PySem.W.Frag} {B : Hp}
theorem rdkv_lookup {f : Str} : ∀ {fs : List (Str × V)} {gs : List (Str × D)}, RdKV K B fs gs → ∀ {d : D}, gs.lookup f = some d → ∃ v, fs.lookup f = some v ∧ RdD K B v d
  | _, _, .nil, _, h => by cases h
  | (a, v) :: fs, (b, e) :: gs, .cons h r, d, hd => by
    obtain ⟨h1, h2⟩ := h
    have h1 : a = b := h1
    subst h1
    rw [List.lookup_cons] at hd ⊢
    cases q : f == a with
    | true => rw [q] at hd; cases hd; exact ⟨v, rfl, h2⟩
    | false => rw [q] at hd; exact rdkv_lookup r hd
theorem rdkv_none {f : Str} : ∀ {fs : List (Str × V)} {gs : List (Str × D)}, RdKV K B fs gs → gs.lookup f = none → fs.lookup f = none
  | _, _, .nil, _ => rfl
  | (a, v) :: fs, (b, e) :: gs, .cons h r, hd => by
    have h1 : a = b := h.1
    subst h1
    rw [List.lookup_cons] at hd ⊢
    cases q : f == a with
    | true => rw [q] at hd; cases hd
    | false => rw [q] at hd; exact rdkv_none r hd
theorem rdkv_put {f : Str} {v : V} {d : D} (hv : RdD K B v d) : ∀ {fs : List (Str × V)} {gs : List (Str × D)}, RdKV K B fs gs → RdKV K B (putF f v fs) (putFD f d gs)
  | _, _, .nil => .cons ⟨rfl, hv⟩ .nil
  | (a, w) :: fs, (b, e) :: gs, .cons h r => by
    have h1 : a = b := h.1
    subst h1
    unfold putF putFD
    by_cases q : a = f
    · rw [if_pos q, if_pos q]
      exact .cons ⟨rfl, hv⟩ r
    · rw [if_neg q, if_neg q]
      exact .cons h (rdkv_put hv r)
end
def fldq (C : Addr) (x : D) (f : Str) (S : Sto) (k : DK) (_ : Tag k) : Prop := ∃ a dx fs v, x = .ref a ∧ S a = some (.ins C dx fs) ∧ fs.lookup f = some v ∧ k v S
def dFld (C : Addr) (de : DE) (f : Str) : DE := fun δ S k => de δ S fun x S1 => fldq C x f S1 k ⟨⟩
def fldsq (C : Addr) (x : D) (f : Str) (y : D) (S : Sto) (k : Sto → Prop) (_ : Tag k) : Prop := ∃ a dx fs, x = .ref a ∧ S a = some (.ins C dx fs) ∧ fs.length < 1000 ∧ k (put S a (.ins C dx (putFD f y fs)))
def dFldS (C : Addr) (dv dO : DE) (f : Str) : DS := fun E δ S => dv δ S fun y S1 => dO δ S1 fun x S2 => fldsq C x f y S2 (fun S3 => E.nx δ S3) ⟨⟩
/-- o.f op= e, of ints -/
def dFldA (C : Addr) (g : Int → Int → Int) (dv dO : DE) (f : Str) : DS := fun E δ S => dO δ S fun x S1 => fldq C x f S1 (fun v S2 => dv δ S2 fun y S3 => st2 (oI fun i j => .int (g i j)) v y S3 (fun z S4 => fldsq C x f z S4 (fun S5 => E.nx δ S5) ⟨⟩) ⟨⟩) ⟨⟩
def dMeth (C : Addr) (m : Str) (f : SpD) (dO : DE) (da : DA) : DE := fun δ S k => dO δ S fun x S1 => need (∃ a dx fs, x = .ref a ∧ S1 a = some (.ins C dx fs) ∧ fs.lookup m = none) (da δ S1 fun xs S2 => ask f (x :: xs) S2 k ⟨⟩) ⟨⟩
def dMake (C : Addr) (f : SpD) (da : DA) : DE := fun δ S k => da δ S fun xs S1 => fresh S1 (fun a => ∀ dx, ask f (.ref a :: xs) (put S1 a (.ins C dx [])) (fun v S2 => v = .non ∧ k (.ref a) S2) ⟨⟩) ⟨⟩
section
variable {X : Cx} {K : PySem.W.Frag} {C : Addr} {o e value : Expr} {es : List Expr} {f m x : Str} {dO dv de : DE} {da : DA} {pos pos' apos tpos p : Pos} {flds : List Str} {k : Nat} {ps : List Str} {sp : SpD}
theorem de_fld (hc : ClsD K C flds) (hf : f ∈ flds) (h : PE X e (lE K de)) (hb : attributeBase e f X.env (eval e X.env) = eval e X.env := by rfl) (hk : X.K = K := by rfl) : PE X (.Attribute e f pos) (lE K (dFld C de f)) := by
  subst hk
  refine peOf (pe_fld h hb) fun σ H Q ⟨B, δ, S, k, s, r, h, q⟩ => ⟨B, δ, S, _, s, r, h, fun x S1 v B1 H1 h1 e1 r1 d1 => ?_⟩
  obtain ⟨a, dx, fs, v', rfl, ha, hl, h1⟩ := h1
  obtain ⟨gs, hg, rg⟩ := r1.ins ha
  obtain ⟨w, hw, rw'⟩ := rdkv_lookup rg hl
  cases rd_ref d1
  exact ⟨a, C, dx, gs, w, rfl, hg, hc.cl, hc.nF f hf, hw, q _ S1 _ B1 H1 h1 e1 r1 rw'⟩
theorem ds_fld (hc : ClsD K C flds) (hf : f ∈ flds) (ha : PE X o (lE K dO)) (hv : PE X value (lE K dv)) (hs : swapsWith value (some (.Attribute o f pos')) pos.line X.env = pure false := by rfl) (hk : X.K = K := by rfl) : PS X (.Assign [.Attribute o f pos'] value pos) (lS K (dFldS C dv dO f)) := by
  subst hk
  refine psOf (ps_fld ha hv hs) fun E σ H ⟨B, δ, S, D, s, r, h, l⟩ => ⟨B, δ, S, _, s, r, h, fun y S1 w B1 H1 h1 e1 r1 d1 => ⟨B1, δ, S1, _, s.mono e1, r1, h1, fun x S2 v B2 H2 h2 e2 r2 d2 => ?_⟩⟩
  obtain ⟨a, dx, fs, rfl, ha, hl, h2⟩ := h2
  obtain ⟨gs, hg, rg⟩ := r2.ins ha
  cases rd_ref d2
  exact ⟨a, C, dx, gs, rfl, hg, hc.cl, hc.nF f hf, by rw [rdkv_len rg]; exact hl, l.nx δ _ σ B2 _ h2 (e1.trans e2) (s.mono (e1.trans e2)) (r2.mut ha (.ins (rdkv_put (d1.mono e2) rg)))⟩
theorem ds_fldaug {op : Operator} {g : Int → Int → Int} (hc : ClsD K C flds) (hf : f ∈ flds) (ha : PE X o (lE K dO)) (hv : PE X value (lE K dv)) (ho : InOp X op (fun x y H Q => ∃ i j, x = .int i ∧ y = .int j ∧ Q (.int (g i j)) H)) (hk : X.K = K := by rfl) : PS X (.AugAssign (.Attribute o f tpos) op value pos) (lS K (dFldA C g dv dO f)) := by
  subst hk
  refine psOf (ps_fldaug ha hv ho) fun E σ H ⟨B, δ, S, D, s, r, h, l⟩ => ⟨B, δ, S, _, s, r, h, fun x S1 v B1 H1 h1 e1 r1 d1 => ?_⟩
  obtain ⟨a, dx, fs, v', rfl, ha, hl, h1⟩ := h1
  obtain ⟨gs, hg, rg⟩ := r1.ins ha
  obtain ⟨w, hw, rw'⟩ := rdkv_lookup rg hl
  cases rd_ref d1
  refine ⟨a, C, dx, gs, w, rfl, hg, hc.cl, hc.nF f hf, hw, B1, δ, S1, _, s.mono e1, r1, h1, fun y S3 v3 B3 H3 h3 e3 r3 d3 => ?_⟩
  have h4 : oI (fun i j => .int (g i j)) v' y S3 _ := h3
  clear h3
  unfold oI at h4
  split at h4
  · rename_i i j
    cases rd_int rw'
    cases rd_int d3
    obtain ⟨a2, dx2, fs2, e2, ha2, hl2, h4⟩ := h4
    cases e2
    obtain ⟨gs2, hg2, rg2⟩ := r3.ins ha2
    exact ⟨i, j, rfl, rfl, dx2, gs2, hg2, by rw [rdkv_len rg2]; exact hl2, l.nx δ _ σ B3 _ h4 (e1.trans e3) (s.mono (e1.trans e3)) (r3.mut ha2 (.ins (rdkv_put (.int _) rg2)))⟩
  · exact h4.elim
theorem de_meth {pl : Sem Bool} (hc : ClsD K C flds) (h : MDef X.prog X.w X.K X.mg X.base k C m ps (lSp K sp)) (hr : Room k X.A) (he : PE X o (lE K dO)) (ha : PA X (e :: es) (lA K da))
    (hst : starEach (e :: es) X.env = (false, eval e X.env) :: starEach es X.env := by rfl) (hpl : (backTo pos (starEach es X.env)).any (·.1) = false := by rfl)
    (ht : eval (.Call (.Attribute o m apos) (e :: es) [] pos) X.env = (do
      let ov ← eval o X.env
      standAt apos.atName
      let (f, first) ← holding [ov] (getMethod ov m pl)
      callWith pos f first (backTo pos (starEach (e :: es) X.env)) (backToKw pos (keywordEach [] X.env))) := by rfl) (hk : X.K = K := by rfl) :
    PE X (.Call (.Attribute o m apos) (e :: es) [] pos) (lE K (dMeth C m sp dO da)) := by
  subst hk
  obtain ⟨f, fd, F, hm, hb⟩ := h.ex
  refine peOf (pe_meth he hc.cl hm F hr hb .nil pass0 ha hst hpl ht) fun σ H Q ⟨B, δ, S, k, s, r, h, q⟩ => ⟨B, δ, S, _, s, r, h, fun x S1 v B1 H1 ⟨⟨a, dx, fs, hx, ha, hl⟩, h1⟩ e1 r1 d1 => ?_⟩
  subst hx
  obtain ⟨gs, hg, rg⟩ := r1.ins ha
  cases rd_ref d1
  refine ⟨a, dx, gs, rfl, hg, rdkv_none rg hl, B1, δ, S1, _, s.mono e1, r1, h1, fun xs S2 vs B2 H2 h2 e2 r2 d2 => ⟨B2, .ref a :: xs, S2, k, _, ?_, r2, h2, fun z S' u B' H' hk e' => q z S' u B' H' hk (e1.trans (e2.trans e')), fun _ _ _ _ _ _ z => z.elim⟩⟩
  rw [List.append_nil]
  exact .cons (.ref a) d2
theorem de_meth0 {pl : Sem Bool} (hc : ClsD K C flds) (h : MDef X.prog X.w X.K X.mg X.base k C m ps (lSp K sp)) (hr : Room k X.A) (he : PE X o (lE K dO))
    (ht : eval (.Call (.Attribute o m apos) [] [] pos) X.env = (do
      let ov ← eval o X.env
      standAt apos.atName
      let (f, first) ← holding [ov] (getMethod ov m pl)
      callWith pos f first (backTo pos (starEach [] X.env)) (backToKw pos (keywordEach [] X.env))) := by rfl) (hk : X.K = K := by rfl) :
    PE X (.Call (.Attribute o m apos) [] [] pos) (lE K (dMeth C m sp dO dNil)) := by
  subst hk
  obtain ⟨f, fd, F, hm, hb⟩ := h.ex
  refine peOf (pe_meth0 he hc.cl hm F hr hb .nil pass0 ht) fun σ H Q ⟨B, δ, S, k, s, r, h, q⟩ => ⟨B, δ, S, _, s, r, h, fun x S1 v B1 H1 ⟨⟨a, dx, fs, hx, ha, hl⟩, h1⟩ e1 r1 d1 => ?_⟩
  subst hx
  obtain ⟨gs, hg, rg⟩ := r1.ins ha
  cases rd_ref d1
  exact ⟨a, dx, gs, rfl, hg, rdkv_none rg hl, B1, [.ref a], S1, k, _, .one (.ref a), r1, h1, fun z S' u B' H' hk e' => q z S' u B' H' hk (e1.trans e'), fun _ _ _ _ _ _ z => z.elim⟩
theorem R.made {B H : Hp} {S : Sto} (r : R K B S H) {a dx : Addr} (h1 : H a = none) (h2 : H dx = none) (hn : dx ≠ a) : R K (upd B dx (.own a)) (put S a (.ins C dx [])) (upd (upd H dx (.own a)) a (.ins C dx [])) ∧ Ex B (upd B dx (.own a)) := by
  have n := r.new (o := .own a) h2
  exact ⟨n.1.newS (by rw [upd_ne hn.symm]; exact h1) (.ins .nil), n.2⟩
theorem de_make (h : MkDef X.prog X.w X.K X.mg X.base k x C ps (lSp K sp)) (hr : Room (k + 1) X.A) (hg : Gl X x) (ha : PA X (e :: es) (lA K da))
    (hdb : (x == ("__debug__" : Str)) = false := by decide) (he : starEach (e :: es) X.env = (false, eval e X.env) :: starEach es X.env := by rfl) (hpl : (backTo pos (starEach es X.env)).any (·.1) = false := by rfl) (hk : X.K = K := by rfl) :
    PE X (.Call (.Name x p) (e :: es) [] pos) (lE K (dMake C sp da)) := by
  subst hk
  obtain ⟨f, fd, M, F, hm, hb⟩ := h.ex
  refine peOf (pe_make M F hr hg hm hb .nil pass0 ha hdb he hpl) fun σ H Q ⟨B, δ, S, k, s, r, h, q⟩ => ⟨B, δ, S, _, s, r, h, fun xs S1 vs B1 H1 h1 e1 r1 d1 a dx na nd ne => ?_⟩
  have r2 := r1.made (C := C) na nd ne
  refine ⟨_, .ref a :: xs, _, _, _, ?_, r2.1, h1 a (r1.fresh na).2 dx, fun v S2 u B2 H2 ⟨hv, hk⟩ e2 r2' d2 => ?_, fun _ _ _ _ _ _ z => z.elim⟩
  · rw [List.append_nil]
    exact .cons (.ref a) (d1.mono r2.2)
  · subst hv
    exact ⟨rd_non d2, q _ S2 _ B2 H2 hk (e1.trans (r2.2.trans e2)) r2' (.ref a)⟩
theorem de_make0 (h : MkDef X.prog X.w X.K X.mg X.base k x C ps (lSp K sp)) (hr : Room (k + 1) X.A) (hg : Gl X x) (hdb : (x == ("__debug__" : Str)) = false := by decide) (hk : X.K = K := by rfl) :
    PE X (.Call (.Name x p) [] [] pos) (lE K (dMake C sp dNil)) := by
  subst hk
  obtain ⟨f, fd, M, F, hm, hb⟩ := h.ex
  refine peOf (pe_make0 M F hr hg hm hb .nil pass0 hdb) fun σ H Q ⟨B, δ, S, k, s, r, h, q⟩ => fun a dx na nd ne => ?_
  have r2 := r.made (C := C) na nd ne
  refine ⟨_, [.ref a], _, _, _, .one (.ref a), r2.1, h a (r.fresh na).2 dx, fun v S2 u B2 H2 ⟨hv, hk⟩ e2 r2' d2 => ?_, fun _ _ _ _ _ _ z => z.elim⟩
  subst hv
  exact ⟨rd_non d2, q _ S2 _ B2 H2 hk (r2.2.trans e2) r2' (.ref a)⟩
end
section
variable {δ : Dst} {S : Sto} {k : DK} {E : DEnds} {dO dv de : DE} {da : DA} {C a dx : Addr} {f m : Str} {fs : List (Str × D)} {v y : D} {g : Int → Int → Int} {sp : SpD}
theorem x_fld : dFld C de f δ S k = de δ S fun x S1 => fldq C x f S1 k ⟨⟩ := propext Iff.rfl
theorem x_fldS : dFldS C dv dO f E δ S = dv δ S fun y S1 => dO δ S1 fun x S2 => fldsq C x f y S2 (fun S3 => E.nx δ S3) ⟨⟩ := propext Iff.rfl
theorem x_fldA : dFldA C g dv dO f E δ S = dO δ S fun x S1 => fldq C x f S1 (fun v S2 => dv δ S2 fun y S3 => st2 (oI fun i j => .int (g i j)) v y S3 (fun z S4 => fldsq C x f z S4 (fun S5 => E.nx δ S5) ⟨⟩) ⟨⟩) ⟨⟩ := propext Iff.rfl
theorem x_meth : dMeth C m sp dO da δ S k = dO δ S fun x S1 => need (∃ a dx fs, x = .ref a ∧ S1 a = some (.ins C dx fs) ∧ fs.lookup m = none) (da δ S1 fun xs S2 => ask sp (x :: xs) S2 k ⟨⟩) ⟨⟩ := propext Iff.rfl
theorem x_make : dMake C sp da δ S k = da δ S fun xs S1 => fresh S1 (fun a => ∀ dx, ask sp (.ref a :: xs) (put S1 a (.ins C dx [])) (fun v S2 => v = .non ∧ k (.ref a) S2) ⟨⟩) ⟨⟩ := propext Iff.rfl
theorem fldOf (h : S a = some (.ins C dx fs)) (hl : fs.lookup f = some v) (q : k v S) : fldq C (.ref a) f S k ⟨⟩ := ⟨a, dx, fs, v, rfl, h, hl, q⟩
theorem x_fldq (h : S a = some (.ins C dx fs)) (hl : fs.lookup f = some v) : fldq C (.ref a) f S k ⟨⟩ = k v S := propext ⟨fun ⟨b, dy, gs, w, e, h2, hl2, q⟩ => by
  cases e
  rw [h] at h2
  cases h2
  rw [hl] at hl2
  cases hl2
  exact q, fun q => fldOf h hl q⟩
theorem fldsOf {k : Sto → Prop} (h : S a = some (.ins C dx fs)) (hl : fs.length < 1000) (q : k (put S a (.ins C dx (putFD f y fs)))) : fldsq C (.ref a) f y S k ⟨⟩ := ⟨a, dx, fs, rfl, h, hl, q⟩
theorem methOf {x : D} (h : S a = some (.ins C dx fs)) (hl : fs.lookup m = none) : ∃ b dy gs, D.ref a = .ref b ∧ S b = some (.ins C dy gs) ∧ gs.lookup m = none := ⟨a, dx, fs, rfl, h, hl⟩
end
end DL

set_option Elab.async false
set_option linter.all false
set_option maxRecDepth 100000
/-! ### dicts of the store -/
namespace DL
open PySem L2 Evl EX
def keyD : D → Option Key
  | .int i => some (.inl i)
  | .str s => some (.inr s)
  | _ => none
def gval {β : Type} (kvs : List (Key × β)) (k : Key) : Option β := (kvs.find? fun kv => decide (kv.1 = k)).map (·.2)
def gput {β : Type} (kvs : List (Key × β)) (k : Key) (v : β) : List (Key × β) := if (kvs.any fun kv => decide (kv.1 = k)) = true then kvs.map (fun kv => if kv.1 = k then (kv.1, v) else kv) else kvs ++ [(k, v)]
def gdrop {β : Type} (kvs : List (Key × β)) (k : Key) : List (Key × β) := kvs.filter fun kv => decide (kv.1 ≠ k)
def dK (k : Key) : D := match k with
  | .inl i => .int i
  | .inr s => .str s
section
variable {K : PySem.W.Frag} {B : Hp}
theorem keyD_ok {v : V} {d : D} {k : Key} (h : keyD d = some k) (r : RdD K B v d) : v = kV k := by
  cases r <;> first | (cases h; rfl) | cases h
theorem rd_kV (k : Key) : RdD K B (kV k) (dK k) := by
  cases k with
  | inl i => exact .int i
  | inr s => exact .str s
theorem rdkv_val {k : Key} : ∀ {fs : List (Key × V)} {gs : List (Key × D)}, RdKV K B fs gs → match gval gs k with
    | some d => ∃ v, valV fs k = some v ∧ RdD K B v d
    | none => valV fs k = none
  | _, _, .nil => rfl
  | (a, v) :: fs, (b, e) :: gs, .cons h r => by
    have h1 : a = b := h.1
    subst h1
    have ih := rdkv_val (k := k) r
    by_cases q : a = k
    · have e1 : gval ((a, e) :: gs) k = some e := by simp [gval, List.find?_cons, q]
      rw [e1]
      exact ⟨v, by simp [valV, List.find?_cons, q], h.2⟩
    · have e1 : gval ((a, e) :: gs) k = gval gs k := by simp [gval, List.find?_cons, q]
      have e2 : valV ((a, v) :: fs) k = valV fs k := by simp [valV, List.find?_cons, q]
      rw [e1, e2]
      exact ih
theorem rdkv_some {k : Key} {fs : List (Key × V)} {gs : List (Key × D)} {d : D} (r : RdKV K B fs gs) (h : gval gs k = some d) : ∃ v, valV fs k = some v ∧ RdD K B v d := by
  have := rdkv_val (k := k) r
  rw [h] at this
  exact this
theorem rdkv_isSome {k : Key} {fs : List (Key × V)} {gs : List (Key × D)} (r : RdKV K B fs gs) : (valV fs k).isSome = (gval gs k).isSome := by
  have := rdkv_val (k := k) r
  cases h : gval gs k with
  | none => rw [h] at this; rw [this]; rfl
  | some d => rw [h] at this; obtain ⟨v, hv, _⟩ := this; rw [hv]; rfl
theorem rdkv_any {k : Key} : ∀ {fs : List (Key × V)} {gs : List (Key × D)}, RdKV K B fs gs → (fs.any fun kv => decide (kv.1 = k)) = (gs.any fun kv => decide (kv.1 = k))
  | _, _, .nil => rfl
  | (a, v) :: fs, (b, e) :: gs, .cons h r => by
    have h1 : a = b := h.1
    subst h1
    rw [List.any_cons, List.any_cons, rdkv_any r]
theorem rdkv_map {k : Key} {v : V} {d : D} (hv : RdD K B v d) : ∀ {fs : List (Key × V)} {gs : List (Key × D)}, RdKV K B fs gs → RdKV K B (fs.map fun kv => if kv.1 = k then (kv.1, v) else kv) (gs.map fun kv => if kv.1 = k then (kv.1, d) else kv)
  | _, _, .nil => .nil
  | (a, w) :: fs, (b, e) :: gs, .cons h r => by
    have h1 : a = b := h.1
    subst h1
    rw [List.map_cons, List.map_cons]
    refine .cons ?_ (rdkv_map hv r)
    show (if a = k then (a, v) else (a, w)).1 = (if a = k then (a, d) else (a, e)).1 ∧ RdD K B (if a = k then (a, v) else (a, w)).2 (if a = k then (a, d) else (a, e)).2
    by_cases q : a = k
    · rw [if_pos q, if_pos q]
      exact ⟨rfl, hv⟩
    · rw [if_neg q, if_neg q]
      exact ⟨rfl, h.2⟩
theorem rdkv_app : ∀ {fs fs' : List (Key × V)} {gs gs' : List (Key × D)}, RdKV K B fs gs → RdKV K B fs' gs' → RdKV K B (fs ++ fs') (gs ++ gs')
  | _, _, _, _, .nil, s => s
  | _, _, _, _, .cons h r, s => .cons h (rdkv_app r s)
theorem rdkv_gput {k : Key} {v : V} {d : D} (hv : RdD K B v d) {fs : List (Key × V)} {gs : List (Key × D)} (r : RdKV K B fs gs) : RdKV K B (putK fs k v) (gput gs k d) := by
  unfold putK gput
  rw [rdkv_any r]
  split
  · exact rdkv_map hv r
  · exact rdkv_app r (.cons ⟨rfl, hv⟩ .nil)
theorem rdkv_drop {k : Key} : ∀ {fs : List (Key × V)} {gs : List (Key × D)}, RdKV K B fs gs → RdKV K B (dropK fs k) (gdrop gs k)
  | _, _, .nil => .nil
  | (a, w) :: fs, (b, e) :: gs, .cons h r => by
    have h1 : a = b := h.1
    subst h1
    unfold dropK gdrop
    rw [List.filter_cons, List.filter_cons]
    by_cases q : a = k
    · simp only [q, ne_eq, not_true_eq_false, decide_false, Bool.false_eq_true, if_false]
      exact rdkv_drop r
    · simp only [q, ne_eq, not_false_eq_true, decide_true, if_true]
      exact .cons h (rdkv_drop r)
theorem rdkv_keys : ∀ {fs : List (Key × V)} {gs : List (Key × D)}, RdKV K B fs gs → fs.map (·.1) = gs.map (·.1)
  | _, _, .nil => rfl
  | (a, w) :: fs, (b, e) :: gs, .cons h r => by
    have h1 : a = b := h.1
    subst h1
    rw [List.map_cons, List.map_cons, rdkv_keys r]
theorem rdl_keys : ∀ ks : List Key, RdL K B (ks.map kV) (ks.map dK)
  | [] => .nil
  | k :: ks => .cons (rd_kV k) (rdl_keys ks)
end
def dgetq (x y : D) (S : Sto) (k : DK) (_ : Tag k) : Prop := ∃ a kvs key v, x = .ref a ∧ DctAt S a kvs ∧ keyD y = some key ∧ gval kvs key = some v ∧ k v S
def dDGet (dd dk : DE) : DE := fun δ S k => dd δ S fun x S1 => dk δ S1 fun y S2 => dgetq x y S2 k ⟨⟩
def dinq (neg : Bool) (y x : D) (S : Sto) (k : DK) (_ : Tag k) : Prop := ∃ a kvs key, x = .ref a ∧ DctAt S a kvs ∧ keyD y = some key ∧ k (.bl (if neg then !(gval kvs key).isSome else (gval kvs key).isSome)) S
def dDIn (neg : Bool) (dk dd : DE) : DE := fun δ S k => dk δ S fun y S1 => dd δ S1 fun x S2 => dinq neg y x S2 k ⟨⟩
def isDq (x : D) (S : Sto) (A : Prop) (_ : Tag A) : Prop := (∃ a kvs, x = .ref a ∧ DctAt S a kvs) ∧ A
def dgorq (x y : D) (z : D) (S : Sto) (k : DK) (_ : Tag k) : Prop := ∃ a kvs key, x = .ref a ∧ DctAt S a kvs ∧ keyD y = some key ∧ k ((gval kvs key).getD z) S
def dDGet1 (dd dk : DE) : DE := fun δ S k => dd δ S fun x S1 => isDq x S1 (dk δ S1 fun y S2 => dgorq x y .non S2 k ⟨⟩) ⟨⟩
def dDGet2 (dd dk dz : DE) : DE := fun δ S k => dd δ S fun x S1 => isDq x S1 (dk δ S1 fun y S2 => dz δ S2 fun z S3 => dgorq x y z S3 k ⟨⟩) ⟨⟩
def dpopq (x y : D) (S : Sto) (k : DK) (_ : Tag k) : Prop := ∃ a kvs key v, x = .ref a ∧ S a = some (.dct kvs) ∧ keyD y = some key ∧ gval kvs key = some v ∧ k v (put S a (.dct (gdrop kvs key)))
def dDPop (dd dk : DE) : DE := fun δ S k => dd δ S fun x S1 => isDq x S1 (dk δ S1 fun y S2 => dpopq x y S2 k ⟨⟩) ⟨⟩
def dputq (x y v : D) (S : Sto) (k : Sto → Prop) (_ : Tag k) : Prop := ∃ a kvs key, x = .ref a ∧ S a = some (.dct kvs) ∧ keyD y = some key ∧ kvs.length < 100000 ∧ k (put S a (.dct (gput kvs key v)))
def dDPut (dd dk dv : DE) : DS := fun E δ S => dv δ S fun v S1 => dd δ S1 fun x S2 => dk δ S2 fun y S3 => dputq x y v S3 (fun S4 => E.nx δ S4) ⟨⟩
section
variable {X : Cx} {K : PySem.W.Frag} {o i e f value : Expr} {dd dk dv dz : DE} {pos pos' apos cpos : Pos}
theorem de_dget (hu : X.A.units + 1 < cLine) (ho : PE X o (lE K dd)) (hi : PE X i (lE K dk)) (hs : NoSl i) : PE X (.Subscript o i pos) (lE K (dDGet dd dk)) := peOf (pe_dget hu ho hi hs) fun σ H Q ⟨B, δ, S, k, s, r, h, q⟩ =>
  ⟨B, δ, S, _, s, r, h, fun x S1 v B1 H1 h1 e1 r1 d1 => ⟨B1, δ, S1, _, s.mono e1, r1, h1, fun y S2 w B2 H2 h2 e2 r2 d2 => by
    obtain ⟨a, kvs, key, z, rfl, ha, hk, hv, h2⟩ := h2
    obtain ⟨gs, hg, rg⟩ := r2.dctR ha
    obtain ⟨u, hu, ru⟩ := rdkv_some rg hv
    cases rd_ref d1
    cases keyD_ok hk d2
    exact ⟨a, u, rfl, .inl ⟨gs, key, hg, rfl, hu.symm⟩, q _ S2 _ B2 H2 h2 (e1.trans e2) r2 ru⟩⟩⟩
theorem pc_dinD {neg : Bool} (hu : X.A.units + 1 < cLine) (hi : PE X i (lE K dk)) (ho : PE X o (lE K dd)) : PC X .In i o (lE K (dDIn false dk dd)) := by
  obtain ⟨r⟩ := pc_din hu hi ho
  refine ⟨fun pins s σ H Q I ⟨B, δ, S, k, sl, rr, h, q⟩ => r pins s σ H Q I ⟨B, δ, S, _, sl, rr, h, fun y S1 w B1 H1 h1 e1 r1 d1 => ⟨B1, δ, S1, _, sl.mono e1, r1, h1, fun x S2 v B2 H2 h2 e2 r2 d2 => ?_⟩⟩⟩
  obtain ⟨a, kvs, key, rfl, ha, hk, h2⟩ := h2
  obtain ⟨gs, hg, rg⟩ := r2.dctR ha
  cases rd_ref d2
  cases keyD_ok hk d1
  exact ⟨a, _, rfl, .inl ⟨gs, key, hg, rfl, rfl⟩, by rw [rdkv_isSome rg]; exact q _ S2 _ B2 H2 h2 (e1.trans e2) r2 (.bl _)⟩
theorem pc_dninD {neg : Bool} (hu : X.A.units + 1 < cLine) (hi : PE X i (lE K dk)) (ho : PE X o (lE K dd)) : PC X .NotIn i o (lE K (dDIn true dk dd)) := by
  obtain ⟨r⟩ := pc_dnotin hu hi ho
  refine ⟨fun pins s σ H Q I ⟨B, δ, S, k, sl, rr, h, q⟩ => r pins s σ H Q I ⟨B, δ, S, _, sl, rr, h, fun y S1 w B1 H1 h1 e1 r1 d1 => ⟨B1, δ, S1, _, sl.mono e1, r1, h1, fun x S2 v B2 H2 h2 e2 r2 d2 => ?_⟩⟩⟩
  obtain ⟨a, kvs, key, rfl, ha, hk, h2⟩ := h2
  obtain ⟨gs, hg, rg⟩ := r2.dctR ha
  cases rd_ref d2
  cases keyD_ok hk d1
  exact ⟨a, _, rfl, .inl ⟨gs, key, hg, rfl, rfl⟩, by rw [rdkv_isSome rg]; exact q _ S2 _ B2 H2 h2 (e1.trans e2) r2 (.bl _)⟩
theorem de_din (hu : X.A.units + 1 < cLine) (hi : PE X i (lE K dk)) (ho : PE X o (lE K dd)) (hm : behindInMarks .In o = false := by rfl) : PE X (.Compare i [.In] [o] pos) (lE K (dDIn false dk dd)) := pe_cmp (pc_dinD (neg := false) hu hi ho) hm
theorem de_dinN (hu : X.A.units + 1 < cLine) (hi : PE X i (lE K dk)) (ho : PE X o (lE K dd)) (hm : behindInMarks .NotIn o = false := by rfl) : PE X (.Compare i [.NotIn] [o] pos) (lE K (dDIn true dk dd)) := pe_cmp (pc_dninD (neg := true) hu hi ho) hm
theorem dt_din (hu : X.A.units + 1 < cLine) (hi : PE X i (lE K dk)) (ho : PE X o (lE K dd)) (hm : behindInMarks .In o = false := by rfl) : PT X (.Compare i [.In] [o] pos) (lT K (dTest (dDIn false dk dd))) := ptOf (pt_cmp (pc_dinD (neg := false) hu hi ho) hm) l_test
theorem dt_dinN (hu : X.A.units + 1 < cLine) (hi : PE X i (lE K dk)) (ho : PE X o (lE K dd)) (hm : behindInMarks .NotIn o = false := by rfl) : PT X (.Compare i [.NotIn] [o] pos) (lT K (dTest (dDIn true dk dd))) := ptOf (pt_cmp (pc_dninD (neg := true) hu hi ho) hm) l_test
theorem isD_ok {B H : Hp} {S : Sto} {x : D} {v : V} (h : ∃ a kvs, x = .ref a ∧ DctAt S a kvs) (r : R K B S H) (rx : RdD K B v x) : ∃ a, v = .ref a ∧ IsD H a := by
  obtain ⟨a, kvs, rfl, ha⟩ := h
  obtain ⟨gs, hg, _⟩ := r.dctR ha
  exact ⟨a, rd_ref rx, .inl ⟨gs, hg⟩⟩
theorem getD_ok {B : Hp} {gs : List (Key × V)} {kvs : List (Key × D)} {key : Key} {z : D} {w : V} (rg : RdKV K B gs kvs) (hz : RdD K B w z) : RdD K B ((valV gs key).getD w) ((gval kvs key).getD z) := by
  have := rdkv_val (k := key) rg
  cases h : gval kvs key with
  | none => rw [h] at this; rw [this]; exact hz
  | some d => rw [h] at this; obtain ⟨v, hv, rv⟩ := this; rw [hv]; exact rv
theorem de_dgets1 (hu : X.A.units + 1 < cLine) (ho : PE X o (lE K dd)) (he : PE X e (lE K dk)) (m : M1 X o "get" apos e cpos := by exact ⟨rfl, rfl, rfl, rfl⟩) : PE X (.Call (.Attribute o "get" apos) [e] [] cpos) (lE K (dDGet1 dd dk)) := peOf (pe_dget1 hu ho he m) fun σ H Q ⟨B, δ, S, k, s, r, h, q⟩ =>
  ⟨B, δ, S, _, s, r, h, fun x S1 v B1 H1 ⟨hd, h1⟩ e1 r1 d1 => by
    obtain ⟨a0, rfl, hI⟩ := isD_ok hd r1 d1
    refine ⟨a0, rfl, hI, B1, δ, S1, _, s.mono e1, r1, h1, fun y S2 w B2 H2 h2 e2 r2 d2 => ?_⟩
    obtain ⟨a, kvs, key, rfl, ha, hk, h2⟩ := h2
    obtain ⟨gs, hg, rg⟩ := r2.dctR ha
    cases rd_ref d1
    cases keyD_ok hk d2
    exact ⟨_, .inl ⟨gs, key, hg, rfl, rfl⟩, q _ S2 _ B2 H2 h2 (e1.trans e2) r2 (getD_ok rg .non)⟩⟩
theorem de_dgets2 (hu : X.A.units + 1 < cLine) (ho : PE X o (lE K dd)) (he : PE X e (lE K dk)) (hf : PE X f (lE K dz)) (m : M2 X o "get" apos e f cpos := by exact ⟨rfl, rfl, rfl, rfl⟩) : PE X (.Call (.Attribute o "get" apos) [e, f] [] cpos) (lE K (dDGet2 dd dk dz)) := peOf (pe_dget2 hu ho he hf m) fun σ H Q ⟨B, δ, S, k, s, r, h, q⟩ =>
  ⟨B, δ, S, _, s, r, h, fun x S1 v B1 H1 ⟨hd, h1⟩ e1 r1 d1 => by
    obtain ⟨a0, rfl, hI⟩ := isD_ok hd r1 d1
    refine ⟨a0, rfl, hI, B1, δ, S1, _, s.mono e1, r1, h1, fun y S2 w B2 H2 h2 e2 r2 d2 => ⟨B2, δ, S2, _, s.mono (e1.trans e2), r2, h2, fun z S3 u B3 H3 h3 e3 r3 d3 => ?_⟩⟩
    obtain ⟨a, kvs, key, rfl, ha, hk, h3⟩ := h3
    obtain ⟨gs, hg, rg⟩ := r3.dctR ha
    cases rd_ref d1
    cases keyD_ok hk d2
    exact ⟨_, .inl ⟨gs, key, hg, rfl, rfl⟩, q _ S3 _ B3 H3 h3 (e1.trans (e2.trans e3)) r3 (getD_ok rg d3)⟩⟩
theorem de_dpop (ho : PE X o (lE K dd)) (he : PE X e (lE K dk)) (m : M1 X o "pop" apos e cpos := by exact ⟨rfl, rfl, rfl, rfl⟩) : PE X (.Call (.Attribute o "pop" apos) [e] [] cpos) (lE K (dDPop dd dk)) := peOf (pe_dpop1 ho he m) fun σ H Q ⟨B, δ, S, k, s, r, h, q⟩ =>
  ⟨B, δ, S, _, s, r, h, fun x S1 v B1 H1 ⟨hd, h1⟩ e1 r1 d1 => by
    obtain ⟨a0, rfl, hI⟩ := isD_ok hd r1 d1
    refine ⟨a0, rfl, hI, B1, δ, S1, _, s.mono e1, r1, h1, fun y S2 w B2 H2 h2 e2 r2 d2 => ?_⟩
    obtain ⟨a, kvs, key, z, rfl, ha, hk, hv, h2⟩ := h2
    obtain ⟨gs, hg, rg⟩ := r2.dct ha
    obtain ⟨u, hu, ru⟩ := rdkv_some rg hv
    cases rd_ref d1
    cases keyD_ok hk d2
    exact ⟨gs, key, u, hg, rfl, hu, q _ _ _ B2 _ h2 (e1.trans e2) (r2.mut ha (.dct (rdkv_drop rg))) ru⟩⟩
theorem ds_dput (hu : X.A.units + 1 < cLine) (ho : PE X o (lE K dd)) (hi : PE X i (lE K dk)) (hv : PE X value (lE K dv)) (hs : swapsWith value (some (.Subscript o i pos')) pos.line X.env = pure false := by rfl) : PS X (.Assign [.Subscript o i pos'] value pos) (lS K (dDPut dd dk dv)) := psOf (ps_dput hu ho hi hv hs) fun E σ H ⟨B, δ, S, D, s, r, h, l⟩ =>
  ⟨B, δ, S, _, s, r, h, fun v S1 w B1 H1 h1 e1 r1 d1 => ⟨B1, δ, S1, _, s.mono e1, r1, h1, fun x S2 u B2 H2 h2 e2 r2 d2 => ⟨B2, δ, S2, _, s.mono (e1.trans e2), r2, h2, fun y S3 z B3 H3 h3 e3 r3 d3 => by
    obtain ⟨a, kvs, key, rfl, ha, hk, hl, h3⟩ := h3
    obtain ⟨gs, hg, rg⟩ := r3.dct ha
    cases rd_ref d2
    cases keyD_ok hk d3
    exact ⟨a, _, rfl, .inl ⟨gs, key, hg, rfl, sz_lt (by rw [rdkv_len rg]; exact hl), rfl⟩, l.nx δ _ σ B3 _ h3 (e1.trans (e2.trans e3)) (s.mono (e1.trans (e2.trans e3))) (r3.mut ha (.dct (rdkv_gput (d1.mono (e2.trans e3)) rg)))⟩⟩⟩⟩
end
section
variable {K : PySem.W.Frag}
/-- list(d): its keys; sorted(d) of numbers -/
def oListD : List D → Sto → DK → Prop := fun xs S k => match xs with
  | [.ref a] => ∃ kvs, DctAt S a kvs ∧ k (.list (kvs.map fun kv => dK kv.1)) S
  | _ => False
theorem si_listD : SimC K (fun xs H Q => ∃ (a : Addr) (kvs : List (Key × V)), xs = [.ref a] ∧ Rd H a (.dK kvs) ∧ ∀ p, H p = none → Q (.ref p) (upd H p (.lst (kvs.map fun kv => kV kv.1)))) oListD := fun B S H vs xs k Q r rx h1 q => by
  unfold oListD at h1
  split at h1
  · obtain ⟨v, rfl, rv⟩ := rdl1 rx
    cases rd_ref rv
    obtain ⟨kvs, hs, h1⟩ := h1
    obtain ⟨gs, hg, rg⟩ := r.dctR hs
    refine ⟨_, gs, rfl, hg, fun p hp => ?_⟩
    have n := r.new (o := .lst (gs.map fun kv => kV kv.1)) hp
    refine q _ S _ _ _ h1 n.2 n.1 (.lst upd_same ?_)
    have e1 : (gs.map fun kv => kV kv.1) = (gs.map (·.1)).map kV := by rw [List.map_map]; rfl
    have e2 : (kvs.map fun kv => dK kv.1) = (kvs.map (·.1)).map dK := by rw [List.map_map]; rfl
    rw [e1, e2, rdkv_keys rg]
    exact rdl_keys _
  · exact h1.elim
def oSortDI : List D → Sto → DK → Prop := fun xs S k => match xs with
  | [.ref a] => ∃ (kvs : List (Key × D)) (ks : List Int), S a = some (.dct kvs) ∧ kvs.map (·.1) = ks.map Sum.inl ∧ ks.length < 64 ∧ ∀ ys : List Int, ys.Perm ks → ys.Pairwise (· ≤ ·) → k (.list (ys.map D.int)) S
  | _ => False
theorem si_sortDI : SimC K (fun xs H Q => ∃ (a : Addr) (kvs : List (Key × V)) (ks : List Int), xs = [.ref a] ∧ Rd H a (.dK kvs) ∧ kvs.map (·.1) = ks.map Sum.inl ∧ ks.length < 64 ∧
    ∀ (ys : List Int) (p : Addr), ys.Perm ks → ys.Pairwise (· ≤ ·) → H p = none → Q (.ref p) (upd H p (.lst (ys.map V.int)))) oSortDI := fun B S H vs xs k Q r rx h1 q => by
  unfold oSortDI at h1
  split at h1
  · obtain ⟨v, rfl, rv⟩ := rdl1 rx
    cases rd_ref rv
    obtain ⟨kvs, ks, hs, hk, hl, h1⟩ := h1
    obtain ⟨gs, hg, rg⟩ := r.dct hs
    refine ⟨_, gs, ks, rfl, .inl hg, by rw [rdkv_keys rg]; exact hk, hl, fun ys p pm pw hp => ?_⟩
    have n := r.new (o := .lst (ys.map V.int)) hp
    exact q _ S _ _ _ (h1 ys pm pw) n.2 n.1 (.lst upd_same (rdl_ints _))
  · exact h1.elim
end
section
variable {δ : Dst} {S : Sto} {k : DK} {E : DEnds} {dd dk dv dz : DE} {a : Addr} {kvs : List (Key × D)} {key : Key} {x y v z : D} {xs : List D}
theorem x_dget : dDGet dd dk δ S k = dd δ S fun x S1 => dk δ S1 fun y S2 => dgetq x y S2 k ⟨⟩ := propext Iff.rfl
theorem x_din {neg : Bool} : dDIn neg dk dd δ S k = dk δ S fun y S1 => dd δ S1 fun x S2 => dinq neg y x S2 k ⟨⟩ := propext Iff.rfl
theorem x_dget1 : dDGet1 dd dk δ S k = dd δ S fun x S1 => isDq x S1 (dk δ S1 fun y S2 => dgorq x y .non S2 k ⟨⟩) ⟨⟩ := propext Iff.rfl
theorem x_dget2 : dDGet2 dd dk dz δ S k = dd δ S fun x S1 => isDq x S1 (dk δ S1 fun y S2 => dz δ S2 fun z S3 => dgorq x y z S3 k ⟨⟩) ⟨⟩ := propext Iff.rfl
theorem x_dpop : dDPop dd dk δ S k = dd δ S fun x S1 => isDq x S1 (dk δ S1 fun y S2 => dpopq x y S2 k ⟨⟩) ⟨⟩ := propext Iff.rfl
theorem x_dput : dDPut dd dk dv E δ S = dv δ S fun v S1 => dd δ S1 fun x S2 => dk δ S2 fun y S3 => dputq x y v S3 (fun S4 => E.nx δ S4) ⟨⟩ := propext Iff.rfl
theorem x_listD : oListD xs S k = stC oListD xs S k ⟨⟩ := propext Iff.rfl
theorem x_sortDI : oSortDI xs S k = stC oSortDI xs S k ⟨⟩ := propext Iff.rfl
theorem x_lenD : oLenD xs S k = stC oLenD xs S k ⟨⟩ := propext Iff.rfl
theorem dgetOf (h : S a = some (.dct kvs)) (hk : keyD y = some key) (hv : gval kvs key = some v) (q : k v S) : dgetq (.ref a) y S k ⟨⟩ := ⟨a, kvs, key, v, rfl, .inl h, hk, hv, q⟩
theorem dgetOfR (h : DctAt S a kvs) (hk : keyD y = some key) (hv : gval kvs key = some v) (q : k v S) : dgetq (.ref a) y S k ⟨⟩ := ⟨a, kvs, key, v, rfl, h, hk, hv, q⟩
theorem dinOf (h : S a = some (.dct kvs)) (hk : keyD y = some key) (q : k (.bl (gval kvs key).isSome) S) : dinq false y (.ref a) S k ⟨⟩ := ⟨a, kvs, key, rfl, .inl h, hk, q⟩
theorem dninOf (h : S a = some (.dct kvs)) (hk : keyD y = some key) (q : k (.bl (!(gval kvs key).isSome)) S) : dinq true y (.ref a) S k ⟨⟩ := ⟨a, kvs, key, rfl, .inl h, hk, q⟩
theorem isDOf {A : Prop} (h : S a = some (.dct kvs)) (q : A) : isDq (.ref a) S A ⟨⟩ := ⟨⟨a, kvs, rfl, .inl h⟩, q⟩
theorem dgorOf (h : S a = some (.dct kvs)) (hk : keyD y = some key) (q : k ((gval kvs key).getD z) S) : dgorq (.ref a) y z S k ⟨⟩ := ⟨a, kvs, key, rfl, .inl h, hk, q⟩
theorem dpopOf (h : S a = some (.dct kvs)) (hk : keyD y = some key) (hv : gval kvs key = some v) (q : k v (put S a (.dct (gdrop kvs key)))) : dpopq (.ref a) y S k ⟨⟩ := ⟨a, kvs, key, v, rfl, h, hk, hv, q⟩
theorem dputOf {k : Sto → Prop} (h : S a = some (.dct kvs)) (hk : keyD y = some key) (hl : kvs.length < 100000) (q : k (put S a (.dct (gput kvs key v)))) : dputq (.ref a) y v S k ⟨⟩ := ⟨a, kvs, key, rfl, h, hk, hl, q⟩
theorem lenDOf (h : S a = some (.dct kvs)) (q : k (.int kvs.length) S) : stC oLenD [.ref a] S k ⟨⟩ := ⟨kvs, h, q⟩
theorem listDOf (h : S a = some (.dct kvs)) (q : k (.list (kvs.map fun kv => dK kv.1)) S) : stC oListD [.ref a] S k ⟨⟩ := ⟨kvs, .inl h, q⟩
theorem gput_new {β : Type} {kvs : List (Key × β)} {v : β} (h : gval kvs key = none) : gput kvs key v = kvs ++ [(key, v)] := by
  unfold gput
  rw [if_neg]
  intro z
  unfold gval at h
  rw [Option.map_eq_none_iff, List.find?_eq_none] at h
  rw [List.any_eq_true] at z
  obtain ⟨p, hp, hq⟩ := z
  exact h p hp hq
end
end DL

set_option Elab.async false
set_option linter.all false
set_option maxRecDepth 100000
/-! ### isinstance beside a class of the program's own -/
namespace DL
open PySem L2 Evl EX
structure IsiC (K : PySem.W.Frag) (C : Addr) : Prop where
  cl : Cls K C
  ha : PySem.W.findIn K (.ref C) "__class__" = some (some (.builtin "object.__class__"))
  hn : PySem.W.specialIn K (.builtin "object.__class__") "__get__" = some (some (.builtin "getset_descriptor.__get__"))
  htk : PySem.W.takesIn K (.builtin "object.__class__") = some true
  hm : PySem.W.mroIn K C (.type "object") = some true
  t1 : PySem.W.kitOne K (.ref C) (.type "bool") = some false
  t2 : PySem.W.kitOne K (.ref C) (.type "int") = some false
  t3 : PySem.W.kitOne K (.ref C) (.type "str") = some false
  f1 : PySem.W.kitOne K (.type "NoneType") (.ref C) = some false
  f2 : PySem.W.kitOne K (.type "bool") (.ref C) = some false
  f3 : PySem.W.kitOne K (.type "int") (.ref C) = some false
  f4 : PySem.W.kitOne K (.type "str") (.ref C) = some false
inductive IsAns (C : Addr) (S : Sto) : D → D → Bool → Prop where
  | ty {x : D} {t c : String} : tyD S x = some t → c ∈ Cs → IsAns C S x (.ty c) (isB t c)
  | ins {a dx : Addr} {fs : List (Str × D)} {c : String} : S a = some (.ins C dx fs) → c = "bool" ∨ c = "int" ∨ c = "str" → IsAns C S (.ref a) (.ty c) false
  | own {a dx : Addr} {fs : List (Str × D)} : S a = some (.ins C dx fs) → IsAns C S (.ref a) (.ref C) true
  | non : IsAns C S .non (.ref C) false
  | bl (b : Bool) : IsAns C S (.bl b) (.ref C) false
  | int (i : Int) : IsAns C S (.int i) (.ref C) false
  | str (s : Str) : IsAns C S (.str s) (.ref C) false
def oIsiC (C : Addr) : List D → Sto → DK → Prop := fun xs S k => match xs with
  | [x, y] => ∃ b, IsAns C S x y b ∧ k (.bl b) S
  | _ => False
theorem ty_ins {S : Sto} {a C dx : Addr} {fs : List (Str × D)} (h : S a = some (.ins C dx fs)) : tyD S (.ref a) = none := by simp only [tyD, h]
theorem IsAns.uni {C : Addr} {S : Sto} {x y : D} {b c : Bool} (h : IsAns C S x y b) (h2 : IsAns C S x y c) : b = c := by
  cases h with
  | ty h1 hc =>
    cases h2 with
    | ty h2 _ => rw [h1] at h2; cases h2; rfl
    | ins h2 _ => rw [ty_ins h2] at h1; cases h1
  | ins h1 _ => cases h2 with
    | ty h2 _ => rw [ty_ins h1] at h2; cases h2
    | ins h2 _ => rfl
  | own h1 => cases h2; rfl
  | non => cases h2; rfl
  | bl b => cases h2; rfl
  | int b => cases h2; rfl
  | str b => cases h2; rfl
section
variable {K : PySem.W.Frag} {C : Addr}
theorem kit_self (a : Addr) : PySem.W.kitOne K (.ref a) (.ref a) = some true := by
  unfold PySem.W.kitOne
  rw [if_pos (by simp)]
theorem si_isiC (hC : IsiC K C) : SimC K (rIsi K) (oIsiC C) := fun B S H vs xs k Q r rx h1 q => by
  unfold oIsiC at h1
  split at h1
  · rename_i x y
    obtain ⟨v, w, rfl, rv, rw'⟩ := rdl2 rx
    obtain ⟨b, hb, h1⟩ := h1
    have ans := q (.bl b) S (.bl b) B H h1 (Ex.refl B) r (.bl b)
    have tyi : ∀ {a dx fs}, S a = some (.ins C dx fs) → TyX K H (.ref a) (.ref C) := fun {a dx fs} h => by
      obtain ⟨gs, hg, _⟩ := r.ins h
      exact .base (.ins hg hC.cl hC.ha hC.hn hC.htk hC.hm)
    cases hb with
    | @ty x t c ht hc =>
      have hw : w = .ty c := by cases rw'; rfl
      subst hw
      exact ⟨v, .ty c, .type t, .type c, isB t c, rfl, .ty c, tyD_ok ht r rv, kit_ty (isB_ok t (tyD_mem ht) c hc), ans⟩
    | @ins a dx fs c h hc =>
      cases rd_ref rv
      have hw : w = .ty c := by cases rw'; rfl
      subst hw
      refine ⟨_, _, .ref C, .type c, false, rfl, .ty c, tyi h, ?_, ans⟩
      rcases hc with rfl | rfl | rfl
      · exact hC.t1
      · exact hC.t2
      · exact hC.t3
    | own h =>
      cases rd_ref rv
      cases rd_ref rw'
      exact ⟨_, _, .ref C, .ref C, true, rfl, .own C, tyi h, kit_self C, ans⟩
    | non =>
      cases rd_non rv
      cases rd_ref rw'
      exact ⟨_, _, .type "NoneType", .ref C, false, rfl, .own C, .base .non, hC.f1, ans⟩
    | bl b =>
      have : v = .bl b := by cases rv; rfl
      subst this
      cases rd_ref rw'
      exact ⟨_, _, .type "bool", .ref C, false, rfl, .own C, .base (.bl b), hC.f2, ans⟩
    | int i =>
      cases rd_int rv
      cases rd_ref rw'
      exact ⟨_, _, .type "int", .ref C, false, rfl, .own C, .base (.int i), hC.f3, ans⟩
    | str i =>
      cases rd_str rv
      cases rd_ref rw'
      exact ⟨_, _, .type "str", .ref C, false, rfl, .own C, .base (.str i), hC.f4, ans⟩
  · exact h1.elim
end
section
variable {C a dx : Addr} {S : Sto} {k : DK} {fs : List (Str × D)} {x y : D} {b : Bool}
theorem x_isiC {xs : List D} : oIsiC C xs S k = stC (oIsiC C) xs S k ⟨⟩ := propext Iff.rfl
theorem isiC_of (h : IsAns C S x y b) : stC (oIsiC C) [x, y] S k ⟨⟩ = k (.bl b) S := propext ⟨fun ⟨c, hc, q⟩ => by rw [h.uni hc]; exact q, fun q => ⟨b, h, q⟩⟩
theorem x_icS {s : Str} {c : String} (hc : c ∈ Cs) : stC (oIsiC C) [.str s, .ty c] S k ⟨⟩ = k (.bl (isB "str" c)) S := isiC_of (.ty rfl hc)
theorem x_icI {s : Int} {c : String} (hc : c ∈ Cs) : stC (oIsiC C) [.int s, .ty c] S k ⟨⟩ = k (.bl (isB "int" c)) S := isiC_of (.ty rfl hc)
theorem x_icB {s : Bool} {c : String} (hc : c ∈ Cs) : stC (oIsiC C) [.bl s, .ty c] S k ⟨⟩ = k (.bl (isB "bool" c)) S := isiC_of (.ty rfl hc)
theorem x_icN {c : String} (hc : c ∈ Cs) : stC (oIsiC C) [.non, .ty c] S k ⟨⟩ = k (.bl (isB "NoneType" c)) S := isiC_of (.ty rfl hc)
theorem x_ioS {s : Str} : stC (oIsiC C) [.str s, .ref C] S k ⟨⟩ = k (.bl false) S := isiC_of (.str s)
theorem x_ioI {s : Int} : stC (oIsiC C) [.int s, .ref C] S k ⟨⟩ = k (.bl false) S := isiC_of (.int s)
theorem x_ioB {s : Bool} : stC (oIsiC C) [.bl s, .ref C] S k ⟨⟩ = k (.bl false) S := isiC_of (.bl s)
theorem x_ioN : stC (oIsiC C) [.non, .ref C] S k ⟨⟩ = k (.bl false) S := isiC_of .non
theorem x_inB (h : S a = some (.ins C dx fs)) : stC (oIsiC C) [.ref a, .ty "bool"] S k ⟨⟩ = k (.bl false) S := isiC_of (.ins h (.inl rfl))
theorem x_inI (h : S a = some (.ins C dx fs)) : stC (oIsiC C) [.ref a, .ty "int"] S k ⟨⟩ = k (.bl false) S := isiC_of (.ins h (.inr (.inl rfl)))
theorem x_inS (h : S a = some (.ins C dx fs)) : stC (oIsiC C) [.ref a, .ty "str"] S k ⟨⟩ = k (.bl false) S := isiC_of (.ins h (.inr (.inr rfl)))
theorem x_own (h : S a = some (.ins C dx fs)) : stC (oIsiC C) [.ref a, .ref C] S k ⟨⟩ = k (.bl true) S := isiC_of (.own h)
end
end DL

set_option Elab.async false
set_option linter.all false
set_option maxRecDepth 100000
/-! ### texts as lists of signs; the figures of numbers -/
namespace DL
open PySem L2 Evl EX
theorem nF_nil {K : PySem.W.Frag} {C : Addr} : ∀ f ∈ ([] : List Str), NoAttr K C f := fun _ z => nomatch z
theorem nF_cons {K : PySem.W.Frag} {C : Addr} {f : Str} {fs : List Str} (h : PySem.W.findIn K (.ref C) f = some none) (r : ∀ g ∈ fs, NoAttr K C g) : ∀ g ∈ f :: fs, NoAttr K C g := fun g hg => by
  rcases List.mem_cons.mp hg with rfl | hg
  · exact h
  · exact r g hg
theorem strX {a b : Str} (h : a.cps.toList = b.cps.toList) : a = b := by
  cases a with | mk a => cases b with | mk b => exact congrArg Str.mk (Array.toList_inj.mp h)
def sOf (l : List Nat) : Str := ⟨l.toArray⟩
theorem sOf_app (a b : List Nat) : sOf a ++ sOf b = sOf (a ++ b) := strX (by rw [PyProof.Rows.cps_toList_append]; simp [sOf])
theorem sOf_len (a : List Nat) : (sOf a).length = a.length := by simp [sOf, Str.length]
theorem sapp_len (a b : Str) : (a ++ b).length = a.length + b.length := by
  have := congrArg List.length (PyProof.Rows.cps_toList_append a b)
  simpa [Str.length] using this
def fig (i : Int) : Str := Str.ofString (toString i)
theorem fig_nat (n : Nat) : fig (n : Int) = sOf (TL.numL n) := strX (by rw [show (fig (n : Int)).cps.toList = TL.numL n from TL.tl_num n]; simp [sOf])
theorem ofS_app (a b : String) : Str.ofString (a ++ b) = Str.ofString a ++ Str.ofString b := strX (by
  rw [PyProof.Rows.cps_toList_append, Str.ofString_eq_toList, Str.ofString_eq_toList, Str.ofString_eq_toList]
  simp)
theorem fig_neg {i : Int} (h : i < 0) : fig i = Str.ofString "-" ++ fig (0 - i) := by
  unfold fig
  rw [PyProof.Rows.toString_neg h, ofS_app]
theorem fig_len {n k : Nat} (hk : 0 < k) (h : n < 10 ^ k) : (fig (n : Int)).length ≤ k := by
  rw [fig_nat, sOf_len]
  exact TL.numL_len hk h
theorem fig_inj {m n : Nat} (h : fig (m : Int) = fig (n : Int)) : m = n := by
  rw [fig_nat, fig_nat] at h
  have := congrArg (fun s : Str => s.cps.toList) h
  simp only [sOf] at this
  exact TL.numL_inj this
theorem ixMem {S : Sto} {k : DK} {ds : List D} {i : Int} {m : Nat} (h : ds.length = m) (h0 : 0 ≤ i) (h1 : i < m) (q : ∀ d ∈ ds, k d S) : ixq (.list ds) i S k ⟨⟩ := by
  obtain ⟨j, rfl⟩ := Int.eq_ofNat_of_zero_le h0
  have hj : j < ds.length := by omega
  exact ixAt (.inl rfl) (List.getElem?_eq_getElem hj) (q _ (List.getElem_mem hj))
theorem log2_small {n : Nat} (h : n < 2 ^ 200) : n.log2 < 1920 := by
  by_cases z : n = 0
  · rw [z]; decide
  · have := (Nat.log2_lt (k := 200) z).mpr h
    omega
end DL

set_option Elab.async false
set_option linter.all false
set_option maxRecDepth 100000
/-! ### == beside an instance of a class without an __eq__ of its own -/
namespace OE
open PySem PySem.Spec PyProof.Rows PySem.SeqAt
open AutoSeq1 (wpAny_loadPart')
theorem int_bool (b : Bool) (l C dx : Addr) : Meets (Builtin.«int.__eq__» ⟨[.bool b, .ref l], []⟩) (fun _ R s => s.heap.get? l = some (PySem.W.instObj C dx) ∧ R (.ok (.ret .notImplemented)) s) :=
  .of_wp fun prog w A R s h => by obtain ⟨hp, g, d, tk, os⟩ := s; obtain ⟨hl, h⟩ := h; unfold PySem.W.instObj at hl; wp_walk using wpAny_loadPart' hl, wpAny_load hl; exact ⟨_, rfl, h⟩
theorem str_str (b : Str) (u : Tok) (l C dx : Addr) : Meets (Builtin.«str.__eq__» ⟨[.str b u, .ref l], []⟩) (fun _ R s => s.heap.get? l = some (PySem.W.instObj C dx) ∧ R (.ok (.ret .notImplemented)) s) :=
  .of_wp fun prog w A R s h => by obtain ⟨hp, g, d, tk, os⟩ := s; obtain ⟨hl, h⟩ := h; unfold PySem.W.instObj at hl; wp_walk using wpAny_loadPart' hl, wpAny_load hl; exact ⟨_, rfl, h⟩
section
variable {prog : Program} {w : World} {M : Model} {A : Around} {E : Value → Shared → Prop} {s : Shared} {K : PySem.W.Frag} {x y C D dx : Addr} {ox oy : Obj} {od oe : Option Obj} {u : Value} {T : String}
theorem entryU {Q : Fin → Shared → Prop} (hu : isSame (.ref x) u = pure false) (hq : Q (.done (.ret .notImplemented)) s) : wpAny M A (Builtin.«object.__eq__» ⟨[.ref x, u], []⟩) Q E s := by
  unfold Builtin.«object.__eq__»
  repeat (first | with_reducible refine wpAny_of_eq hu ?_ | wp_step)
  exact hq
theorem callU {Q : Value → Shared → Prop} (X : K.In s.heap) (I : PySem.W.InstAt s.heap x ox C od) (hm : PySem.W.mroIn K C (.type "object") = some true) (hu : isSame (.ref x) u = pure false) (hq : Q .notImplemented s) :
    wpAny (model prog w) A (call (.builtin "object.__eq__") [.ref x, u]) Q E s :=
  wpAny_call (codeAny_call_builtin F.cmp_object.eq.plain F.cmpEntry_eq (PySem.W.check_slot F.cmpKind_eq F.cmpSplit_eq (I.type.andThen (PySem.W.looks_mroIn X hm)) (F.cmpArgs_eq _ _) (entryU hu hq)))
theorem tryXU {Q : Option Value → Shared → Prop} (X : K.In s.heap) (I : PySem.W.InstAt s.heap x ox C od) (hm : PySem.W.mroIn K C (.type "object") = some true) (hs : PySem.W.findIn K (.ref C) "__eq__" = some (some (.builtin "object.__eq__"))) (hu : isSame (.ref x) u = pure false) (q : Q none s) :
    wpAny (model prog w) A (tryCompare (.ref x) "__eq__" u) Q E s := by
  unfold tryCompare
  exact wpAny_bind (HN.ifBound_objEq X I hs (callU X I hm hu (wpAny_pure q)))
theorem rcXU (hA : A.units < cLine) (X : K.In s.heap) (I : PySem.W.InstAt s.heap x ox C od) (hm : PySem.W.mroIn K C (.type "object") = some true) (hs : PySem.W.findIn K (.ref C) "__eq__" = some (some (.builtin "object.__eq__")))
    (hT : s.TypeIs u T) (hsub : PySem.W.subIn K (.type T) (.ref C) = some false) (hu : isSame (.ref x) u = pure false)
    (two : ∀ (prog : Program) (w : World) (E : Value → Shared → Prop), wpAny (model prog w) A (tryCompare u "__eq__" (.ref x)) (fun r s' => r = none ∧ s' = s) E s) : RcAt A s (.ref x) u false := fun prog w E Q h => by
  simp only [richCompare, cmpInfo_Eq, oneThing_ref]
  refine wpAny_holding (wpAny_bind (wpAny_cRoomFor hA ?_))
  refine wpAny_bind (I.type.here ?_)
  refine wpAny_bind (wpAny_typeOf hT ?_)
  split
  · refine wpAny_bind ((PySem.W.looks_subIn X hsub).here ?_)
    simp only [Bool.false_eq_true, if_false, Bool.not_false, if_true]
    refine wpAny_bind (m := tryCompare (.ref x) _ u) (tryXU X I hm hs hu ?_)
    refine wpAny_bind (m := tryCompare u _ (.ref x)) (wpAny_mono (two prog w _) (fun r s2 z => ?_) fun _ _ e => e)
    obtain ⟨z1, z2⟩ := z
    subst z1
    subst z2
    exact wpAny_bind (wpAny_rule (wpAny_bind (wpAny_of_eq hu (wpAny_pure h))))
  · rename_i q
    exact absurd (by simp) q
theorem rcUX (hA : A.units < cLine) (X : K.In s.heap) (I : PySem.W.InstAt s.heap x ox C od) (hm : PySem.W.mroIn K C (.type "object") = some true) (hs : PySem.W.findIn K (.ref C) "__eq__" = some (some (.builtin "object.__eq__")))
    (hT : s.TypeIs u T) (hsub : PySem.W.subIn K (.ref C) (.type T) = some false) (hu : isSame (.ref x) u = pure false) (hu' : isSame u (.ref x) = pure false)
    (two : ∀ (prog : Program) (w : World) (E : Value → Shared → Prop), wpAny (model prog w) A (tryCompare u "__eq__" (.ref x)) (fun r s' => r = none ∧ s' = s) E s) : RcAt A s u (.ref x) false := fun prog w E Q h => by
  simp only [richCompare, cmpInfo_Eq, hT.oneThing_none]
  try with_reducible refine wpAny_holding ?_
  refine wpAny_bind (wpAny_cRoomFor hA ?_)
  refine wpAny_bind (wpAny_typeOf hT ?_)
  refine wpAny_bind (I.type.here ?_)
  split
  · refine wpAny_bind ((PySem.W.looks_subIn X hsub).here ?_)
    simp only [Bool.false_eq_true, if_false, Bool.not_false, if_true]
    refine wpAny_bind (m := tryCompare u _ (.ref x)) (wpAny_mono (two prog w _) (fun r s2 z => ?_) fun _ _ e => e)
    obtain ⟨z1, z2⟩ := z
    subst z1
    subst z2
    refine wpAny_bind (m := tryCompare (.ref x) _ u) (tryXU X I hm hs hu ?_)
    exact wpAny_bind (wpAny_rule (wpAny_bind (wpAny_of_eq hu' (wpAny_pure h))))
  · rename_i q
    exact absurd (by simp) q
theorem two_none (x : Addr) (prog : Program) (w : World) (E : Value → Shared → Prop) : wpAny (model prog w) A (tryCompare .none "__eq__" (.ref x)) (fun r s' => r = none ∧ s' = s) E s :=
  wpAny_tryCompare_declines (show s.TypeIs .none "NoneType" from rfl) F.slot_NoneType_eq_refl (call_gives F.slot_NoneType_eq_refl rfl F.entry_NoneType_eq (F.args_NoneType_eq_2 _ _) (NoneType___eq___none_ref_0 x) ⟨rfl, rfl, rfl⟩)
theorem two_bool (b : Bool) (hx : s.heap.get? x = some (PySem.W.instObj C dx)) (prog : Program) (w : World) (E : Value → Shared → Prop) : wpAny (model prog w) A (tryCompare (.bool b) "__eq__" (.ref x)) (fun r s' => r = none ∧ s' = s) E s :=
  wpAny_tryCompare_declines (show s.TypeIs (.bool b) "bool" from rfl) F.slot_bool_eq_refl (call_meets F.slot_bool_eq_refl rfl F.entry_int_eq (F.args_int_eq_2 _ _) (int_bool b x C dx) ⟨hx, rfl, rfl, rfl⟩)
theorem two_str (b : Str) (t : Tok) (hx : s.heap.get? x = some (PySem.W.instObj C dx)) (prog : Program) (w : World) (E : Value → Shared → Prop) : wpAny (model prog w) A (tryCompare (.str b t) "__eq__" (.ref x)) (fun r s' => r = none ∧ s' = s) E s :=
  wpAny_tryCompare_declines (typeIs_str s b t) F.slot_str_eq_refl (call_meets F.slot_str_eq_refl (typeIs_str s b t) F.entry_str_eq (F.args_str_eq_2 _ _) (str_str b t x C dx) ⟨hx, rfl, rfl, rfl⟩)
/-! two instances of one class -/
theorem entryS {Q : Fin → Shared → Prop} (hq : Q (.done (.ret (.bool true))) s) : wpAny M A (Builtin.«object.__eq__» ⟨[.ref x, .ref x], []⟩) Q E s := objEq_entry_same hq
theorem callS {Q : Value → Shared → Prop} (X : K.In s.heap) (I : PySem.W.InstAt s.heap x ox C od) (hm : PySem.W.mroIn K C (.type "object") = some true) (hq : Q (.bool true) s) :
    wpAny (model prog w) A (call (.builtin "object.__eq__") [.ref x, .ref x]) Q E s :=
  wpAny_call (codeAny_call_builtin F.cmp_object.eq.plain F.cmpEntry_eq (PySem.W.check_slot F.cmpKind_eq F.cmpSplit_eq (I.type.andThen (PySem.W.looks_mroIn X hm)) (F.cmpArgs_eq _ _) (entryS hq)))
theorem callO {Q : Value → Shared → Prop} (X : K.In s.heap) (I : PySem.W.InstAt s.heap x ox C od) (J : PySem.W.InstAt s.heap y oy D oe) (hn : x ≠ y) (hm : PySem.W.mroIn K C (.type "object") = some true) (hq : Q .notImplemented s) :
    wpAny (model prog w) A (call (.builtin "object.__eq__") [.ref x, .ref y]) Q E s :=
  wpAny_call (codeAny_call_builtin F.cmp_object.eq.plain F.cmpEntry_eq (PySem.W.check_slot F.cmpKind_eq F.cmpSplit_eq (I.type.andThen (PySem.W.looks_mroIn X hm)) (F.cmpArgs_eq _ _) (objEq_entry_other hn I.at_ J.at_ (by rw [I.cls]; intro e; cases e) hq)))
theorem rcS (hA : A.units < cLine) (X : K.In s.heap) (I : PySem.W.InstAt s.heap x ox C od) (hm : PySem.W.mroIn K C (.type "object") = some true) (hs : PySem.W.findIn K (.ref C) "__eq__" = some (some (.builtin "object.__eq__"))) : RcAt A s (.ref x) (.ref x) true := fun prog w E Q h => by
  simp only [richCompare, cmpInfo_Eq, oneThing_ref]
  refine wpAny_holding (wpAny_bind (wpAny_cRoomFor hA ?_))
  refine wpAny_bind (I.type.here ?_)
  refine wpAny_bind (I.type.here ?_)
  rw [if_neg (by simp)]
  refine wpAny_bind (wpAny_pure ?_)
  simp only [Bool.false_eq_true, if_false, Bool.not_false, if_true]
  refine wpAny_bind (m := tryCompare (.ref x) _ (.ref x)) ?_
  unfold tryCompare
  exact wpAny_bind (HN.ifBound_objEq X I hs (callS X I hm (wpAny_pure (wpAny_pure h))))
theorem rcO (hA : A.units < cLine) (X : K.In s.heap) (I : PySem.W.InstAt s.heap x ox C od) (J : PySem.W.InstAt s.heap y oy C oe) (hn : x ≠ y) (hm : PySem.W.mroIn K C (.type "object") = some true) (hs : PySem.W.findIn K (.ref C) "__eq__" = some (some (.builtin "object.__eq__"))) : RcAt A s (.ref x) (.ref y) false := fun prog w E Q h => by
  simp only [richCompare, cmpInfo_Eq, oneThing_ref]
  refine wpAny_holding (wpAny_bind (wpAny_cRoomFor hA ?_))
  refine wpAny_bind (I.type.here ?_)
  refine wpAny_bind (J.type.here ?_)
  rw [if_neg (by simp)]
  refine wpAny_bind (wpAny_pure ?_)
  simp only [Bool.false_eq_true, if_false, Bool.not_false, if_true]
  refine wpAny_bind (m := tryCompare (.ref x) _ (.ref y)) ?_
  unfold tryCompare
  refine wpAny_bind (HN.ifBound_objEq X I hs (callO X I J hn hm (wpAny_pure ?_)))
  refine wpAny_bind (wpAny_bind (HN.ifBound_objEq X J hs (callO X J I hn.symm hm (wpAny_pure ?_))))
  exact wpAny_bind (wpAny_rule (wpAny_bind (wpAny_isSame_ref_other hn I.at_ J.at_ (by rw [I.cls]; intro e; cases e) (wpAny_pure h))))
theorem rcXN (hA : A.units < cLine) (X : K.In s.heap) (I : PySem.W.InstAt s.heap x (PySem.W.instObj C dx) C od) (hm : PySem.W.mroIn K C (.type "object") = some true) (hs : PySem.W.findIn K (.ref C) "__eq__" = some (some (.builtin "object.__eq__"))) (hsub : PySem.W.subIn K (.type "NoneType") (.ref C) = some false) : RcAt A s (.ref x) .none false := rcXU hA X I hm hs (show s.TypeIs .none "NoneType" from rfl) hsub rfl (two_none x)
theorem rcNX (hA : A.units < cLine) (X : K.In s.heap) (I : PySem.W.InstAt s.heap x (PySem.W.instObj C dx) C od) (hm : PySem.W.mroIn K C (.type "object") = some true) (hs : PySem.W.findIn K (.ref C) "__eq__" = some (some (.builtin "object.__eq__"))) (hsub : PySem.W.subIn K (.ref C) (.type "NoneType") = some false) : RcAt A s .none (.ref x) false := rcUX hA X I hm hs (show s.TypeIs .none "NoneType" from rfl) hsub rfl rfl (two_none x)
theorem rcXB (b : Bool) (hA : A.units < cLine) (X : K.In s.heap) (I : PySem.W.InstAt s.heap x (PySem.W.instObj C dx) C od) (hm : PySem.W.mroIn K C (.type "object") = some true) (hs : PySem.W.findIn K (.ref C) "__eq__" = some (some (.builtin "object.__eq__"))) (hsub : PySem.W.subIn K (.type "bool") (.ref C) = some false) : RcAt A s (.ref x) (.bool b) false := rcXU hA X I hm hs (show s.TypeIs (.bool b) "bool" from rfl) hsub rfl (two_bool b I.at_)
theorem rcBX (b : Bool) (hA : A.units < cLine) (X : K.In s.heap) (I : PySem.W.InstAt s.heap x (PySem.W.instObj C dx) C od) (hm : PySem.W.mroIn K C (.type "object") = some true) (hs : PySem.W.findIn K (.ref C) "__eq__" = some (some (.builtin "object.__eq__"))) (hsub : PySem.W.subIn K (.ref C) (.type "bool") = some false) : RcAt A s (.bool b) (.ref x) false := rcUX hA X I hm hs (show s.TypeIs (.bool b) "bool" from rfl) hsub rfl rfl (two_bool b I.at_)
theorem rcXS (b : Str) (t : Tok) (hA : A.units < cLine) (X : K.In s.heap) (I : PySem.W.InstAt s.heap x (PySem.W.instObj C dx) C od) (hm : PySem.W.mroIn K C (.type "object") = some true) (hs : PySem.W.findIn K (.ref C) "__eq__" = some (some (.builtin "object.__eq__"))) (hsub : PySem.W.subIn K (.type "str") (.ref C) = some false) : RcAt A s (.ref x) (.str b t) false := rcXU hA X I hm hs (typeIs_str s b t) hsub rfl (two_str b t I.at_)
theorem rcSX (b : Str) (t : Tok) (hA : A.units < cLine) (X : K.In s.heap) (I : PySem.W.InstAt s.heap x (PySem.W.instObj C dx) C od) (hm : PySem.W.mroIn K C (.type "object") = some true) (hs : PySem.W.findIn K (.ref C) "__eq__" = some (some (.builtin "object.__eq__"))) (hsub : PySem.W.subIn K (.ref C) (.type "str") = some false) : RcAt A s (.str b t) (.ref x) false := rcUX hA X I hm hs (typeIs_str s b t) hsub rfl rfl (two_str b t I.at_)
end
end OE

set_option Elab.async false
set_option linter.all false
set_option maxRecDepth 100000
/-! ### == beside instances; in lists of mixed data; is False; a list put together that changes -/
namespace DL
open PySem L2 Evl EX
/-! data of any kinds -/
mutual
def D.any : D → Bool
  | .non => true
  | .int _ => true
  | .bl _ => true
  | .str x => PyData.strOk x
  | .list ds => anyL ds
  | .tup ds => anyL ds
  | _ => false
def anyL : List D → Bool
  | [] => true
  | d :: ds => d.any && anyL ds
end
mutual
theorem pyA_lay : ∀ d : D, d.any = true → d.py.canLay0 = true
  | .non, _ => rfl
  | .int _, _ => rfl
  | .str x, h => by simpa [D.any, D.py, PyData.canLay0] using h
  | .list ds, h => by
    rw [D.any] at h
    rw [D.py, PyData.canLay0]
    exact pyLA_lay ds h
  | .tup ds, h => by
    rw [D.any] at h
    rw [D.py, PyData.canLay0]
    exact pyLA_lay ds h
  | .bl _, h => rfl
  | .ref _, h => by cases h
  | .ty _, h => by cases h
  | .scr _, h => by simp [D.any] at h
theorem pyLA_lay : ∀ ds : List D, anyL ds = true → PyData.canLayAll0 (pyL ds) = true
  | [], _ => rfl
  | d :: ds, h => by
    rw [anyL, Bool.and_eq_true] at h
    rw [pyL, PyData.canLayAll0, pyA_lay d h.1, pyLA_lay ds h.2]
    rfl
end
mutual
theorem pyA_deep : ∀ d : D, d.any = true → d.py.depth = d.deep
  | .non, _ => rfl
  | .int _, _ => rfl
  | .str x, h => rfl
  | .list ds, h => by
    rw [D.any] at h
    rw [D.py, PyData.depth, D.deep, pyLA_deep ds h]
  | .tup ds, h => by
    rw [D.any] at h
    rw [D.py, PyData.depth, D.deep, pyLA_deep ds h]
  | .bl _, h => rfl
  | .ref _, h => by cases h
  | .ty _, h => by cases h
  | .scr _, h => by simp [D.any] at h
theorem pyLA_deep : ∀ ds : List D, anyL ds = true → PyData.depthAll (pyL ds) = deepL ds
  | [], _ => rfl
  | d :: ds, h => by
    rw [anyL, Bool.and_eq_true] at h
    rw [pyL, PyData.depthAll, deepL, pyA_deep d h.1, pyLA_deep ds h.2]
end
section
variable {K : PySem.W.Frag} {B H : Hp}
mutual
theorem dpA_of (e : Ex B H) : ∀ {v : V} {d : D}, RdD K B v d → d.any = true → Dp K H v d.py
  | _, _, .non, _ => .non
  | _, _, .int i, _ => .int i
  | _, _, .str x, _ => .str x
  | _, _, .lst ha r, h => by
    rw [D.any] at h
    rw [D.py]
    exact .lst (sq_of (e _ _ ha)) (dpLA_of e r h)
  | _, _, .tup ha r, h => by
    rw [D.any] at h
    rw [D.py]
    exact .tup (ex_t e ha) (dpLA_of e r h)
  | _, _, .bl b, h => .bl b
  | _, _, .ref _, h => by cases h
  | _, _, .ty _, h => by cases h
  | _, _, .scr _ _, h => by simp [D.any] at h
theorem dpLA_of (e : Ex B H) : ∀ {vs : List V} {ds : List D}, RdL K B vs ds → anyL ds = true → DpAll K H vs (pyL ds)
  | _, _, .nil, _ => .nil
  | _, _, .cons h r, hn => by
    rw [anyL, Bool.and_eq_true] at hn
    rw [pyL]
    exact .cons (dpA_of e h hn.1) (dpLA_of e r hn.2)
end
end
def oNinA : DR2 := fun x y S k => ∃ ds, y = .list ds ∧ x.any = true ∧ anyL ds = true ∧ x.deep ≤ 64 ∧ deepL ds ≤ 60 ∧ k (.bl (!(pyL ds).any fun z => PyData.eqv z x.py)) S
section
variable {K : PySem.W.Frag}
theorem si_ninA : Sim2 K (rNotInD K) oNinA := fun B S H v w x y k Q r rx ry h1 q => by
  obtain ⟨ds, rfl, hx, hds, h64, h60, h1⟩ := h1
  have hl : (D.list ds).any = true := by rw [D.any]; exact hds
  have dl := dpA_of r.ex ry hl
  rw [D.py] at dl
  refine ⟨_, _, dpA_of r.ex rx hx, dl, ?_, ?_, ?_⟩
  · unfold SeqAt.shaped
    rw [pyA_lay _ hx, pyA_deep _ hx, decide_eq_true h64]
    rfl
  · unfold SeqAt.shaped
    have := pyA_lay _ hl
    have h2 := pyA_deep _ hl
    rw [D.py] at this h2
    rw [this, h2, D.deep, decide_eq_true (by omega)]
    rfl
  · exact q _ S _ B H h1 (Ex.refl B) r (.bl _)
/-- x + y, lists, as a list that changes -/
def oCatN : DR2 := fun x y S k => match x, y with
  | .list a, .list b => a.length + b.length ≤ 100000 ∧ ∀ p, S p = none → k (.ref p) (put S p (.lst (a ++ b)))
  | _, _ => False
theorem si_catN : Sim2 K rCat oCatN := fun B S H v w x y k Q r rx ry h1 q => by
  unfold oCatN at h1
  split at h1
  · obtain ⟨p, xs, rfl, hp, rl⟩ := rd_list rx
    obtain ⟨p2, ys, rfl, hp2, rl2⟩ := rd_list ry
    refine ⟨p, p2, xs, ys, rfl, rfl, r.ex _ _ hp, r.ex _ _ hp2, sz_of (by rw [rl.length, rl2.length]; exact h1.1), fun z hz => ?_⟩
    exact q _ _ _ B _ (h1.2 z (r.fresh hz).2) (Ex.refl B) (r.newS hz (.lst (rl.append rl2))) (.ref z)
  · exact h1.elim
/-! x is False -/
def rIsBl : R2 := fun x y H Q => ∃ b, y = .bl b ∧ ((∃ c, x = .bl c ∧ Q (.bl (decide (c = b))) H) ∨ ((x = .non ∨ (∃ i, x = .int i) ∨ (∃ s, x = .str s) ∨ ∃ a, x = .ref a) ∧ Q (.bl false) H))
theorem op_isBl' {X : Cx} : OpR X (compareOp .Is) rIsBl := by
  intro pins s σ H x y v u Q I rx ry h
  obtain ⟨b, rfl, h⟩ := h
  rcases h with ⟨c, rfl, q⟩ | ⟨h, q⟩
  · cases rx
    cases ry
    by_cases e : c = b
    · subst e
      exact wpAny_is_self rfl ⟨.bl true, H, I, rfl, by simpa using q⟩
    · exact wpAny_is_other rfl (fun z => e (Value.bool.inj z)) ⟨.bl false, H, I, rfl, by simpa [e] using q⟩
  · cases ry
    rcases h with rfl | ⟨i, rfl⟩ | ⟨z, rfl⟩ | ⟨a, rfl⟩
    · cases rx; exact wpAny_is_other rfl (fun z => nomatch z) ⟨.bl false, H, I, rfl, q⟩
    · obtain ⟨t, rfl⟩ := rx; exact wpAny_is_other rfl (fun z => nomatch z) ⟨.bl false, H, I, rfl, q⟩
    · obtain ⟨t, rfl⟩ := rx; exact wpAny_is_other rfl (fun z => nomatch z) ⟨.bl false, H, I, rfl, q⟩
    · cases rx; exact wpAny_is_other rfl (fun z => nomatch z) ⟨.bl false, H, I, rfl, q⟩
def oIsBl : DR2 := fun x y S k => match y with
  | .bl b => match x with
    | .bl c => k (.bl (decide (c = b))) S
    | .non => k (.bl false) S
    | .int _ => k (.bl false) S
    | .str _ => k (.bl false) S
    | .ref _ => k (.bl false) S
    | _ => False
  | _ => False
theorem si_isBl : Sim2 K rIsBl oIsBl := fun B S H v w x y k Q r rx ry h1 q => by
  unfold oIsBl at h1
  split at h1
  · rename_i b
    have hw : w = .bl b := by cases ry; rfl
    refine ⟨b, hw, ?_⟩
    split at h1
    · rename_i c
      have hv : v = .bl c := by cases rx; rfl
      exact .inl ⟨c, hv, q _ S _ B H h1 (Ex.refl B) r (.bl _)⟩
    · exact .inr ⟨.inl (rd_non rx), q _ S _ B H h1 (Ex.refl B) r (.bl _)⟩
    · exact .inr ⟨.inr (.inl ⟨_, rd_int rx⟩), q _ S _ B H h1 (Ex.refl B) r (.bl _)⟩
    · exact .inr ⟨.inr (.inr (.inl ⟨_, rd_str rx⟩)), q _ S _ B H h1 (Ex.refl B) r (.bl _)⟩
    · exact .inr ⟨.inr (.inr (.inr ⟨_, rd_ref rx⟩)), q _ S _ B H h1 (Ex.refl B) r (.bl _)⟩
    · exact h1.elim
  · exact h1.elim
end
/-! == beside instances of one class -/
structure EqC (K : PySem.W.Frag) (C : Addr) : Prop where
  hm : PySem.W.mroIn K C (.type "object") = some true
  hs : PySem.W.findIn K (.ref C) "__eq__" = some (some (.builtin "object.__eq__"))
  s1 : PySem.W.subIn K (.type "NoneType") (.ref C) = some false
  s2 : PySem.W.subIn K (.type "bool") (.ref C) = some false
  s3 : PySem.W.subIn K (.type "str") (.ref C) = some false
  s4 : PySem.W.subIn K (.ref C) (.type "NoneType") = some false
  s5 : PySem.W.subIn K (.ref C) (.type "bool") = some false
  s6 : PySem.W.subIn K (.ref C) (.type "str") = some false
inductive Fl3 : V → Prop where
  | non : Fl3 .non
  | bl (b : Bool) : Fl3 (.bl b)
  | str (s : Str) : Fl3 (.str s)
def rEqO (C : Addr) : R2 := fun x y H Q => rEq x y H Q ∨ (∃ a dx fs, x = .ref a ∧ H a = some (.ins C dx fs) ∧ Fl3 y ∧ Q (.bl false) H) ∨ (∃ a dx fs, y = .ref a ∧ H a = some (.ins C dx fs) ∧ Fl3 x ∧ Q (.bl false) H) ∨
  ∃ a dx fs b dy gs, x = .ref a ∧ y = .ref b ∧ H a = some (.ins C dx fs) ∧ H b = some (.ins C dy gs) ∧ Q (.bl (decide (a = b))) H
theorem op_eqO {K : PySem.W.Frag} {X : Cx} {C : Addr} (hC : EqC K C) (hu : X.A.units + 1 < cLine) (hk : X.K = K := by rfl) : OpR X (compareOp .Eq) (rEqO C) := by
  subst hk
  intro pins s σ H x y v u Q I rx ry h
  have hA : X.A.units < cLine := by omega
  rcases h with h | ⟨a, dx, fs, rfl, ha, hy, q⟩ | ⟨a, dx, fs, rfl, ha, hx, q⟩ | ⟨a, dx, fs, b, dy, gs, rfl, rfl, ha, hb, q⟩
  · exact op_eq pins s σ H x y v u Q I rx ry h
  · cases rx
    obtain ⟨mA, O, _⟩ := ins_get I.hok ha
    obtain ⟨od, J, _⟩ := O.look
    cases hy with
    | non => cases ry; exact OE.rcXN hA I.kIn J hC.hm hC.hs hC.s1 _ _ _ _ (fin_bl I q rfl)
    | bl b => cases ry; exact OE.rcXB b hA I.kIn J hC.hm hC.hs hC.s2 _ _ _ _ (fin_bl I q rfl)
    | str z => obtain ⟨t, rfl⟩ := ry; exact OE.rcXS z t hA I.kIn J hC.hm hC.hs hC.s3 _ _ _ _ (fin_bl I q rfl)
  · cases ry
    obtain ⟨mA, O, _⟩ := ins_get I.hok ha
    obtain ⟨od, J, _⟩ := O.look
    cases hx with
    | non => cases rx; exact OE.rcNX hA I.kIn J hC.hm hC.hs hC.s4 _ _ _ _ (fin_bl I q rfl)
    | bl b => cases rx; exact OE.rcBX b hA I.kIn J hC.hm hC.hs hC.s5 _ _ _ _ (fin_bl I q rfl)
    | str z => obtain ⟨t, rfl⟩ := rx; exact OE.rcSX z t hA I.kIn J hC.hm hC.hs hC.s6 _ _ _ _ (fin_bl I q rfl)
  · cases rx
    cases ry
    obtain ⟨mA, O, _⟩ := ins_get I.hok ha
    obtain ⟨od, J, _⟩ := O.look
    obtain ⟨mB, O2, _⟩ := ins_get I.hok hb
    obtain ⟨oe, J2, _⟩ := O2.look
    by_cases e : a = b
    · subst e
      exact OE.rcS hA I.kIn J hC.hm hC.hs _ _ _ _ (fin_bl I q (by simp))
    · exact OE.rcO hA I.kIn J J2 e hC.hm hC.hs _ _ _ _ (fin_bl I q (by simp [e]))
inductive EqA (C : Addr) (S : Sto) : D → D → Bool → Prop where
  | flat {x y : D} {b : Bool} (h : sEq x y = some b) : EqA C S x y b
  | rn {a dx : Addr} {fs : List (Str × D)} (h : S a = some (.ins C dx fs)) : EqA C S (.ref a) .non false
  | rb {a dx : Addr} {fs : List (Str × D)} (h : S a = some (.ins C dx fs)) (b : Bool) : EqA C S (.ref a) (.bl b) false
  | rs {a dx : Addr} {fs : List (Str × D)} (h : S a = some (.ins C dx fs)) (s : Str) : EqA C S (.ref a) (.str s) false
  | nr {a dx : Addr} {fs : List (Str × D)} (h : S a = some (.ins C dx fs)) : EqA C S .non (.ref a) false
  | br {a dx : Addr} {fs : List (Str × D)} (h : S a = some (.ins C dx fs)) (b : Bool) : EqA C S (.bl b) (.ref a) false
  | sr {a dx : Addr} {fs : List (Str × D)} (h : S a = some (.ins C dx fs)) (s : Str) : EqA C S (.str s) (.ref a) false
  | rr {a dx b dy : Addr} {fs gs : List (Str × D)} (h : S a = some (.ins C dx fs)) (h2 : S b = some (.ins C dy gs)) : EqA C S (.ref a) (.ref b) (decide (a = b))
def oEqO (C : Addr) : DR2 := fun x y S k => ∃ b, EqA C S x y b ∧ k (.bl b) S
theorem si_eqO {K : PySem.W.Frag} {C : Addr} : Sim2 K (rEqO C) (oEqO C) := fun B S H v w x y k Q r rx ry h1 q => by
  obtain ⟨b, hb, h1⟩ := h1
  have ans := q _ S (.bl b) B H h1 (Ex.refl B) r (.bl b)
  cases hb with
  | flat h =>
    obtain ⟨h2, h3⟩ := sEq_ok h rx ry
    exact .inl ⟨h2, by rw [h3]; exact ans⟩
  | rn h =>
    obtain ⟨gs, hg, _⟩ := r.ins h
    cases rd_ref rx
    cases rd_non ry
    exact .inr (.inl ⟨_, _, _, rfl, hg, .non, ans⟩)
  | rb h c =>
    obtain ⟨gs, hg, _⟩ := r.ins h
    cases rd_ref rx
    have hw : w = .bl c := by cases ry; rfl
    subst hw
    exact .inr (.inl ⟨_, _, _, rfl, hg, .bl c, ans⟩)
  | rs h c =>
    obtain ⟨gs, hg, _⟩ := r.ins h
    cases rd_ref rx
    cases rd_str ry
    exact .inr (.inl ⟨_, _, _, rfl, hg, .str c, ans⟩)
  | nr h =>
    obtain ⟨gs, hg, _⟩ := r.ins h
    cases rd_ref ry
    cases rd_non rx
    exact .inr (.inr (.inl ⟨_, _, _, rfl, hg, .non, ans⟩))
  | br h c =>
    obtain ⟨gs, hg, _⟩ := r.ins h
    cases rd_ref ry
    have hv : v = .bl c := by cases rx; rfl
    subst hv
    exact .inr (.inr (.inl ⟨_, _, _, rfl, hg, .bl c, ans⟩))
  | sr h c =>
    obtain ⟨gs, hg, _⟩ := r.ins h
    cases rd_ref ry
    cases rd_str rx
    exact .inr (.inr (.inl ⟨_, _, _, rfl, hg, .str c, ans⟩))
  | rr h h2 =>
    obtain ⟨gs, hg, _⟩ := r.ins h
    obtain ⟨gs2, hg2, _⟩ := r.ins h2
    cases rd_ref rx
    cases rd_ref ry
    exact .inr (.inr (.inr ⟨_, _, _, _, _, _, rfl, rfl, hg, hg2, ans⟩))
section
variable {S : Sto} {k : DK} {C : Addr} {x y : D} {b c : Bool} {s : Str} {i : Int} {a : Addr}
theorem x_eqO : oEqO C x y S k = st2 (oEqO C) x y S k ⟨⟩ := propext Iff.rfl
theorem eqOOf (h : EqA C S x y b) (q : k (.bl b) S) : st2 (oEqO C) x y S k ⟨⟩ := ⟨b, h, q⟩
theorem x_ninA : oNinA x y S k = st2 oNinA x y S k ⟨⟩ := propext Iff.rfl
theorem ninAOf {ds : List D} (hx : x.any = true) (hd : anyL ds = true) (h64 : x.deep ≤ 64) (h60 : deepL ds ≤ 60) (q : k (.bl (!(pyL ds).any fun z => PyData.eqv z x.py)) S) : st2 oNinA x (.list ds) S k ⟨⟩ := ⟨ds, rfl, hx, hd, h64, h60, q⟩
theorem x_catN {l m : List D} : oCatN (.list l) (.list m) S k = few (l.length + m.length) (fresh S (fun p => k (.ref p) (put S p (.lst (l ++ m)))) ⟨⟩) ⟨⟩ := propext Iff.rfl
theorem x_isBB : oIsBl (.bl c) (.bl b) S k = k (.bl (decide (c = b))) S := propext Iff.rfl
theorem x_isBN : oIsBl .non (.bl b) S k = k (.bl false) S := propext Iff.rfl
theorem x_isBI : oIsBl (.int i) (.bl b) S k = k (.bl false) S := propext Iff.rfl
theorem x_isBS : oIsBl (.str s) (.bl b) S k = k (.bl false) S := propext Iff.rfl
theorem x_isBR : oIsBl (.ref a) (.bl b) S k = k (.bl false) S := propext Iff.rfl
end
end DL

set_option Elab.async false
set_option linter.all false
set_option maxRecDepth 100000
/-! ### sorted(dict), its keys numbers, any number of them -/
namespace SD
open PySem PySem.Spec PyProof.Rows L2
/-- what is collected of a dict of numbers -/
theorem ints_got {vs : List (Key × Value)} {ks : List Int} {acc : Array Value} (hkeys : vs.map (·.1) = ks.map Sum.inl) (hal : acc.toList.length = ks.length) (hacc : ∀ (j : Nat) (v : Value), acc[j]? = some v → ∃ (k : Key) (x : Value), vs[j]? = some (k, x) ∧ keyIs k v = true) : IntsAre acc.toList ks := ints_each hal fun j v e => by
  obtain ⟨k, x, e1, e2⟩ := hacc j v (by rw [← Array.getElem?_toList]; exact e)
  have e3 : (ks.map Sum.inl)[j]? = some k := by rw [← hkeys, List.getElem?_map, e1]; rfl
  rw [List.getElem?_map] at e3
  obtain ⟨y, e4, e5⟩ := Option.map_eq_some_iff.mp e3
  subst e5
  rcases keyIs_shape e2 with ⟨i, t, ek, ev⟩ | ⟨z, t, ek, ev⟩
  · cases ek
    exact ⟨y, t, e4, ev⟩
  · cases ek
variable {X : Cx}
def rSortDL : List V → Hp → VK → Prop := fun xs H Q => ∃ (a : Addr) (kvs : List (Key × V)) (ks : List Int), xs = [.ref a] ∧ Rd H a (.dK kvs) ∧ kvs.map (·.1) = ks.map Sum.inl ∧ ks.length ≤ 100000 ∧
    ∀ (ys : List Int) (p : Addr), ys.Perm ks → ys.Pairwise (· ≤ ·) → H p = none → Q (.ref p) (upd H p (.lst (ys.map V.int)))
theorem call_sortedDL (hcalm : X.calm = true) : CallR X (.builtin "sorted") rSortDL := by
  intro pins s σ H xs us Q I r ⟨a, kvs, ks, ex, hd, hks, hz, q⟩
  subst ex
  obtain ⟨u, eu, rx⟩ := vals1 r
  subst eu
  cases rx
  obtain ⟨z, lo, vs, rel, dd⟩ := dk_rd I.hok hd
  obtain ⟨ep, hat⟩ := dd.dictAt
  have hkeys : vs.map (·.1) = ks.map Sum.inl := rel.keys.symm.trans hks
  have hl : vs.length = ks.length := by simpa using congrArg List.length hkeys
  have hsz : ks.length ≤ sizeLine := by rw [sizeLine_eq]; omega
  refine Calls.call_function_entry kind_sorted plain_sorted entry_sorted (args_sorted1 _) ?_
  unfold Builtin.«sorted»
  refine wpAny_bind (m := checkCount "sorted" 1 1 _) (wpAny_pure ?_)
  refine wpAny_bind (PySem.W.kdu_collect (A := X.A.in1) (PySem.W.kdl_dict (knd := mixKind X.prog X.w) (kvs := vs) (ep := ep) lo) (I.ok.hd hcalm) hat (by rw [hl]; exact hsz) fun h' tk acc hk hacc => ?_)
  have hal : acc.toList.length = ks.length := by rw [Array.length_toList, hacc.1, hl]
  have hS : IntsAre acc.toList ks := ints_got hkeys hal hacc.2
  have I1 : Inv X pins σ H { s with heap := h', toks := tk } := I.kept hk
  refine wpAny_bind (wpAny_newList ?_ (by rw [hal]; exact hsz))
  have hoL : (h'.push (seqObj "list" acc.toList.toArray 0)).get? h'.objs.size = some (seqObj "list" acc.toList.toArray 0) := Heap.get?_push_size _ rfl
  show wpAny _ _ _ _ _ { s with heap := h'.push (seqObj "list" acc.toList.toArray 0), toks := tk }
  refine wpAny_bind (wpAny_holding (wpAny_call_entry slot_list_sort ⟨_, hoL, rfl⟩ entry_list_sort
    (SrtO.list_sort_ord (s := { s with heap := h'.push (seqObj "list" acc.toList.toArray 0), toks := tk }) SrtO.swo_int hoL (by rw [hal]; exact hsz) (fun h2 => SrtO.ints_sortable hS h2) fun out g1 g2 => ⟨_, rfl, ?_⟩) (args_list_sort _)))
  obtain ⟨k1, k2, k3⟩ := SrtO.ints_out hS g1 g2
  obtain ⟨e', he'⟩ := sortedHeap_at (vs := acc.toList) (out := out.toArray) hoL
  have hlen : ((out.map SrtO.iv).map V.int).length ≤ sizeLine := by
    rw [List.length_map, k2.length_eq]
    exact hsz
  refine wpAny_pure ⟨_, rfl, .ref h'.objs.size, upd H h'.objs.size (.lst ((out.map SrtO.iv).map V.int)), I1.laid (t' := tk) (fun b u e => ?_) (Nat.le_refl _)
    (show ObjOk X.prog X.w _ _ _ (.lst ((out.map SrtO.iv).map V.int)) from ⟨hlen, out, e', vals_of_ints k1, he'⟩), rfl, q _ _ k2 k3 (I1.hok.fresh (Nat.le_refl _))⟩
  have hb : b < h'.objs.size := Heap.lt_size e
  rw [sortedHeap_old (Nat.ne_of_lt hb) (by rw [size_push']; exact Nat.lt_succ_of_lt hb)]
  exact Heap.get?_push_of_some _ e
end SD
namespace DL
open PySem L2 Evl EX
section
variable {K : PySem.W.Frag}
def oSortDL : List D → Sto → DK → Prop := fun xs S k => match xs with
  | [.ref a] => ∃ (kvs : List (Key × D)) (ks : List Int), S a = some (.dct kvs) ∧ kvs.map (·.1) = ks.map Sum.inl ∧ ks.length ≤ 100000 ∧ ∀ ys : List Int, ys.Perm ks → ys.Pairwise (· ≤ ·) → k (.list (ys.map D.int)) S
  | _ => False
theorem si_sortDL : SimC K SD.rSortDL oSortDL := fun B S H vs xs k Q r rx h1 q => by
  unfold oSortDL at h1
  split at h1
  · obtain ⟨v, rfl, rv⟩ := rdl1 rx
    cases rd_ref rv
    obtain ⟨kvs, ks, hs, hk, hl, h1⟩ := h1
    obtain ⟨gs, hg, rg⟩ := r.dct hs
    refine ⟨_, gs, ks, rfl, .inl hg, by rw [rdkv_keys rg]; exact hk, hl, fun ys p pm pw hp => ?_⟩
    have n := r.new (o := .lst (ys.map V.int)) hp
    exact q _ S _ _ _ (h1 ys pm pw) n.2 n.1 (.lst upd_same (rdl_ints _))
  · exact h1.elim
end
theorem x_sortDL {S : Sto} {k : DK} {xs : List D} : oSortDL xs S k = stC oSortDL xs S k ⟨⟩ := propext Iff.rfl
end DL

set_option Elab.async false
set_option linter.all false
set_option maxRecDepth 100000
/-! ### xs[i] = v for a list that changes; comprehensions that change the store -/
namespace DL
open PySem L2 Evl EX
def setq (o i v : D) (S : Sto) (k : Sto → Prop) (_ : Tag k) : Prop := ∃ p ds n j, o = .ref p ∧ i = .int n ∧ S p = some (.lst ds) ∧ ixN ds.length n = some j ∧ k (put S p (.lst (ds.set j v)))
def gSubD (dO dI : DE) : DG := fun x δ S k => dO δ S fun o S1 => dI δ S1 fun i S2 => setq o i x S2 (fun S3 => k δ S3) ⟨⟩
section
variable {X : Cx} {K : PySem.W.Frag} {o i : Expr} {dO dI : DE} {pos : Pos}
theorem dg_sub (ho : PE X o (lE K dO)) (hi : PE X i (lE K dI))
    (ha : ∀ v, assign (.Subscript o i pos) X.env v = (do
      let ov ← holding [v] (eval o X.env)
      let iv ← holding [v, ov] (eval i X.env)
      standAt pos
      holding [v, ov, iv] (setItem ov iv v)
      release [v, ov, iv] []) := by intro _; rfl) : PG X (.Subscript o i pos) (lG K (gSubD dO dI)) :=
  pgOf (pg_sub ho hi set_list ha) fun v σ H Q ⟨B, δ, S, x, k, s, r, rx, h, q⟩ => ⟨B, δ, S, _, s, r, h, fun y S1 w B1 H1 h1 e1 r1 d1 => ⟨B1, δ, S1, _, s.mono e1, r1, h1, fun z S2 u B2 H2 h2 e2 r2 d2 => by
    obtain ⟨p, ds, n, j, rfl, rfl, hp, hj, h2⟩ := h2
    obtain ⟨xs, hx, rl⟩ := r2.lst hp
    cases rd_ref d1
    cases rd_int d2
    exact ⟨p, xs, n, j, rfl, rfl, hx, by rw [rl.length]; exact hj, q δ _ σ B2 _ h2 (e1.trans e2) (s.mono (e1.trans e2)) (r2.mut hp (.lst (RdL.set (rx.mono (e1.trans e2)) j rl)))⟩⟩⟩
end
section
variable {δ : Dst} {S : Sto} {k : DK} {dO dI : DE} {p : Addr} {ds : List D} {v x : D}
theorem x_gSub {kg : Dst → Sto → Prop} : gSubD dO dI x δ S kg = dO δ S fun o S1 => dI δ S1 fun i S2 => setq o i x S2 (fun S3 => kg δ S3) ⟨⟩ := propext Iff.rfl
theorem setOf {k : Sto → Prop} {n : Int} {j : Nat} (h : S p = some (.lst ds)) (hj : ixN ds.length n = some j) (q : k (put S p (.lst (ds.set j v)))) : setq (.ref p) (.int n) v S k ⟨⟩ := ⟨p, ds, n, j, rfl, rfl, h, hj, q⟩
/-- a comprehension whose elements change the store: I, the store without the list that grows -/
theorem lcOfS {gc : DGc} {t : DT} {de : DE} {vs : List Nat} (I : Nat → List D → Sto → Prop) (hl : ds.length < 100000) (h0 : I 0 [] S)
    (hs : ∀ p, S p = none → ∀ n d acc S', ds[n]? = some d → S' p = none → I n acc S' → gc d (wipeD δ vs) fun δ2 => t δ2 (put S' p (.lst acc)) fun b S2 => branch b (de δ2 S2 (fun y S3 => ∃ S4, S4 p = none ∧ S3 = put S4 p (.lst acc) ∧ I (n + 1) (acc ++ [y]) S4)) (∃ S4, S4 p = none ∧ S2 = put S4 p (.lst acc) ∧ I (n + 1) acc S4) ⟨⟩)
    (hd : ∀ acc S', I ds.length acc S' → k (.list acc) S') : lcC ds gc t de vs δ S k ⟨⟩ :=
  ⟨hl, fun p hp => ⟨I, h0, fun n d acc S' hd' hp' hI => hs p hp n d acc S' hd' hp' hI, fun acc S' _ hI => hd acc S' hI⟩⟩
end
end DL

set_option Elab.async false
set_option linter.all false
set_option maxRecDepth 100000
/-! ### dict(pairs) -/
namespace DL
open PySem L2 Evl EX
def gmerge (kvs : List (Key × D)) (l : List (Key × D)) : List (Key × D) := l.foldl (fun a kv => gput a kv.1 kv.2) kvs
/-- dict([(k, v), ..]) -/
def oDictP : List D → Sto → DK → Prop := fun xs S k => match xs with
  | [.list ds] => ∃ kvs : List (Key × D), ds = kvs.map (fun kv => .tup [dK kv.1, kv.2]) ∧ ∀ p, S p = none → k (.ref p) (put S p (.dct (gmerge [] kvs)))
  | _ => False
section
variable {K : PySem.W.Frag} {B : Hp}
theorem rd_dK {v : V} {k : Key} (h : RdD K B v (dK k)) : v = kV k := by
  cases k with
  | inl i => exact rd_int h
  | inr s => exact rd_str h
theorem pairs_of : ∀ {kvs : List (Key × D)} {vs : List V}, RdL K B vs (kvs.map fun kv => D.tup [dK kv.1, kv.2]) → ∃ (ps : List Addr) (gs : List (Key × V)), vs = ps.map V.ref ∧ Paired (fun p kv => SqT K B p [kV kv.1, kv.2]) ps gs ∧ RdKV K B gs kvs
  | [], _, h => by
    cases h
    exact ⟨[], [], rfl, .nil, .nil⟩
  | kv :: kvs, _, h => by
    cases h with
    | cons h1 r =>
      obtain ⟨ps, gs, rfl, pr, rk⟩ := pairs_of r
      obtain ⟨a, xs, rfl, ha, rl⟩ := rd_tup h1
      cases rl with
      | cons k1 r2 =>
        obtain ⟨v2, rfl, h2⟩ := rdl1 r2
        cases rd_dK k1
        exact ⟨a :: ps, (kv.1, v2) :: gs, rfl, .cons ha pr, .cons ⟨rfl, h2⟩ rk⟩
theorem merge_rd : ∀ {gs : List (Key × V)} {kvs : List (Key × D)} {gs0 : List (Key × V)} {kvs0 : List (Key × D)}, RdKV K B gs kvs → RdKV K B gs0 kvs0 → RdKV K B (mergeK gs0 gs) (gmerge kvs0 kvs)
  | _, _, _, _, .nil, h0 => h0
  | (a, v) :: gs, (b, d) :: kvs, gs0, kvs0, .cons h r, h0 => by
    have h1 : a = b := h.1
    subst h1
    show RdKV K B (mergeK (putK gs0 a v) gs) (gmerge (gput kvs0 a d) kvs)
    exact merge_rd (gs := gs) (kvs := kvs) r (rdkv_gput h.2 h0)
theorem pairs_ex {H : Hp} (e : Ex B H) : ∀ {ps : List Addr} {gs : List (Key × V)}, Paired (fun p kv => SqT K B p [kV kv.1, kv.2]) ps gs → Paired (fun p kv => SqT K H p [kV kv.1, kv.2]) ps gs
  | _, _, .nil => .nil
  | _, _, .cons h r => .cons (ex_t e h) (pairs_ex e r)
theorem si_dictP : SimC K (rDictP K) oDictP := fun B S H vs xs k Q r rx h1 q => by
  unfold oDictP at h1
  split at h1
  · obtain ⟨v, rfl, rv⟩ := rdl1 rx
    obtain ⟨kvs, rfl, h1⟩ := h1
    obtain ⟨a, ys, rfl, ha, rl⟩ := rd_list rv
    obtain ⟨ps, gs, rfl, pr, rk⟩ := pairs_of rl
    refine ⟨a, ps, gs, rfl, sq_of (r.ex _ _ ha), ?_, fun p hp => ?_⟩
    · exact pairs_ex r.ex pr
    · exact q _ _ _ B _ (h1 p (r.fresh hp).2) (Ex.refl B) (r.newS hp (.dct (merge_rd rk .nil))) (.ref p)
  · exact h1.elim
end
theorem x_dictP {S : Sto} {k : DK} {xs : List D} : oDictP xs S k = stC oDictP xs S k ⟨⟩ := propext Iff.rfl
end DL

set_option Elab.async false
set_option linter.all false
set_option maxRecDepth 100000
/-! ### loops over what stands in the store: a list that stays as it is meanwhile, a dict's keys (locked) -/
namespace DL
open PySem L2 Evl EX
/-- what is walked, and what must hold of the store for it to go on -/
abbrev DIS := Dst → Sto → (List D → (Sto → Prop) → Sto → Prop) → Prop
structure ItOkS (K : PySem.W.Frag) (B : Hp) (J : It) (ds : List D) (Φ : Sto → Prop) : Prop where
  go : ∀ i B1 S H, Ex B B1 → R K B1 S H → Φ S → i < ds.length → J.go i H
  stop : ∀ i B1 S H, Ex B B1 → R K B1 S H → Φ S → ds.length ≤ i → J.stop i H
  yld : ∀ i H x H' B1 S, Ex B B1 → R K B1 S H → Φ S → i < ds.length → J.yld i H x H' → ∃ d B2, ds[i]? = some d ∧ Ex B1 B2 ∧ R K B2 S H' ∧ RdD K B2 x d
def lIS (K : PySem.W.Frag) (di : DIS) : TI := fun σ H Rr => ∃ B δ S k, Sl K B σ δ ∧ R K B S H ∧ di δ S k ∧ ∀ ds Φ S' B' H' J, k ds Φ S' → Ex B B' → R K B' S' H' → ItOkS K B' J ds Φ → Rr J H'
def dForS (di : DIS) (g : DG) (b : DS) : DS := fun D δ S => di δ S fun ds Φ S1 => ∃ I : Nat → Dst → Sto → Prop, I 0 δ S1 ∧ Φ S1 ∧
  (∀ n d δ' S', ds[n]? = some d → Φ S' → I n δ' S' → g d δ' S' fun δ2 S2 => b { D with nx := fun δ3 S3 => Φ S3 ∧ I (n + 1) δ3 S3, ct := fun δ3 S3 => Φ S3 ∧ I (n + 1) δ3 S3, bk := D.nx } δ2 S2) ∧ ∀ δ' S', Φ S' → I ds.length δ' S' → D.nx δ' S'
section
variable {X : Cx} {K : PySem.W.Frag} {d : DS} {pos : Pos}
theorem ds_forS {iter tg : Expr} {body : List Stmt} {di : DIS} {g : DG} (hp : PassesOwn (model X.prog X.w) X.A X.env X.xe) (hc : X.calm = true) (hi : PI X tg iter (lIS K di)) (hg : PG X tg (lG K g)) (hb : PSs X body (lS K d)) (hs : ∀ x, foldedSetIterable iter X.env x = pure x := by intro _; rfl)
    : PS X (.For tg iter body [] pos) (lS K (dForS di g d)) := psOf (ps_for hp hc hi hg hb hs) fun E σ H ⟨B, δ, S, D, s, r, h, l⟩ =>
  ⟨B, δ, S, _, s, r, h, fun ds Φ S1 B1 H1 J ⟨I, h0, p0, hs, hd⟩ e1 r1 it => by
    refine ⟨fun i m σ' H' => m = ds.length - i ∧ i ≤ ds.length ∧ ∃ B2 δ2 S2, Ex B1 B2 ∧ Sl K B2 σ' δ2 ∧ R K B2 S2 H' ∧ Φ S2 ∧ I i δ2 S2, ⟨ds.length, rfl, Nat.zero_le _, B1, δ, S1, Ex.refl B1, s.mono e1, r1, p0, h0⟩, ?_⟩
    rintro i m σ' H' ⟨rfl, hi, B2, δ2, S2, e2, s2, r2, p2, hI⟩
    by_cases hlt : i < ds.length
    · refine .inr ⟨it.go i B2 S2 H' e2 r2 p2 hlt, fun σ3 H3 => ∃ B3 δ3 S3, Ex B1 B3 ∧ Sl K B3 σ3 δ3 ∧ R K B3 S3 H3 ∧ Φ S3 ∧ I (i + 1) δ3 S3, fun σ3 H3 hn => ⟨ds.length - (i + 1), by omega, rfl, by omega, hn⟩, fun x H3 hy => ?_⟩
      obtain ⟨d', B3, hd', e3, r3, rd⟩ := it.yld i H' x H3 B2 S2 e2 r2 p2 hlt hy
      refine ⟨B3, δ2, S2, d', _, s2.mono e3, r3, rd, hs i d' δ2 S2 hd' p2 hI, fun δ4 S4 σ4 B4 H4 h4 e4 s4 r4 => ⟨B4, δ4, S4, _, s4, r4, h4, ?_⟩⟩
      have e14 : Ex B1 B4 := e2.trans (e3.trans e4)
      exact ⟨fun δ5 S5 σ5 B5 H5 h5 e5 s5 r5 => ⟨B5, δ5, S5, e14.trans e5, s5, r5, h5⟩, fun x S v B' H' hk e' => l.rt x S v B' H' hk (e1.trans (e14.trans e')), fun δ5 S5 σ5 B5 H5 h5 e5 s5 r5 => l.nx δ5 S5 σ5 B5 H5 h5 (e1.trans (e14.trans e5)) s5 r5,
        fun δ5 S5 σ5 B5 H5 h5 e5 s5 r5 => ⟨B5, δ5, S5, e14.trans e5, s5, r5, h5⟩⟩
    · have ei : i = ds.length := by omega
      subst ei
      exact .inl ⟨it.stop _ B2 S2 H' e2 r2 p2 (Nat.le_refl _), l.nx δ2 S2 σ' B2 H' (hd δ2 S2 p2 hI) (e1.trans e2) s2 r2⟩⟩
/-- a list of the store -/
def diSL (de : DE) : DIS := fun δ S k => de δ S fun x S1 => ∃ p ds, x = .ref p ∧ S1 p = some (.lst ds) ∧ k ds (fun S' => S' p = some (.lst ds)) S1
theorem di_stl {tg l : Expr} {de : DE} (h : PE X l (lE K de)) (hk : X.K = K := by rfl) : PI X tg l (lIS K (diSL de)) := piOf (piL h hk) fun σ H Q ⟨B, δ, S, k, s, r, h, q⟩ =>
  ⟨B, δ, S, _, s, r, h, fun x S1 v B1 H1 ⟨p, ds, hx, hp, h1⟩ e1 r1 d1 => by
    subst hx
    cases rd_ref d1
    obtain ⟨xs, hx, rl⟩ := r1.lst hp
    refine ⟨p, rfl, ⟨xs, sq_of hx⟩, q _ _ S1 B1 H1 _ h1 e1 r1 ⟨fun i B2 S H e r2 hS hi => ?_, fun i B2 S H e r2 hS hi => ?_, fun i H x H' B2 S e r2 hS hi hy => ?_⟩⟩
    · obtain ⟨ys, hy, ry⟩ := r2.lst hS
      have : i < ys.length := by rw [ry.length]; exact hi
      exact ⟨ys, ys[i], sq_of hy, List.getElem?_eq_getElem this⟩
    · obtain ⟨ys, hy, ry⟩ := r2.lst hS
      exact ⟨ys, sq_of hy, by rw [ry.length]; exact hi⟩
    · obtain ⟨rfl, hy⟩ := hy
      obtain ⟨ys, hz, ry⟩ := r2.lst hS
      obtain ⟨d, hd, rd⟩ := ry.getV (hy ys (sq_of hz))
      exact ⟨d, B2, hd, Ex.refl B2, r2, rd⟩⟩
/-- a dict's keys -/
def diKeys (de : DE) : DIS := fun δ S k => de δ S fun x S1 => ∃ p od xs kvs, x = .ref p ∧ S1 p = some (.lck od xs kvs) ∧ k (kvs.map fun kv => dK kv.1) (fun S' => S' p = some (.lck od xs kvs)) S1
theorem di_keys {tg l : Expr} {de : DE} (h : PE X l (lE K de)) : PI X tg l (lIS K (diKeys de)) := piOf (pi_keys h) fun σ H Q ⟨B, δ, S, k, s, r, h, q⟩ =>
  ⟨B, δ, S, _, s, r, h, fun x S1 v B1 H1 ⟨p, od, xs, kvs, hx, hp, h1⟩ e1 r1 d1 => by
    subst hx
    cases rd_ref d1
    obtain ⟨hx, rl⟩ := r1.lck hp
    have hlen : xs.length = kvs.length := rdkv_len rl
    refine ⟨p, od, rfl, .inl ⟨xs, hx, q _ _ S1 B1 H1 _ h1 e1 r1 ⟨fun i B2 S H e r2 hS hi => ?_, fun i B2 S H e r2 hS hi => ?_, fun i H x H' B2 S e r2 hS hi hy => ?_⟩⟩⟩
    · obtain ⟨hy, ry⟩ := r2.lck hS
      exact ⟨hy, by rw [List.length_map] at hi; omega⟩
    · obtain ⟨hy, ry⟩ := r2.lck hS
      exact ⟨hy, by rw [List.length_map] at hi; omega⟩
    · obtain ⟨rfl, k, v, hkv, rfl⟩ := hy
      have hk := rdkv_keys rl
      refine ⟨dK k, B2, ?_, Ex.refl B2, r2, rd_kV k⟩
      have e2 : (kvs.map fun kv => dK kv.1) = (kvs.map (·.1)).map dK := by rw [List.map_map]; rfl
      rw [e2, ← hk, List.map_map, List.getElem?_map, hkv]
      rfl⟩
/-- a statement while a dict is locked -/
def dLock (d : DS) : DS := fun E δ S => ∃ a kvs, S a = some (.dct kvs) ∧ ∀ od xs, d ⟨fun δ' S' => S' a = some (.lck od xs kvs) ∧ E.nx δ' (put S' a (.dct kvs)), fun v S' => S' a = some (.lck od xs kvs) ∧ E.rt v (put S' a (.dct kvs)),
  fun δ' S' => S' a = some (.lck od xs kvs) ∧ E.bk δ' (put S' a (.dct kvs)), fun δ' S' => S' a = some (.lck od xs kvs) ∧ E.ct δ' (put S' a (.dct kvs))⟩ δ (put S a (.lck od xs kvs))
theorem ds_lock {st : Stmt} (h : PS X st (lS K d)) : PS X st (lS K (dLock d)) := psOf (ps_lock h) fun E σ H ⟨B, δ, S, D, s, r, ⟨a, kvs, ha, h⟩, l⟩ => by
  obtain ⟨xs, hx, rl⟩ := r.dct ha
  refine ⟨a, .dK xs, hx, trivial, fun od => ⟨B, δ, _, _, s, r.mut ha (.lck (od := od) rl), h od xs, ?_⟩⟩
  have back : ∀ {B' : Hp} {S' : Sto} {H' : Hp}, R K B' S' H' → S' a = some (.lck od xs kvs) → H' a = some (.frz od (.dK xs)) ∧ R K B' (put S' a (.dct kvs)) (upd H' a (.dK xs)) := fun r' h' => ⟨(r'.lck h').1, r'.mut h' (.dct (r'.lck h').2)⟩
  exact ⟨fun δ' S' σ' B' H' ⟨h1, h2⟩ e' s' r' => ⟨(back r' h1).1, l.nx δ' _ σ' B' _ h2 e' s' (back r' h1).2⟩,
    fun x S' v B' H' ⟨h1, h2⟩ e' r' rd' => ⟨(back r' h1).1, l.rt x _ v B' _ h2 e' (back r' h1).2 rd'⟩,
    fun δ' S' σ' B' H' ⟨h1, h2⟩ e' s' r' => ⟨(back r' h1).1, l.bk δ' _ σ' B' _ h2 e' s' (back r' h1).2⟩,
    fun δ' S' σ' B' H' ⟨h1, h2⟩ e' s' r' => ⟨(back r' h1).1, l.ct δ' _ σ' B' _ h2 e' s' (back r' h1).2⟩⟩
end
/-! stepping -/
def forSC (ds : List D) (Φ : Sto → Prop) (g : DG) (b : DS) (E : DEnds) (δ : Dst) (S : Sto) (_ : Tag (E, g, b)) : Prop := ∃ I : Nat → Dst → Sto → Prop, I 0 δ S ∧ Φ S ∧
  (∀ n d δ' S', ds[n]? = some d → Φ S' → I n δ' S' → g d δ' S' fun δ2 S2 => b { E with nx := fun δ3 S3 => Φ S3 ∧ I (n + 1) δ3 S3, ct := fun δ3 S3 => Φ S3 ∧ I (n + 1) δ3 S3, bk := E.nx } δ2 S2) ∧ ∀ δ' S', Φ S' → I ds.length δ' S' → E.nx δ' S'
def slq (x : D) (S : Sto) (k : List D → (Sto → Prop) → Sto → Prop) (_ : Tag k) : Prop := ∃ p ds, x = .ref p ∧ S p = some (.lst ds) ∧ k ds (fun S' => S' p = some (.lst ds)) S
def skq (x : D) (S : Sto) (k : List D → (Sto → Prop) → Sto → Prop) (_ : Tag k) : Prop := ∃ p od xs kvs, x = .ref p ∧ S p = some (.lck od xs kvs) ∧ k (kvs.map fun kv => dK kv.1) (fun S' => S' p = some (.lck od xs kvs)) S
def lockq (d : DS) (E : DEnds) (δ : Dst) (S : Sto) (_ : Tag (d, E)) : Prop := dLock d E δ S
section
variable {δ : Dst} {S : Sto} {E : DEnds} {de : DE} {d b : DS} {g : DG} {di : DIS} {ds : List D} {Φ : Sto → Prop} {a p : Addr} {kvs : List (Key × D)} {ka : List D → (Sto → Prop) → Sto → Prop}
theorem x_forS : dForS di g b E δ S = di δ S fun ds Φ S1 => forSC ds Φ g b E δ S1 ⟨⟩ := propext Iff.rfl
theorem x_diSL : diSL de δ S ka = de δ S fun x S1 => slq x S1 ka ⟨⟩ := propext Iff.rfl
theorem x_diKeys : diKeys de δ S ka = de δ S fun x S1 => skq x S1 ka ⟨⟩ := propext Iff.rfl
theorem x_lock : dLock d E δ S = lockq d E δ S ⟨⟩ := propext Iff.rfl
theorem slOf (h : S p = some (.lst ds)) (q : ka ds (fun S' => S' p = some (.lst ds)) S) : slq (.ref p) S ka ⟨⟩ := ⟨p, ds, rfl, h, q⟩
theorem skOf {od : Obj} {xs : List (Key × V)} (h : S p = some (.lck od xs kvs)) (q : ka (kvs.map fun kv => dK kv.1) (fun S' => S' p = some (.lck od xs kvs)) S) : skq (.ref p) S ka ⟨⟩ := ⟨p, od, xs, kvs, rfl, h, q⟩
theorem forSOf (I : Nat → Dst → Sto → Prop) (h0 : I 0 δ S) (p0 : Φ S) (hs : ∀ n d δ' S', ds[n]? = some d → Φ S' → I n δ' S' → g d δ' S' fun δ2 S2 => b { E with nx := fun δ3 S3 => Φ S3 ∧ I (n + 1) δ3 S3, ct := fun δ3 S3 => Φ S3 ∧ I (n + 1) δ3 S3, bk := E.nx } δ2 S2)
    (hd : ∀ δ' S', Φ S' → I ds.length δ' S' → E.nx δ' S') : forSC ds Φ g b E δ S ⟨⟩ := ⟨I, h0, p0, hs, hd⟩
theorem lockOf (h : S a = some (.dct kvs)) (q : ∀ od xs, d ⟨fun δ' S' => S' a = some (.lck od xs kvs) ∧ E.nx δ' (put S' a (.dct kvs)), fun v S' => S' a = some (.lck od xs kvs) ∧ E.rt v (put S' a (.dct kvs)),
  fun δ' S' => S' a = some (.lck od xs kvs) ∧ E.bk δ' (put S' a (.dct kvs)), fun δ' S' => S' a = some (.lck od xs kvs) ∧ E.ct δ' (put S' a (.dct kvs))⟩ δ (put S a (.lck od xs kvs))) : lockq d E δ S ⟨⟩ := ⟨a, kvs, h, q⟩
end
section
variable {S : Sto} {k : DK} {x y p : D}
open Classical in
theorem neSame (hx : res S x = p) (hy : res S y = p) (h1 : p.nb = true) (h3 : p.deep ≤ 64) (h : k (.bl false) S) : st2 (oEqD true) x y S k ⟨⟩ := neDOf hx hy h1 h1 (by rw [Nat.min_self]; exact h3) (by rw [decide_eq_true rfl]; exact h)
open Classical in
theorem eqSame (hx : res S x = p) (hy : res S y = p) (h1 : p.nb = true) (h3 : p.deep ≤ 64) (h : k (.bl true) S) : st2 (oEqD false) x y S k ⟨⟩ := eqDOf hx hy h1 h1 (by rw [Nat.min_self]; exact h3) (by rw [decide_eq_true rfl]; exact h)
end
/-! ### the store read otherwise -/
def Conv (S S1 : Sto) : Prop := ∀ (K : PySem.W.Frag) (B H : Hp), R K B S H → ∃ B', Ex B B' ∧ R K B' S1 H
def convSp (f : SpD) : SpD := fun ds S k x => ∃ S1, Conv S S1 ∧ f ds S1 k x
theorem conv_sp {P : Program} {w : World} {K : PySem.W.Frag} {mg : Str → Option Value} {base : Heap} {k : Nat} {f : Addr} {fd : FuncData} {ps : List Str} {sp : SpD} (F : FnOk P w K mg base CX0 k f fd ps (lSp K sp)) : FnOk P w K mg base CX0 k f fd ps (lSp K (convSp sp)) :=
  F.imp fun vs H Q E ⟨B, ds, S, q, qx, rd, r, ⟨S1, hc, h⟩, hq, hx⟩ => by
    obtain ⟨B', e, r'⟩ := hc K B H r
    exact ⟨B', ds, S1, q, qx, rd.mono e, r', h, fun x S' v B2 H' a b => hq x S' v B2 H' a (e.trans b), fun x o S' B2 H' fs a b => hx x o S' B2 H' fs a (e.trans b)⟩
def orSp (f g : SpD) : SpD := fun ds S k x => f ds S k x ∨ g ds S k x
theorem or_sp {P : Program} {w : World} {K : PySem.W.Frag} {mg : Str → Option Value} {base : Heap} {k : Nat} {f : Addr} {fd : FuncData} {ps : List Str} {sp sq : SpD} (F : FnOk P w K mg base CX0 k f fd ps (lSp K sp)) (G : FnOk P w K mg base CX0 k f fd ps (lSp K sq)) : FnOk P w K mg base CX0 k f fd ps (lSp K (orSp sp sq)) :=
  ⟨fun vs H Q E ⟨B, ds, S, q, qx, rd, r, h, hq⟩ => by
    rcases h with h | h
    · exact F.len vs H Q E ⟨B, ds, S, q, qx, rd, r, h, hq⟩
    · exact G.len vs H Q E ⟨B, ds, S, q, qx, rd, r, h, hq⟩, fun A outer s H args us vs Q E hr he hb hv ⟨B, ds, S, q, qx, rd, r, h, hq⟩ => by
    rcases h with h | h
    · exact F.run A outer s H args us vs Q E hr he hb hv ⟨B, ds, S, q, qx, rd, r, h, hq⟩
    · exact G.run A outer s H args us vs Q E hr he hb hv ⟨B, ds, S, q, qx, rd, r, h, hq⟩⟩
end DL

set_option linter.all false
/-! ### k25, the plain law: a row of those that nobody holds any more (no program in sight) -/
namespace QM
/-- how often o is held by those of 1..m that are not done -/
def tot (P : Nat → List Nat) (done : List Nat) (o : Nat) : Nat → Nat
  | 0 => 0
  | m + 1 => tot P done o m + if m + 1 ∈ done then 0 else (P (m + 1)).count o
variable {P : Nat → List Nat} {done : List Nat} {o n : Nat}
theorem tot_cons (hn : n ∉ done) : ∀ m, tot P done o m = tot P (n :: done) o m + if 1 ≤ n ∧ n ≤ m then (P n).count o else 0
  | 0 => by
    rw [tot, tot, if_neg (by omega)]
  | m + 1 => by
    rw [tot, tot, tot_cons hn m]
    by_cases e : m + 1 = n
    · subst e
      rw [if_neg hn, if_pos (List.mem_cons_self ..), if_neg (by omega), if_pos (by omega)]
    · have h1 : (m + 1 ∈ n :: done) ↔ (m + 1 ∈ done) := by simp [e]
      simp only [h1]
      by_cases h : 1 ≤ n ∧ n ≤ m
      · rw [if_pos h, if_pos (show 1 ≤ n ∧ n ≤ m + 1 by omega)]
        omega
      · rw [if_neg h, if_neg (show ¬ (1 ≤ n ∧ n ≤ m + 1) by omega)]
        omega
theorem tot_mem {m : Nat} (h1 : 1 ≤ n) (hm : n ≤ m) (hn : n ∉ done) (ho : o ∈ P n) : 0 < tot P done o m := by
  rw [tot_cons hn m, if_pos ⟨h1, hm⟩]
  have := List.count_pos_iff.mpr ho
  omega
theorem tot_pos : ∀ m, 0 < tot P done o m → ∃ n, 1 ≤ n ∧ n ≤ m ∧ n ∉ done ∧ o ∈ P n
  | 0, h => by rw [tot] at h; omega
  | m + 1, h => by
    rw [tot] at h
    by_cases e : m + 1 ∈ done
    · rw [if_pos e] at h
      obtain ⟨n, a, b, c, d⟩ := tot_pos m h
      exact ⟨n, a, by omega, c, d⟩
    · rw [if_neg e] at h
      by_cases z : 0 < (P (m + 1)).count o
      · exact ⟨m + 1, by omega, Nat.le_refl _, e, List.count_pos_iff.mp z⟩
      · obtain ⟨n, a, b, c, d⟩ := tot_pos m (by omega)
        exact ⟨n, a, by omega, c, d⟩
theorem tot_congr {done' : List Nat} (h : ∀ n, n ∈ done ↔ n ∈ done') : ∀ m, tot P done o m = tot P done' o m
  | 0 => rfl
  | m + 1 => by rw [tot, tot, tot_congr h m]; simp only [h (m + 1)]
/-- the row: done are those whose turn was, cur what is left of the parts of the one whose turn is -/
structure Row (P : Nat → List Nat) (m : Nat) (done cur order : List Nat) (holds : Nat → Int) : Prop where
  first : order.head? = some 1
  pre : done <+: order
  nd : order.Nodup
  inm : ∀ o ∈ order, 1 ≤ o ∧ o ≤ m
  hold : ∀ o, 2 ≤ o → o ≤ m → holds o = (tot P done o m + cur.count o : Nat)
  zero : ∀ o, 2 ≤ o → o ≤ m → (o ∈ order ↔ holds o = 0)
  cin : ∀ o ∈ cur, 2 ≤ o ∧ o ≤ m
/-- the graph: who holds comes ahead, each but the first is held -/
structure Gr (P : Nat → List Nat) (m : Nat) : Prop where
  up : ∀ n, 1 ≤ n → n ≤ m → ∀ o ∈ P n, n < o ∧ o ≤ m
  held : ∀ o, 2 ≤ o → o ≤ m → ∃ n, 1 ≤ n ∧ n < o ∧ o ∈ P n
variable {m : Nat} {cur order : List Nat} {holds : Nat → Int}
theorem Row.begin (G : Gr P m) (hm : 1 ≤ m) (hh : ∀ o, 2 ≤ o → o ≤ m → holds o = (tot P [] o m : Nat)) : Row P m [] [] [1] holds :=
  ⟨rfl, List.nil_prefix, by simp, fun o h => by rw [List.mem_singleton.mp h]; omega, fun o a b => by rw [hh o a b]; simp, fun o a b => by
    constructor
    · intro z; have := List.mem_singleton.mp z; omega
    · intro z
      obtain ⟨n, x, y, w⟩ := G.held o a b
      have := tot_mem (P := P) (done := []) (m := m) x (by omega) (by simp) w
      rw [hh o a b] at z
      omega, fun _ z => by cases z⟩
/-- the next one's turn -/
theorem Row.turn (R : Row P m done [] order holds) (G : Gr P m) (hn : order[done.length]? = some n) : Row P m (done ++ [n]) (P n) order holds := by
  have hmem : n ∈ order := List.mem_of_getElem? hn
  have hb := R.inm n hmem
  obtain ⟨tl, htl⟩ := R.pre
  have hnd : n ∉ done := fun z => by
    have nd := R.nd
    rw [← htl] at hn nd
    rw [List.getElem?_append_right (Nat.le_refl _), Nat.sub_self] at hn
    obtain ⟨_, _, h3⟩ := List.nodup_append.mp nd
    exact h3 n z n (List.mem_of_getElem? hn) rfl
  refine ⟨R.first, ?_, R.nd, R.inm, fun o a b => ?_, R.zero, fun o ho => ?_⟩
  · rw [← htl] at hn ⊢
    rw [List.getElem?_append_right (Nat.le_refl _), Nat.sub_self] at hn
    cases tl with
    | nil => cases hn
    | cons x r =>
      cases hn
      exact ⟨r, by simp⟩
  · rw [R.hold o a b, tot_cons hnd m, if_pos hb, tot_congr (done := done ++ [n]) (done' := n :: done) (by intro z; simp [or_comm])]
    simp
  · have := G.up n hb.1 hb.2 o ho
    omega
/-- one of the parts is loosed -/
theorem Row.part {c : Nat} {cur : List Nat} (R : Row P m done (c :: cur) order holds) (holds' : Nat → Int) (h1 : holds' c = holds c - 1) (h2 : ∀ o, o ≠ c → holds' o = holds o) :
    (holds' c = 0 → Row P m done cur (order ++ [c]) holds') ∧ (holds' c ≠ 0 → Row P m done cur order holds') := by
  have hc := R.cin c (List.mem_cons_self ..)
  have hpos : holds c ≠ 0 := by
    rw [R.hold c hc.1 hc.2, List.count_cons_self]
    omega
  have hno : c ∉ order := fun z => hpos ((R.zero c hc.1 hc.2).mp z)
  have hold : ∀ o, 2 ≤ o → o ≤ m → holds' o = (tot P done o m + cur.count o : Nat) := fun o a b => by
    by_cases e : o = c
    · subst e
      rw [h1, R.hold o a b, List.count_cons_self]
      omega
    · rw [h2 o e, R.hold o a b, List.count_cons_of_ne (Ne.symm e)]
  have cin : ∀ o ∈ cur, 2 ≤ o ∧ o ≤ m := fun o ho => R.cin o (List.mem_cons_of_mem _ ho)
  constructor
  · intro z
    refine ⟨?_, R.pre.trans (List.prefix_append ..), ?_, ?_, hold, ?_, cin⟩
    · cases ho : order with
      | nil => have := R.first; rw [ho] at this; cases this
      | cons x r => have := R.first; rw [ho] at this; exact this
    · exact List.nodup_append.mpr ⟨R.nd, by simp, fun a ha b hb e => hno (by rw [← List.mem_singleton.mp hb, ← e]; exact ha)⟩
    · intro o ho
      rcases List.mem_append.mp ho with x | x
      · exact R.inm o x
      · rw [List.mem_singleton.mp x]; omega
    · intro o a b
      by_cases e : o = c
      · subst e
        simp [z]
      · rw [h2 o e, ← R.zero o a b]
        simp [e]
  · intro z
    refine ⟨R.first, R.pre, R.nd, R.inm, hold, fun o a b => ?_, cin⟩
    by_cases e : o = c
    · subst e
      exact ⟨fun y => absurd y hno, fun y => absurd y z⟩
    · rw [h2 o e]
      exact R.zero o a b
/-- at the end all have had their turn -/
theorem Row.all (R : Row P m order [] order holds) (G : Gr P m) : ∀ o, 1 ≤ o → o ≤ m → o ∈ order := by
  intro o
  induction o using Nat.strongRecOn with
  | ind o ih =>
    intro a b
    by_cases e : o = 1
    · subst e
      exact List.mem_of_mem_head? R.first
    · rw [R.zero o (by omega) b, R.hold o (by omega) b]
      by_cases z : 0 < tot P order o m
      · obtain ⟨n, x, y, w, v⟩ := tot_pos m z
        exact absurd (ih n (G.up n x y o v).1 x y) w
      · simp
        omega
theorem Row.le (R : Row P m done cur order holds) : order.length ≤ m := by
  have h : ∀ (m : Nat) (l : List Nat), l.Nodup → (∀ o ∈ l, 1 ≤ o ∧ o ≤ m) → l.length ≤ m := by
    intro m
    induction m with
    | zero =>
      intro l _ h
      cases l with
      | nil => exact Nat.le_refl _
      | cons x r => have := h x (List.mem_cons_self ..); omega
    | succ m ih =>
      intro l nd h
      by_cases e : m + 1 ∈ l
      · have := ih (l.erase (m + 1)) (nd.erase _) fun o ho => by
          have h1 := h o (List.mem_of_mem_erase ho)
          have : o ≠ m + 1 := fun z => (List.Nodup.mem_erase_iff nd).mp ho |>.1 z
          omega
        rw [List.length_erase_of_mem e] at this
        omega
      · have := ih l nd fun o ho => by
          have h1 := h o ho
          have : o ≠ m + 1 := fun z => e (z ▸ ho)
          omega
        omega
  exact h m order R.nd R.inm
end QM

set_option linter.all false
/-! ### k25: the row as a function of how many turns there were -/
namespace QM
def fset {α : Type} (f : Nat → α) (n : Nat) (v : α) : Nat → α := fun i => if i = n then v else f i
theorem fset_same {α : Type} {f : Nat → α} {n : Nat} {v : α} : fset f n v n = v := by unfold fset; rw [if_pos rfl]
theorem fset_ne {α : Type} {f : Nat → α} {n i : Nat} {v : α} (h : i ≠ n) : fset f n v i = f i := by unfold fset; rw [if_neg h]
abbrev Qs := List Nat × (Nat → Int)
def step (s : Qs) (c : Nat) : Qs := (if s.2 c - 1 = 0 then s.1 ++ [c] else s.1, fset s.2 c (s.2 c - 1))
def turn (P : Nat → List Nat) (s : Qs) (n : Nat) : Qs := (P n).foldl step s
def st (P : Nat → List Nat) (h0 : Nat → Int) : Nat → Qs
  | 0 => ([1], h0)
  | i + 1 => match (st P h0 i).1[i]? with
    | some n => turn P (st P h0 i) n
    | none => st P h0 i
variable {P : Nat → List Nat} {m : Nat} {h0 : Nat → Int}
theorem row_step {done cur : List Nat} {c : Nat} {s : Qs} (R : Row P m done (c :: cur) s.1 s.2) : Row P m done cur (step s c).1 (step s c).2 := by
  obtain ⟨h1, h2⟩ := R.part (fset s.2 c (s.2 c - 1)) fset_same fun o e => fset_ne e
  unfold step
  by_cases z : s.2 c - 1 = 0
  · rw [if_pos z]
    exact h1 (by rw [fset_same]; exact z)
  · rw [if_neg z]
    exact h2 (by rw [fset_same]; exact z)
theorem row_fold {done : List Nat} : ∀ {cur : List Nat} {s : Qs}, Row P m done cur s.1 s.2 → Row P m done [] (cur.foldl step s).1 (cur.foldl step s).2
  | [], _, R => R
  | _ :: cur, _, R => row_fold (cur := cur) (row_step R)
theorem fold_pre : ∀ (cur : List Nat) (s : Qs), s.1 <+: (cur.foldl step s).1
  | [], s => List.prefix_refl _
  | c :: cur, s => by
    refine List.IsPrefix.trans ?_ (fold_pre cur (step s c))
    unfold step
    split
    · exact List.prefix_append ..
    · exact List.prefix_refl _
theorem st_some {i n : Nat} (h : (st P h0 i).1[i]? = some n) : st P h0 (i + 1) = turn P (st P h0 i) n := by
  show (match (st P h0 i).1[i]? with
    | some n => turn P (st P h0 i) n
    | none => st P h0 i) = _
  rw [h]
theorem st_none {i : Nat} (h : (st P h0 i).1[i]? = none) : st P h0 (i + 1) = st P h0 i := by
  show (match (st P h0 i).1[i]? with
    | some n => turn P (st P h0 i) n
    | none => st P h0 i) = _
  rw [h]
theorem st_row (G : Gr P m) (hm : 1 ≤ m) (hh : ∀ o, 2 ≤ o → o ≤ m → h0 o = (tot P [] o m : Nat)) : ∀ i, i ≤ (st P h0 i).1.length → Row P m ((st P h0 i).1.take i) [] (st P h0 i).1 (st P h0 i).2
  | 0, _ => Row.begin G hm hh
  | i + 1, h => by
    cases e : (st P h0 i).1[i]? with
    | none =>
      rw [st_none e] at h
      rw [List.getElem?_eq_none_iff] at e
      omega
    | some n =>
      have hlt := (List.getElem?_eq_some_iff.mp e).1
      have R := st_row G hm hh i (by omega)
      have hl : ((st P h0 i).1.take i).length = i := by rw [List.length_take]; omega
      have R1 := R.turn G (n := n) (by rw [hl]; exact e)
      have e1 : (st P h0 i).1.take i ++ [n] = (st P h0 i).1.take (i + 1) := by rw [List.take_add_one, e]; rfl
      rw [e1] at R1
      have R2 := row_fold R1
      rw [st_some e]
      have pre := fold_pre (P n) (st P h0 i)
      have e2 : (turn P (st P h0 i) n).1.take (i + 1) = (st P h0 i).1.take (i + 1) := by
        obtain ⟨t, ht⟩ := pre
        show ((P n).foldl step (st P h0 i)).1.take (i + 1) = _
        rw [← ht, List.take_append_of_le_length (by omega)]
      rw [e2]
      exact R2
theorem st_stay {i : Nat} (h : (st P h0 i).1.length ≤ i) : ∀ j, st P h0 (i + j) = st P h0 i
  | 0 => rfl
  | j + 1 => by
    have ih := st_stay h j
    rw [← Nat.add_assoc, st_none (by rw [ih]; exact List.getElem?_eq_none (by omega)), ih]
theorem st_one {i j : Nat} (h1 : (st P h0 i).1.length = i) (h2 : (st P h0 j).1.length = j) : i = j := by
  rcases Nat.lt_trichotomy i j with h | h | h
  · have := st_stay (P := P) (h0 := h0) (Nat.le_of_eq h1) (j - i)
    rw [show i + (j - i) = j by omega] at this
    rw [this] at h2
    omega
  · exact h
  · have := st_stay (P := P) (h0 := h0) (Nat.le_of_eq h2) (i - j)
    rw [show j + (i - j) = i by omega] at this
    rw [this] at h1
    omega
end QM

set_option Elab.async false
set_option linter.all false
set_option maxRecDepth 100000
namespace K
open PySem L2 Evl EX DL
def top (i : Nat) : Stmt := PySem.Challenge.pw_snakehall_k25_long_rows.main.body.getD i (.Pass ⟨0, 0, 0, 0⟩)
abbrev s__law_mixed : Stmt := top 5
abbrev N__law_mixed : List Str := ["_law_number", "_law_k", "_law_once", "_law_twice"]
theorem sc__law_mixed : FnScope N__law_mixed ["_law_number", "_law_k"] (defScope s__law_mixed) := ⟨rfl, rfl, rfl, by decide +kernel, rfl, by decide +kernel, by decide +kernel⟩
abbrev s__law_well : Stmt := top 6
abbrev N__law_well : List Str := ["_law_script", "_law_first", "_law_cells"]
theorem sc__law_well : FnScope N__law_well ["_law_script", "_law_first"] (defScope s__law_well) := ⟨rfl, rfl, rfl, by decide +kernel, rfl, by decide +kernel, by decide +kernel⟩
abbrev s__law_dig : Stmt := top 7
abbrev N__law_dig : List Str := ["_law_well_here", "_law_most", "_law_number"]
theorem sc__law_dig : FnScope N__law_dig ["_law_well_here", "_law_most"] (defScope s__law_dig) := ⟨rfl, rfl, rfl, by decide +kernel, rfl, by decide +kernel, by decide +kernel⟩
structure TxtW (mg : Str → Option Value) : Prop where
  len : mg "len" = none
  abs : mg "abs" = none
section
variable {P : Program} {w : World} {K : PySem.W.Frag} {mg : Str → Option Value} {base : Heap}
local macro_rules | `(tactic| walk_at "dl") => `(tactic| try simp only [↓x_fld, ↓x_fldS, ↓x_fldA, ↓x_meth, ↓x_make, ↓x_dget, ↓x_din, ↓x_dget1, ↓x_dget2, ↓x_dpop, ↓x_dput, ↓x_listD, ↓x_sortDI, ↓x_lenD, ↓x_isiC, x_icS, x_icI, x_icB, x_icN, x_ioS, x_ioI, x_ioB, x_ioN, ↓x_gSub, ↓x_sortDL, ↓x_eqO, ↓x_ninA, x_catN, x_isBB, x_isBN, x_isBI, x_isBS, x_isBR, ↓x_seq, ↓x_nx, ↓x_pass, ↓x_brk, ↓x_cnt, ↓x_drop, ↓x_ret, ↓x_retN, ↓x_ifS, ↓x_set, ↓x_asg, ↓x_gN, ↓x_gT, ↓x_gsC, ↓x_gsN, ↓x_var, x_rdv, ↓x_c, ↓x_op, ↓x_test, x_tst, ↓x_and, ↓x_or, ↓x_not, ↓x_andV, ↓x_orV, ↓x_notV, x_tstV, ↓x_ifE, x_true, x_false, ↓x_nil, ↓x_cons, ↓x_tup, ↓x_lst, ↓x_new, ↓x_newD, ↓x_call, ↓x_cb, x_oI, x_oIc, x_oS, x_addS, x_isN, x_notN, x_eqI, x_eqS, x_eqIS, x_eqSI, x_eqNS, x_neI, x_neS, x_neB, x_eqB, x_few, x_need, ↓x_ix, x_lenS, x_ixL0, x_ixT0, x_ixT1, x_ixT2, x_ixT3, x_ixT4, x_lenL, x_lenT, x_lenC, x_listL, x_listT, x_tupL, x_tupT, x_strI, x_strS, x_int1, x_intB, x_I1, x_I2, x_cat, x_catT, ↓x_split, ↓x_for, ↓x_cut, ↓x_lc, ↓x_whl, ↓x_diL, ↓x_diT, ↓x_diS, x_itL, x_itC, x_itT, x_itS, ↓x_diR1, ↓x_diR2, ↓x_diE, x_enmL, x_enmC, ↓x_gcN, ↓x_gcT, ↓x_yes, ↓x_ml, ↓x_ms, x_strq, x_ss, x_ssc, x_ssi, ↓x_join, ↓x_aug, x_st2I, ↓x_sl, ↓x_noP, ↓x_part, x_intq, x_slL, x_slC, x_slS, ↓x_in, x_inT, x_inL, x_ninT, x_ninL, x_inN, x_inSS, x_inSI, x_inIS, x_inII, ↓x_sg, x_sgS, x_nsgS, ↓x_eqD, ↓x_inDD, x_mulS, ↓x_isi, x_isiS, x_isiI, x_isiB, x_isiN, x_isiL, x_isiT, ↓x_isTT, x_itI, x_itStr, x_itN, x_itB, x_itLst, x_itTup, ↓x_any, ↓x_all, ↓x_sum, ↓x_srtI, ↓x_srtS, ↓x_intS, ↓x_lenRf, ↓x_tupRf, ↓x_frz', x_flS, x_flI, x_flN, x_flB, x_cs_bool, x_isB_NoneType_bool, x_isB_bool_bool, x_isB_int_bool, x_isB_str_bool, x_isB_list_bool, x_isB_tuple_bool, x_isB_dict_bool, x_cs_int, x_isB_NoneType_int, x_isB_bool_int, x_isB_int_int, x_isB_str_int, x_isB_list_int, x_isB_tuple_int, x_isB_dict_int, x_cs_str, x_isB_NoneType_str, x_isB_bool_str, x_isB_int_str, x_isB_str_str, x_isB_list_str, x_isB_tuple_str, x_isB_dict_str, x_cs_list, x_isB_NoneType_list, x_isB_bool_list, x_isB_int_list, x_isB_str_list, x_isB_list_list, x_isB_tuple_list, x_isB_dict_list, x_cs_tuple, x_isB_NoneType_tuple, x_isB_bool_tuple, x_isB_int_tuple, x_isB_str_tuple, x_isB_list_tuple, x_isB_tuple_tuple, x_isB_dict_tuple, x_cs_dict, x_isB_NoneType_dict, x_isB_bool_dict, x_isB_int_dict, x_isB_str_dict, x_isB_list_dict, x_isB_tuple_dict, x_isB_dict_dict, List.all_cons, List.all_nil, Bool.and_self, Bool.or_false, Bool.or_true, Bool.false_or, Bool.true_or, wipeD, setD, DL.isNon, List.set_cons_zero, List.set_cons_succ, List.getElem?_cons_zero, List.getElem?_cons_succ, List.length_cons, List.length_nil, Nat.zero_add, List.cons_append, List.nil_append, decide_true, decide_false, Bool.not_true, Bool.not_false, true_and, and_true, startD, List.map_cons, List.map_nil, Nat.reduceSub, Nat.reduceLeDiff, Nat.zero_le, Int.reduceLT, Int.reduceLE, and_self, Nat.reduceAdd, List.replicate])
def dMixed : SpD := fun ds S k _ => ∃ n i : Int, ds = [.int n, .int i] ∧ ∀ r : Int, 0 ≤ r → r < 2147483629 → k (.int r) S
theorem ok_mixed {fa : Addr} {fd : FuncData} (F : Fun K "_law_mixed" "_law_mixed" s__law_mixed fa fd) : FnOk P w K mg base CX0 1 fa fd ["_law_number", "_law_k"] (lSp K dMixed) := by
  refine dok F sc__law_mixed (fun ds S q qx ⟨x, b, e, _⟩ => by rw [e]; rfl) ⟨_, fun cdv A outer s H E hr => dss_cons (ds_set (i := 2) sc__law_mixed.nd rfl (Or.inl rfl) (de_op op_mod si_mod (de_op op_mul si_mul (de_op op_add si_add (de_op op_add si_add (de_op op_mod si_mod (de_var 0) (de_int)) (de_op op_mul si_mul (de_int) (de_var 1))) (de_int)) (de_int)) (de_int)))
      (dss_cons (ds_set (i := 3) sc__law_mixed.nd rfl (Or.inl rfl) (de_op op_mod si_mod (de_op op_mul si_mul (de_var 2) (de_op op_add si_add (de_op op_add si_add (de_op op_mod si_mod (de_var 2) (de_int)) (de_var 1)) (de_int))) (de_int)))
      (dss_one (ds_ret (de_op op_mod si_mod (de_op op_add si_add (de_op op_mul si_mul (de_var 3) (de_int)) (de_var 2)) (de_int))))), fun ds S q qx ⟨n, i, hd, hq⟩ => ?_⟩
  subst hd
  walk_at "dl"
  refine needOf (.inl (by decide)) ?_
  walk_at "dl"
  refine needOf (.inr (by decide)) ?_
  walk_at "dl"
  generalize ho : ((n % 1000000007 + 7 * i + 1) * 48271) % 2147483647 = once
  have h0 : 0 ≤ once := by rw [← ho]; exact Int.emod_nonneg _ (by decide)
  have h1 : once < 2147483647 := by rw [← ho]; exact Int.emod_lt_of_pos _ (by decide)
  refine needOf (.inl ⟨by omega, by omega⟩) ?_
  walk_at "dl"
  refine needOf (.inr (by decide)) ?_
  walk_at "dl"
  exact hq _ (Int.emod_nonneg _ (by decide)) (Int.emod_lt_of_pos _ (by decide))
/-- a well -/
def Well (S : Sto) (w : Addr) : Prop := ∃ (a : Bool) (b c d : Int) (cs : List Int), S w = some (.lst [.bl a, .int b, .int c, .int d, .list (cs.map D.int)]) ∧ 0 < cs.length ∧ cs.length ≤ 100 ∧ 0 ≤ b ∧ 0 ≤ c ∧ 0 ≤ d
def dWell : SpD := fun ds S k _ => ∃ (ns : List Int) (i : Int), ds = [.scr (ns.map D.int), .int i] ∧ ns.length ≤ 63 ∧ ∀ p S', S p = none → Well S' p → (∀ x, x ≠ p → S' x = S x) → k (.ref p) S'
theorem ok_well {fa : Addr} {fd : FuncData} (F : Fun K "_law_well" "_law_well" s__law_well fa fd) (T : TxtW mg) : FnOk P w K mg base CX0 1 fa fd ["_law_script", "_law_first"] (lSp K dWell) := by
  refine dok F sc__law_well (fun ds S q qx ⟨x, b, e, _⟩ => by rw [e]; rfl) ⟨_, fun cdv A outer s H E hr => dss_cons (ds_set (i := 2) sc__law_well.nd rfl (Or.inl rfl) (de_op op_cat si_cat (de_slice (slL (K := K)) si_slL (de_var 0) (do_some (de_var 1)) do_none) (de_lst (da_cons (de_int) da_nil))))
      (dss_one (ds_ret (de_new (da_cons (de_cmp op_lt si_lt (de_callB call_abs si_abs (by rfl) T.abs (by decide +kernel) (da_cons (de_ix ix_seq (si_ix rfl) (de_var 2) (de_int) (fun _ _ => rfl)) da_nil)) (de_op op_pow si_pow (de_int) (de_int)) (nomark _)) (da_cons (de_int) (da_cons (de_callB call_abs si_abs (by rfl) T.abs (by decide +kernel) (da_cons (de_ix ix_seq (si_ix rfl) (de_var 2) (de_int) (fun _ _ => rfl)) da_nil)) (da_cons (de_int) (da_cons (de_var 2) da_nil)))))))), fun ds S q qx ⟨ns, i, hd, hl, hq⟩ => ?_⟩
  subst hd
  walk_at "dl"
  have hlen : (cutD (ns.map D.int) (some i) none).length ≤ 63 := by
    unfold cutD
    rw [List.length_take, List.length_drop, List.length_map]
    omega
  refine fewOf (by omega) ?_
  obtain ⟨cs, hcs⟩ : ∃ cs : List Int, cutD (ns.map D.int) (some i) none ++ [D.int 0] = cs.map D.int := ⟨((ns.drop (HT.sIx ns.length 0 (some i))).take (HT.sIx ns.length ns.length none - HT.sIx ns.length 0 (some i))) ++ [0], by
    unfold cutD
    rw [List.length_map, List.map_append, List.map_take, List.map_drop]
    rfl⟩
  have hcl : cs.length = (cutD (ns.map D.int) (some i) none).length + 1 := by
    have := congrArg List.length hcs
    rw [List.length_append, List.length_map] at this
    exact this.symm
  rw [hcs]
  obtain ⟨c, cs', rfl⟩ : ∃ c cs', cs = c :: cs' := by
    cases cs with
    | nil => simp at hcl
    | cons c cs' => exact ⟨c, cs', rfl⟩
  walk_at "dl"
  refine needOf ⟨by decide, by decide, by decide⟩ ?_
  walk_at "dl"
  refine freshOf fun p hp => ?_
  refine hq p _ hp ⟨_, _, _, _, c :: cs', put_same, by simp, by rw [hcl]; omega, by decide, ?_, by decide⟩ fun x hx => put_ne hx
  split <;> omega
def dDig : SpD := fun ds S k _ => ∃ (w : Addr) (n : Int), ds = [.ref w, .int n] ∧ Well S w ∧ 0 < n ∧ n < 1073741824 ∧ ∀ (r : Nat) S', (r : Int) < n → Well S' w → (∀ x, x ≠ w → S' x = S x) → k (.int (r : Int)) S'
theorem ok_dig {fa : Addr} {fd : FuncData} (F : Fun K "_law_dig" "_law_dig" s__law_dig fa fd) (T : TxtW mg) (G__law_mixed : DefD P w K mg base 1 "_law_mixed" ["_law_number", "_law_k"] dMixed) : FnOk P w K mg base CX0 2 fa fd ["_law_well_here", "_law_most"] (lSp K dDig) := by
  refine dok F sc__law_dig (fun ds S q qx ⟨x, b, e, _⟩ => by rw [e]; rfl) ⟨_, fun cdv A outer s H E hr => dss_cons (ds_asg (de_op op_add si_add (de_ix ix_seq (si_ix rfl) (de_var 0) (de_int) (fun _ _ => rfl)) (de_int)) (dg_sub (de_var 0) (de_int)))
      (dss_cons (ds_if (dt_val (de_ix ix_seq (si_ix rfl) (de_var 0) (de_int) (fun _ _ => rfl)))
        (dss_one (ds_ret (de_op op_mod si_mod (de_call G__law_mixed (hr.mono (by decide)) (by rfl) (da_cons (de_ix ix_seq (si_ix rfl) (de_ix ix_seq (si_ix rfl) (de_var 0) (de_int) (fun _ _ => rfl)) (de_op op_mod si_mod (de_ix ix_seq (si_ix rfl) (de_var 0) (de_int) (fun _ _ => rfl)) (de_callB call_len (si_len rfl) (by rfl) T.len (by decide +kernel) (da_cons (de_ix ix_seq (si_ix rfl) (de_var 0) (de_int) (fun _ _ => rfl)) da_nil))) (fun _ _ => rfl)) (da_cons (de_ix ix_seq (si_ix rfl) (de_var 0) (de_int) (fun _ _ => rfl)) da_nil))) (de_var 1))))
        (dss_nil))
      (dss_cons (ds_set (i := 2) sc__law_dig.nd rfl (Or.inl rfl) (de_op op_mod si_mod (de_ix ix_seq (si_ix rfl) (de_var 0) (de_int) (fun _ _ => rfl)) (de_var 1)))
      (dss_cons (ds_asg (de_op op_fdiv si_fdiv (de_ix ix_seq (si_ix rfl) (de_var 0) (de_int) (fun _ _ => rfl)) (de_var 1)) (dg_sub (de_var 0) (de_int)))
      (dss_cons (ds_if (PW.pt (dw_and (dt_cmp op_eq si_eq (de_ix ix_seq (si_ix rfl) (de_var 0) (de_int) (fun _ _ => rfl)) (de_int) (nomark _)) (dw_and1 (dt_cmp op_lt si_lt (de_ix ix_seq (si_ix rfl) (de_var 0) (de_int) (fun _ _ => rfl)) (de_callB call_len (si_len rfl) (by rfl) T.len (by decide +kernel) (da_cons (de_ix ix_seq (si_ix rfl) (de_var 0) (de_int) (fun _ _ => rfl)) da_nil)) (nomark _)))))
        (dss_cons (ds_asg (de_callB call_abs si_abs (by rfl) T.abs (by decide +kernel) (da_cons (de_ix ix_seq (si_ix rfl) (de_ix ix_seq (si_ix rfl) (de_var 0) (de_int) (fun _ _ => rfl)) (de_ix ix_seq (si_ix rfl) (de_var 0) (de_int) (fun _ _ => rfl)) (fun _ _ => rfl)) da_nil)) (dg_sub (de_var 0) (de_int)))
        (dss_one (ds_asg (de_op op_add si_add (de_ix ix_seq (si_ix rfl) (de_var 0) (de_int) (fun _ _ => rfl)) (de_int)) (dg_sub (de_var 0) (de_int)))))
        (dss_nil))
      (dss_one (ds_ret (de_var 2))))))), fun ds S q qx ⟨wl, n, hd, ⟨a, b, c, d, cs, hw, c0, c1, b0, c2, d0⟩, n0, n1, hq⟩ => ?_⟩
  subst hd
  walk_at "dl"
  refine ixSeq (j := 1) hw rfl ?_
  walk_at "dl"
  refine setOf (j := 1) hw rfl ?_
  walk_at "dl"
  have fin : ∀ (S' : Sto) (r : Int) (b c d : Int), 0 ≤ r → r < n → 0 ≤ b → 0 ≤ c → 0 ≤ d → S' wl = some (.lst [.bl a, .int b, .int c, .int d, .list (cs.map D.int)]) → (∀ x, x ≠ wl → S' x = S x) → q (.int r) S' := fun S' r b c d r0 r1 b0 c0' d0 hw' hf => by
    obtain ⟨m, rfl⟩ := Int.eq_ofNat_of_zero_le r0
    exact hq m S' r1 ⟨a, b, c, d, cs, hw', c0, c1, b0, c0', d0⟩ hf
  refine ixSeq (j := 0) put_same rfl ?_
  walk_at "dl"
  cases a with
  | true =>
    walk_at "dl"
    refine ixSeq (j := 4) put_same rfl ?_
    walk_at "dl"
    refine ixSeq (j := 1) put_same rfl ?_
    walk_at "dl"
    refine ixSeq (j := 4) put_same rfl ?_
    walk_at "dl"
    rw [List.length_map]
    refine needOf (by omega) ?_
    walk_at "dl"
    refine ixMem (m := cs.length) (by rw [List.length_map]) (Int.emod_nonneg _ (by omega)) (Int.emod_lt_of_pos _ (by omega)) fun x hx => ?_
    obtain ⟨z, _, rfl⟩ := List.mem_map.mp hx
    refine ixSeq (j := 1) put_same rfl ?_
    walk_at "dl"
    refine ⟨_, _, rfl, fun r r0 r1 => ?_⟩
    walk_at "dl"
    refine needOf n0 ?_
    exact fin _ _ (b + 1) c d (Int.emod_nonneg _ (by omega)) (Int.emod_lt_of_pos _ n0) (by omega) c2 d0 put_same fun x hx => put_ne hx
  | false =>
    walk_at "dl"
    refine ixSeq (j := 2) put_same rfl ?_
    walk_at "dl"
    refine needOf n0 ?_
    walk_at "dl"
    refine ixSeq (j := 2) put_same rfl ?_
    walk_at "dl"
    refine needOf ⟨n0, n1⟩ ?_
    walk_at "dl"
    refine setOf (j := 2) put_same rfl ?_
    walk_at "dl"
    refine ixSeq (j := 2) put_same rfl ?_
    walk_at "dl"
    have q0 : 0 ≤ c % n := Int.emod_nonneg _ (by omega)
    have q1 : c % n < n := Int.emod_lt_of_pos _ n0
    have q2 : 0 ≤ c / n := Int.ediv_nonneg c2 (by omega)
    have fin2 : ∀ (S' : Sto) (b c' d : Int), 0 ≤ b → 0 ≤ c' → 0 ≤ d → S' wl = some (.lst [.bl false, .int b, .int c', .int d, .list (cs.map D.int)]) → (∀ x, x ≠ wl → S' x = S x) → q (.int (c % n)) S' := fun S' b c' d b0 c0' d0 hw' hf => fin S' _ b c' d q0 q1 b0 c0' d0 hw' hf
    rw [put_put]
    have fr : ∀ (o : O) x, x ≠ wl → put S wl o x = S x := fun o x hx => put_ne hx
    refine br (fun _ => ?_) fun _ => ?_
    · walk_at "dl"
      refine ixSeq (j := 3) put_same rfl ?_
      walk_at "dl"
      refine ixSeq (j := 4) put_same rfl ?_
      walk_at "dl"
      rw [List.length_map]
      refine br (fun y => ?_) fun _ => ?_
      · have y : d < cs.length := of_decide_eq_true y
        walk_at "dl"
        refine ixSeq (j := 4) put_same rfl ?_
        walk_at "dl"
        refine ixSeq (j := 3) put_same rfl ?_
        walk_at "dl"
        refine ixMem (m := cs.length) (by rw [List.length_map]) d0 y fun x hx => ?_
        obtain ⟨z, _, rfl⟩ := List.mem_map.mp hx
        walk_at "dl"
        refine setOf (j := 2) put_same rfl ?_
        rw [put_put]
        walk_at "dl"
        refine ixSeq (j := 3) put_same rfl ?_
        walk_at "dl"
        refine setOf (j := 3) put_same rfl ?_
        rw [put_put]
        walk_at "dl"
        exact fin2 _ (b + 1) _ (d + 1) (by omega) (by split <;> omega) (by omega) put_same (fr _)
      · walk_at "dl"
        exact fin2 _ (b + 1) _ d (by omega) q2 d0 put_same (fr _)
    · walk_at "dl"
      exact fin2 _ (b + 1) _ d (by omega) q2 d0 put_same (fr _)
end
end K

set_option Elab.async false
set_option linter.all false
set_option maxRecDepth 100000
namespace K
open PySem L2 Evl EX DL
abbrev s_Thing___init__ : Stmt := inClass (top 2) 0
abbrev N_Thing___init__ : List Str := ["self", "form", "number", "own"]
theorem sc_Thing___init__ : FnScope N_Thing___init__ ["self", "form", "number", "own"] (defScope s_Thing___init__) := ⟨rfl, rfl, rfl, by decide +kernel, rfl, by decide +kernel, by decide +kernel⟩
abbrev s_Hall___init__ : Stmt := inClass (top 3) 0
abbrev N_Hall___init__ : List Str := ["self", "ender"]
theorem sc_Hall___init__ : FnScope N_Hall___init__ ["self", "ender"] (defScope s_Hall___init__) := ⟨rfl, rfl, rfl, by decide +kernel, rfl, by decide +kernel, by decide +kernel⟩
abbrev s_Hall_make : Stmt := inClass (top 3) 1
abbrev N_Hall_make : List Str := ["self", "form", "own", "thing"]
theorem sc_Hall_make : FnScope N_Hall_make ["self", "form", "own"] (defScope s_Hall_make) := ⟨rfl, rfl, rfl, by decide +kernel, rfl, by decide +kernel, by decide +kernel⟩
abbrev s_Hall_hold : Stmt := inClass (top 3) 2
abbrev N_Hall_hold : List Str := ["self", "value"]
theorem sc_Hall_hold : FnScope N_Hall_hold ["self", "value"] (defScope s_Hall_hold) := ⟨rfl, rfl, rfl, by decide +kernel, rfl, by decide +kernel, by decide +kernel⟩
abbrev s_Hall_loose : Stmt := inClass (top 3) 3
abbrev N_Hall_loose : List Str := ["self", "value"]
theorem sc_Hall_loose : FnScope N_Hall_loose ["self", "value"] (defScope s_Hall_loose) := ⟨rfl, rfl, rfl, by decide +kernel, rfl, by decide +kernel, by decide +kernel⟩
abbrev s_Hall_put : Stmt := inClass (top 3) 4
abbrev N_Hall_put : List Str := ["self", "thing", "key", "value", "old"]
theorem sc_Hall_put : FnScope N_Hall_put ["self", "thing", "key", "value"] (defScope s_Hall_put) := ⟨rfl, rfl, rfl, by decide +kernel, rfl, by decide +kernel, by decide +kernel⟩
abbrev s_Hall_things : Stmt := inClass (top 3) 6
abbrev N_Hall_things : List Str := ["self"]
theorem sc_Hall_things : FnScope N_Hall_things ["self"] (defScope s_Hall_things) := ⟨rfl, rfl, rfl, by decide +kernel, rfl, by decide +kernel, by decide +kernel⟩
abbrev s_Hall_gone : Stmt := inClass (top 3) 7
abbrev N_Hall_gone : List Str := ["self"]
theorem sc_Hall_gone : FnScope N_Hall_gone ["self"] (defScope s_Hall_gone) := ⟨rfl, rfl, rfl, by decide +kernel, rfl, by decide +kernel, by decide +kernel⟩
abbrev s_Hall_let_go : Stmt := inClass (top 3) 9
abbrev N_Hall_let_go : List Str := ["self", "thing"]
theorem sc_Hall_let_go : FnScope N_Hall_let_go ["self", "thing"] (defScope s_Hall_let_go) := ⟨rfl, rfl, rfl, by decide +kernel, rfl, by decide +kernel, by decide +kernel⟩
abbrev s_Hall_work : Stmt := inClass (top 3) 10
abbrev N_Hall_work : List Str := ["self"]
theorem sc_Hall_work : FnScope N_Hall_work ["self"] (defScope s_Hall_work) := ⟨rfl, rfl, rfl, by decide +kernel, rfl, by decide +kernel, by decide +kernel⟩
abbrev s_Hall_turn : Stmt := inClass (top 3) 11
abbrev N_Hall_turn : List Str := ["self", "thing"]
theorem sc_Hall_turn : FnScope N_Hall_turn ["self", "thing"] (defScope s_Hall_turn) := ⟨rfl, rfl, rfl, by decide +kernel, rfl, by decide +kernel, by decide +kernel⟩
abbrev s_Hall_ask_last : Stmt := inClass (top 3) 12
abbrev N_Hall_ask_last : List Str := ["self", "thing", "row"]
theorem sc_Hall_ask_last : FnScope N_Hall_ask_last ["self", "thing"] (defScope s_Hall_ask_last) := ⟨rfl, rfl, rfl, by decide +kernel, rfl, by decide +kernel, by decide +kernel⟩
abbrev s_Hall_be_gone : Stmt := inClass (top 3) 13
abbrev N_Hall_be_gone : List Str := ["self", "thing"]
theorem sc_Hall_be_gone : FnScope N_Hall_be_gone ["self", "thing"] (defScope s_Hall_be_gone) := ⟨rfl, rfl, rfl, by decide +kernel, rfl, by decide +kernel, by decide +kernel⟩
abbrev s_Hall_empty : Stmt := inClass (top 3) 14
abbrev N_Hall_empty : List Str := ["self", "thing", "key"]
theorem sc_Hall_empty : FnScope N_Hall_empty ["self", "thing"] (defScope s_Hall_empty) := ⟨rfl, rfl, rfl, by decide +kernel, rfl, by decide +kernel, by decide +kernel⟩
abbrev s__law_holders : Stmt := top 8
abbrev N__law_holders : List Str := ["_law_well_here", "_law_many", "_law_way", "_law_broad", "_law_holders_here", "_law_n", "_law_k"]
theorem sc__law_holders : FnScope N__law_holders ["_law_well_here", "_law_many"] (defScope s__law_holders) := ⟨rfl, rfl, rfl, by decide +kernel, rfl, by decide +kernel, by decide +kernel⟩
abbrev s__law_order : Stmt := top 9
abbrev N__law_order : List Str := ["_law_parts", "_law_many", "_law_holds", "_law_n", "_law_other", "_law_order_here", "_law_at"]
theorem sc__law_order : FnScope N__law_order ["_law_parts", "_law_many"] (defScope s__law_order) := ⟨rfl, rfl, rfl, by decide +kernel, rfl, by decide +kernel, by decide +kernel⟩
abbrev s_law : Stmt := top 10
abbrev N_law : List Str := ["_law_script", "_law_well_here", "_law_many", "_law_hall", "_law_things", "_law_parts", "_law_k", "_law_some", "_law_n", "_law_order_here"]
theorem sc_law : FnScope N_law ["_law_script"] (defScope s_law) := ⟨rfl, rfl, rfl, by decide +kernel, rfl, by decide +kernel, by decide +kernel⟩
structure Txt (K : PySem.W.Frag) (mg : Str → Option Value) (CT CH : Addr) : Prop where
  len : mg "len" = none
  int : mg "int" = none
  range : mg "range" = none
  str : mg "str" = none
  isinstance : mg "isinstance" = none
  bool : mg "bool" = none
  sorted : mg "sorted" = none
  list : mg "list" = none
  enumerate : mg "enumerate" = none
  dict : mg "dict" = none
  min : mg "min" = none
  Thing : GlD K mg "Thing" (.ref CT)
  Thing_ : ClsD K CT ["form", "number", "count", "parts", "own", "ended", "waits"]
  Hall_ : ClsD K CH ["ender", "many", "there", "left", "row", "lasts"]
  ThingI : IsiC K CT
def thFs (form num cnt parts own ended waits : D) : List (Str × D) := [("form", form), ("number", num), ("count", cnt), ("parts", parts), ("own", own), ("ended", ended), ("waits", waits)]
def haFs (ender many there left row lasts : D) : List (Str × D) := [("ender", ender), ("many", many), ("there", there), ("left", left), ("row", row), ("lasts", lasts)]
section
variable {a b c d e f g x : D}
theorem th_form : (thFs a b c d e f g).lookup ("form" : Str) = some a := rfl
theorem th_number : (thFs a b c d e f g).lookup ("number" : Str) = some b := rfl
theorem th_count : (thFs a b c d e f g).lookup ("count" : Str) = some c := rfl
theorem th_parts : (thFs a b c d e f g).lookup ("parts" : Str) = some d := rfl
theorem th_count' : putFD "count" x (thFs a b c d e f g) = thFs a b x d e f g := rfl
theorem ha_many : (haFs a b c d e f).lookup ("many" : Str) = some b := rfl
theorem ha_there : (haFs a b c d e f).lookup ("there" : Str) = some c := rfl
theorem ha_left : (haFs a b c d e f).lookup ("left" : Str) = some d := rfl
theorem ha_row : (haFs a b c d e f).lookup ("row" : Str) = some e := rfl
theorem ha_ender : (haFs a b c d e f).lookup ("ender" : Str) = some a := rfl
theorem ha_row' : putFD "row" x (haFs a b c d e f) = haFs a b c d x f := rfl
theorem th_waits : (thFs a b c d e f g).lookup ("waits" : Str) = some g := rfl
theorem th_waits' : putFD "waits" x (thFs a b c d e f g) = thFs a b c d e f x := rfl
theorem ha_many' : putFD "many" x (haFs a b c d e f) = haFs a x c d e f := rfl
end
section
variable {P : Program} {w : World} {K : PySem.W.Frag} {mg : Str → Option Value} {base : Heap} {CT CH : Addr}
local macro_rules | `(tactic| walk_at "dl") => `(tactic| try simp only [↓x_fld, ↓x_fldS, ↓x_fldA, ↓x_meth, ↓x_make, ↓x_dget, ↓x_din, ↓x_dget1, ↓x_dget2, ↓x_dpop, ↓x_dput, ↓x_listD, ↓x_sortDI, ↓x_lenD, ↓x_isiC, x_icS, x_icI, x_icB, x_icN, x_ioS, x_ioI, x_ioB, x_ioN, ↓x_gSub, ↓x_sortDL, ↓x_eqO, ↓x_ninA, x_catN, x_isBB, x_isBN, x_isBI, x_isBS, x_isBR, ↓x_seq, ↓x_nx, ↓x_pass, ↓x_brk, ↓x_cnt, ↓x_drop, ↓x_ret, ↓x_retN, ↓x_ifS, ↓x_set, ↓x_asg, ↓x_gN, ↓x_gT, ↓x_gsC, ↓x_gsN, ↓x_var, x_rdv, ↓x_c, ↓x_op, ↓x_test, x_tst, ↓x_and, ↓x_or, ↓x_not, ↓x_andV, ↓x_orV, ↓x_notV, x_tstV, ↓x_ifE, x_true, x_false, ↓x_nil, ↓x_cons, ↓x_tup, ↓x_lst, ↓x_new, ↓x_newD, ↓x_call, ↓x_cb, x_oI, x_oIc, x_oS, x_addS, x_isN, x_notN, x_eqI, x_eqS, x_eqIS, x_eqSI, x_eqNS, x_neI, x_neS, x_neB, x_eqB, x_few, x_need, ↓x_ix, x_lenS, x_ixL0, x_ixT0, x_ixT1, x_ixT2, x_ixT3, x_ixT4, x_lenL, x_lenT, x_lenC, x_listL, x_listT, x_tupL, x_tupT, x_strI, x_strS, x_int1, x_intB, x_I1, x_I2, x_cat, x_catT, ↓x_split, ↓x_for, ↓x_cut, ↓x_lc, ↓x_whl, ↓x_diL, ↓x_diT, ↓x_diS, x_itL, x_itC, x_itT, x_itS, ↓x_diR1, ↓x_diR2, ↓x_diE, x_enmL, x_enmC, ↓x_gcN, ↓x_gcT, ↓x_yes, ↓x_ml, ↓x_ms, x_strq, x_ss, x_ssc, x_ssi, ↓x_join, ↓x_aug, x_st2I, ↓x_sl, ↓x_noP, ↓x_part, x_intq, x_slL, x_slC, x_slS, ↓x_in, x_inT, x_inL, x_ninT, x_ninL, x_inN, x_inSS, x_inSI, x_inIS, x_inII, ↓x_sg, x_sgS, x_nsgS, ↓x_eqD, ↓x_inDD, x_mulS, ↓x_isi, x_isiS, x_isiI, x_isiB, x_isiN, x_isiL, x_isiT, ↓x_isTT, x_itI, x_itStr, x_itN, x_itB, x_itLst, x_itTup, ↓x_any, ↓x_all, ↓x_sum, ↓x_srtI, ↓x_srtS, ↓x_intS, ↓x_lenRf, ↓x_tupRf, ↓x_frz', x_flS, x_flI, x_flN, x_flB, x_cs_bool, x_isB_NoneType_bool, x_isB_bool_bool, x_isB_int_bool, x_isB_str_bool, x_isB_list_bool, x_isB_tuple_bool, x_isB_dict_bool, x_cs_int, x_isB_NoneType_int, x_isB_bool_int, x_isB_int_int, x_isB_str_int, x_isB_list_int, x_isB_tuple_int, x_isB_dict_int, x_cs_str, x_isB_NoneType_str, x_isB_bool_str, x_isB_int_str, x_isB_str_str, x_isB_list_str, x_isB_tuple_str, x_isB_dict_str, x_cs_list, x_isB_NoneType_list, x_isB_bool_list, x_isB_int_list, x_isB_str_list, x_isB_list_list, x_isB_tuple_list, x_isB_dict_list, x_cs_tuple, x_isB_NoneType_tuple, x_isB_bool_tuple, x_isB_int_tuple, x_isB_str_tuple, x_isB_list_tuple, x_isB_tuple_tuple, x_isB_dict_tuple, x_cs_dict, x_isB_NoneType_dict, x_isB_bool_dict, x_isB_int_dict, x_isB_str_dict, x_isB_list_dict, x_isB_tuple_dict, x_isB_dict_dict, List.all_cons, List.all_nil, Bool.and_self, Bool.or_false, Bool.or_true, Bool.false_or, Bool.true_or, wipeD, setD, DL.isNon, List.set_cons_zero, List.set_cons_succ, List.getElem?_cons_zero, List.getElem?_cons_succ, List.length_cons, List.length_nil, Nat.zero_add, List.cons_append, List.nil_append, decide_true, decide_false, Bool.not_true, Bool.not_false, true_and, and_true, startD, List.map_cons, List.map_nil, Nat.reduceSub, Nat.reduceLeDiff, Nat.zero_le, Int.reduceLT, Int.reduceLE, and_self, Nat.reduceAdd, List.replicate])
def dThInit (CT : Addr) : SpD := fun ds S k _ => ∃ (a dx : Addr) (form : Str) (num : Int) (own : D), ds = [.ref a, .str form, .int num, own] ∧ S a = some (.ins CT dx []) ∧
  ∀ pd, S pd = none → k .non (put (put S pd (.dct [])) a (.ins CT dx (thFs (.str form) (.int num) (.int 0) (.ref pd) own (.bl false) (.bl false))))
theorem ok_thinit {fa : Addr} {fd : FuncData} (F : Fun K "__init__" "Thing.__init__" s_Thing___init__ fa fd) (T : Txt K mg CT CH) : FnOk P w K mg base CX0 1 fa fd ["self", "form", "number", "own"] (lSp K (dThInit CT)) := by
  refine dok F sc_Thing___init__ (fun ds S q qx ⟨a, dx, form, num, own, h, _⟩ => by rw [h]; rfl) ⟨_, fun cdv A outer s H E hr => dss_cons (ds_fld T.Thing_ (by decide +kernel) (de_var 0) (de_var 1))
      (dss_cons (ds_fld T.Thing_ (by decide +kernel) (de_var 0) (de_var 2))
      (dss_cons (ds_fld T.Thing_ (by decide +kernel) (de_var 0) (de_int))
      (dss_cons (ds_fld T.Thing_ (by decide +kernel) (de_var 0) (de_newD))
      (dss_cons (ds_fld T.Thing_ (by decide +kernel) (de_var 0) (de_var 3))
      (dss_cons (ds_fld T.Thing_ (by decide +kernel) (de_var 0) (de_bl))
      (dss_one (ds_fld T.Thing_ (by decide +kernel) (de_var 0) (de_bl)))))))), fun ds S q qx ⟨a, dx, form, num, own, hd, ha, h⟩ => ?_⟩
  subst hd
  walk_at "dl"
  refine fldsOf ha (Nat.le_of_ble_eq_true rfl) ?_
  walk_at "dl"
  refine fldsOf put_same (Nat.le_of_ble_eq_true rfl) ?_
  walk_at "dl"
  refine fldsOf put_same (Nat.le_of_ble_eq_true rfl) ?_
  walk_at "dl"
  rw [put_put, put_put]
  refine freshOf fun pd hp => ?_
  have ne : a ≠ pd := sto_ne put_same hp
  rw [put_ne ne.symm] at hp
  walk_at "dl"
  refine fldsOf (by rw [put_ne ne]; exact put_same) (Nat.le_of_ble_eq_true rfl) ?_
  walk_at "dl"
  refine fldsOf put_same (Nat.le_of_ble_eq_true rfl) ?_
  walk_at "dl"
  refine fldsOf put_same (Nat.le_of_ble_eq_true rfl) ?_
  walk_at "dl"
  refine fldsOf put_same (Nat.le_of_ble_eq_true rfl) ?_
  walk_at "dl"
  rw [put_put, put_put, put_put, put_comm ne, put_put]
  exact h pd hp
def dHaInit (CH : Addr) : SpD := fun ds S k _ => ∃ (a dx : Addr) (own : D), ds = [.ref a, own] ∧ S a = some (.ins CH dx []) ∧
  ∀ th lf S', S th = none → S' a = some (.ins CH dx (haFs own (.int 0) (.ref th) (.ref lf) .non (.int 0))) → S' th = some (.dct []) → S' lf = some (.lst []) → (∀ b, S b ≠ none → b ≠ a → S' b = S b) → k .non S'
theorem ok_hainit {fa : Addr} {fd : FuncData} (F : Fun K "__init__" "Hall.__init__" s_Hall___init__ fa fd) (T : Txt K mg CT CH) : FnOk P w K mg base CX0 1 fa fd ["self", "ender"] (lSp K (dHaInit CH)) := by
  refine dok F sc_Hall___init__ (fun ds S q qx ⟨a, dx, own, h, _⟩ => by rw [h]; rfl) ⟨_, fun cdv A outer s H E hr => dss_cons (ds_fld T.Hall_ (by decide +kernel) (de_var 0) (de_var 1))
      (dss_cons (ds_fld T.Hall_ (by decide +kernel) (de_var 0) (de_int))
      (dss_cons (ds_fld T.Hall_ (by decide +kernel) (de_var 0) (de_newD))
      (dss_cons (ds_fld T.Hall_ (by decide +kernel) (de_var 0) (de_new (da_nil)))
      (dss_cons (ds_fld T.Hall_ (by decide +kernel) (de_var 0) (de_non))
      (dss_one (ds_fld T.Hall_ (by decide +kernel) (de_var 0) (de_int))))))), fun ds S q qx ⟨a, dx, own, hd, ha, h⟩ => ?_⟩
  subst hd
  walk_at "dl"
  refine fldsOf ha (Nat.le_of_ble_eq_true rfl) ?_
  walk_at "dl"
  refine fldsOf put_same (Nat.le_of_ble_eq_true rfl) ?_
  walk_at "dl"
  rw [put_put]
  refine freshOf fun th hp => ?_
  have ne : a ≠ th := sto_ne put_same hp
  rw [put_ne ne.symm] at hp
  walk_at "dl"
  refine fldsOf (by rw [put_ne ne]; exact put_same) (Nat.le_of_ble_eq_true rfl) ?_
  walk_at "dl"
  refine freshOf fun lf hl => ?_
  have ne2 : a ≠ lf := sto_ne put_same hl
  rw [put_ne ne2.symm] at hl
  have ne3 : th ≠ lf := sto_ne put_same hl
  rw [put_ne ne3.symm, put_ne ne2.symm] at hl
  walk_at "dl"
  refine fldsOf (by rw [put_ne ne2]; exact put_same) (Nat.le_of_ble_eq_true rfl) ?_
  walk_at "dl"
  refine fldsOf put_same (Nat.le_of_ble_eq_true rfl) ?_
  walk_at "dl"
  refine fldsOf put_same (Nat.le_of_ble_eq_true rfl) ?_
  walk_at "dl"
  rw [put_put, put_put]
  refine h th lf _ hp put_same ?_ ?_ fun b hb n => ?_
  · rw [put_ne ne.symm, put_ne ne3, put_ne ne.symm]; exact put_same
  · rw [put_ne ne2.symm]; exact put_same
  · have n1 : b ≠ th := fun e => hb (e ▸ hp)
    have n2 : b ≠ lf := fun e => hb (e ▸ hl)
    rw [put_ne n, put_ne n2, put_ne n, put_ne n1, put_ne n]
end
end K

set_option Elab.async false
set_option linter.all false
set_option maxRecDepth 100000
namespace K
open PySem L2 Evl EX DL
section
variable {P : Program} {w : World} {K : PySem.W.Frag} {mg : Str → Option Value} {base : Heap} {CT CH : Addr}
local macro_rules | `(tactic| walk_at "dl") => `(tactic| try simp only [↓x_fld, ↓x_fldS, ↓x_fldA, ↓x_meth, ↓x_make, ↓x_dget, ↓x_din, ↓x_dget1, ↓x_dget2, ↓x_dpop, ↓x_dput, ↓x_listD, ↓x_sortDI, ↓x_lenD, ↓x_isiC, x_icS, x_icI, x_icB, x_icN, x_ioS, x_ioI, x_ioB, x_ioN, ↓x_gSub, ↓x_sortDL, ↓x_eqO, ↓x_ninA, x_catN, x_isBB, x_isBN, x_isBI, x_isBS, x_isBR, ↓x_seq, ↓x_nx, ↓x_pass, ↓x_brk, ↓x_cnt, ↓x_drop, ↓x_ret, ↓x_retN, ↓x_ifS, ↓x_set, ↓x_asg, ↓x_gN, ↓x_gT, ↓x_gsC, ↓x_gsN, ↓x_var, x_rdv, ↓x_c, ↓x_op, ↓x_test, x_tst, ↓x_and, ↓x_or, ↓x_not, ↓x_andV, ↓x_orV, ↓x_notV, x_tstV, ↓x_ifE, x_true, x_false, ↓x_nil, ↓x_cons, ↓x_tup, ↓x_lst, ↓x_new, ↓x_newD, ↓x_call, ↓x_cb, x_oI, x_oIc, x_oS, x_addS, x_isN, x_notN, x_eqI, x_eqS, x_eqIS, x_eqSI, x_eqNS, x_neI, x_neS, x_neB, x_eqB, x_few, x_need, ↓x_ix, x_lenS, x_ixL0, x_ixT0, x_ixT1, x_ixT2, x_ixT3, x_ixT4, x_lenL, x_lenT, x_lenC, x_listL, x_listT, x_tupL, x_tupT, x_strI, x_strS, x_int1, x_intB, x_I1, x_I2, x_cat, x_catT, ↓x_split, ↓x_for, ↓x_cut, ↓x_lc, ↓x_whl, ↓x_diL, ↓x_diT, ↓x_diS, x_itL, x_itC, x_itT, x_itS, ↓x_diR1, ↓x_diR2, ↓x_diE, x_enmL, x_enmC, ↓x_gcN, ↓x_gcT, ↓x_yes, ↓x_ml, ↓x_ms, x_strq, x_ss, x_ssc, x_ssi, ↓x_join, ↓x_aug, x_st2I, ↓x_sl, ↓x_noP, ↓x_part, x_intq, x_slL, x_slC, x_slS, ↓x_in, x_inT, x_inL, x_ninT, x_ninL, x_inN, x_inSS, x_inSI, x_inIS, x_inII, ↓x_sg, x_sgS, x_nsgS, ↓x_eqD, ↓x_inDD, x_mulS, ↓x_isi, x_isiS, x_isiI, x_isiB, x_isiN, x_isiL, x_isiT, ↓x_isTT, x_itI, x_itStr, x_itN, x_itB, x_itLst, x_itTup, ↓x_any, ↓x_all, ↓x_sum, ↓x_srtI, ↓x_srtS, ↓x_intS, ↓x_lenRf, ↓x_tupRf, ↓x_frz', x_flS, x_flI, x_flN, x_flB, x_cs_bool, x_isB_NoneType_bool, x_isB_bool_bool, x_isB_int_bool, x_isB_str_bool, x_isB_list_bool, x_isB_tuple_bool, x_isB_dict_bool, x_cs_int, x_isB_NoneType_int, x_isB_bool_int, x_isB_int_int, x_isB_str_int, x_isB_list_int, x_isB_tuple_int, x_isB_dict_int, x_cs_str, x_isB_NoneType_str, x_isB_bool_str, x_isB_int_str, x_isB_str_str, x_isB_list_str, x_isB_tuple_str, x_isB_dict_str, x_cs_list, x_isB_NoneType_list, x_isB_bool_list, x_isB_int_list, x_isB_str_list, x_isB_list_list, x_isB_tuple_list, x_isB_dict_list, x_cs_tuple, x_isB_NoneType_tuple, x_isB_bool_tuple, x_isB_int_tuple, x_isB_str_tuple, x_isB_list_tuple, x_isB_tuple_tuple, x_isB_dict_tuple, x_cs_dict, x_isB_NoneType_dict, x_isB_bool_dict, x_isB_int_dict, x_isB_str_dict, x_isB_list_dict, x_isB_tuple_dict, x_isB_dict_dict, List.all_cons, List.all_nil, Bool.and_self, Bool.or_false, Bool.or_true, Bool.false_or, Bool.true_or, wipeD, setD, DL.isNon, List.set_cons_zero, List.set_cons_succ, List.getElem?_cons_zero, List.getElem?_cons_succ, List.length_cons, List.length_nil, Nat.zero_add, List.cons_append, List.nil_append, decide_true, decide_false, Bool.not_true, Bool.not_false, true_and, and_true, startD, List.map_cons, List.map_nil, Nat.reduceSub, Nat.reduceLeDiff, Nat.zero_le, Int.reduceLT, Int.reduceLE, and_self, Nat.reduceAdd, List.replicate])
/-- no thing -/
inductive NoTh : D → Prop where
  | non : NoTh .non
  | int (i : Int) : NoTh (.int i)
  | str (s : Str) : NoTh (.str s)
  | bl (b : Bool) : NoTh (.bl b)
def dMakeT (CT CH : Addr) : SpD := fun ds S k _ => ∃ (h dx th : Addr) (form : Str) (own en lf rw la : D) (m : Int) (kvs : List (Key × D)), ds = [.ref h, .str form, own] ∧ S h = some (.ins CH dx (haFs en (.int m) (.ref th) lf rw la)) ∧ S th = some (.dct kvs) ∧ kvs.length < 100000 ∧
  ∀ t pd dt S', S t = none → S pd = none → t ≠ pd → S' t = some (.ins CT dt (thFs (.str form) (.int (m + 1)) (.int 0) (.ref pd) own (.bl false) (.bl false))) → S' pd = some (.dct []) → S' h = some (.ins CH dx (haFs en (.int (m + 1)) (.ref th) lf rw la)) → S' th = some (.dct (gput kvs (.inl (m + 1)) (.ref t))) →
    (∀ b, b ≠ t → b ≠ pd → b ≠ h → b ≠ th → S' b = S b) → k (.ref t) S'
theorem ok_make {fa : Addr} {fd : FuncData} (F : Fun K "make" "Hall.make" s_Hall_make fa fd) (T : Txt K mg CT CH) (G_mk_Thing : MkDef P w K mg base 1 "Thing" CT ["self", "form", "number", "own"] (lSp K (dThInit CT))) :
    FnOk P w K mg base CX0 3 fa fd ["self", "form", "own"] (lSp K (dMakeT CT CH)) := by
  refine dok F sc_Hall_make (fun ds S q qx ⟨h, dx, th, form, own, en, lf, rw, la, m, kvs, e, _⟩ => by rw [e]; rfl) ⟨_, fun cdv A outer s H E hr => dss_cons (ds_fldaug T.Hall_ (by decide +kernel) (de_var 0) (de_int) in_add)
      (dss_cons (ds_set (i := 3) sc_Hall_make.nd rfl (Or.inl rfl) (de_make G_mk_Thing (hr.mono (by decide)) (by rfl) (da_cons (de_var 1) (da_cons (de_fld T.Hall_ (by decide +kernel) (de_var 0)) (da_cons (de_var 2) da_nil)))))
      (dss_cons (ds_dput (hu_of hr) (de_fld T.Hall_ (by decide +kernel) (de_var 0)) (de_fld T.Thing_ (by decide +kernel) (de_var 3)) (de_var 3))
      (dss_one (ds_ret (de_var 3))))), fun ds S q qx ⟨h, dx, th, form, own, en, lf, rw', la, m, kvs, hd, hh, ht, hl, hq⟩ => ?_⟩
  subst hd
  have nht : h ≠ th := fun e => by rw [e, ht] at hh; cases hh
  walk_at "dl"
  refine fldOf hh ha_many ?_
  walk_at "dl"
  refine fldsOf hh (Nat.le_of_ble_eq_true rfl) ?_
  rw [ha_many']
  walk_at "dl"
  refine fldOf put_same ha_many ?_
  walk_at "dl"
  refine freshOf fun t n1 dt => ?_
  have nth : h ≠ t := sto_ne put_same n1
  rw [put_ne nth.symm] at n1
  refine ⟨t, dt, form, m + 1, own, rfl, put_same, fun pd n2 => ⟨rfl, ?_⟩⟩
  have ntp : t ≠ pd := sto_ne put_same n2
  rw [put_ne ntp.symm] at n2
  have nhp : h ≠ pd := sto_ne put_same n2
  rw [put_ne nhp.symm] at n2
  have e1 : th ≠ t := sto_ne ht n1
  have e2 : th ≠ pd := sto_ne ht n2
  walk_at "dl"
  refine fldOf (by rw [put_ne nth, put_ne nhp, put_ne nth]; exact put_same) ha_there ?_
  walk_at "dl"
  refine fldOf put_same th_number ?_
  walk_at "dl"
  refine dputOf (kvs := kvs) (by rw [put_ne e1, put_ne e2, put_ne e1, put_ne nht.symm]; exact ht) rfl hl ?_
  walk_at "dl"
  refine hq t pd dt _ n1 n2 ntp ?_ ?_ ?_ put_same fun b b1 b2 b3 b4 => ?_
  · rw [put_ne e1.symm]; exact put_same
  · rw [put_ne e2.symm, put_ne ntp.symm]; exact put_same
  · rw [put_ne nht, put_ne nth, put_ne nhp, put_ne nth]; exact put_same
  · rw [put_ne b4, put_ne b1, put_ne b2, put_ne b1, put_ne b3]
def dHold (CT : Addr) : SpD := fun ds S k _ => ∃ (h x : D), ds = [h, x] ∧ ((NoTh x ∧ k .non S) ∨ ∃ (t dt : Addr) (a b d e f g : D) (c : Int), x = .ref t ∧ S t = some (.ins CT dt (thFs a b (.int c) d e f g)) ∧ k .non (put S t (.ins CT dt (thFs a b (.int (c + 1)) d e f g))))
theorem ok_hold {fa : Addr} {fd : FuncData} (F : Fun K "hold" "Hall.hold" s_Hall_hold fa fd) (T : Txt K mg CT CH) : FnOk P w K mg base CX0 1 fa fd ["self", "value"] (lSp K (dHold CT)) := by
  refine dok F sc_Hall_hold (fun ds S q qx ⟨h, x, e, _⟩ => by rw [e]; rfl) ⟨_, fun cdv A outer s H E hr => dss_one (ds_if (dt_val (de_callB (clIsi' (K := K)) (si_isiC T.ThingI) (by rfl) T.isinstance (by decide +kernel) (da_cons (de_var 1) (da_cons (de_gl (by rfl) T.Thing) da_nil))))
        (dss_one (ds_fldaug T.Thing_ (by decide +kernel) (de_var 1) (de_int) in_add))
        (dss_nil)), fun ds S q qx ⟨h, x, hd, hq⟩ => ?_⟩
  subst hd
  walk_at "dl"
  rcases hq with ⟨hx, hq⟩ | ⟨t, dt, a, b, d, e, f, g, c, rfl, ht, hq⟩
  · cases hx <;> (walk_at "dl"; exact hq)
  · rw [x_own ht]
    walk_at "dl"
    refine fldOf ht th_count ?_
    walk_at "dl"
    refine fldsOf ht (Nat.le_of_ble_eq_true rfl) ?_
    walk_at "dl"
    exact hq
def dLoose (CT : Addr) : SpD := fun ds S k _ => ∃ (h x : D), ds = [h, x] ∧ ((NoTh x ∧ k .non S) ∨ ∃ (t dt : Addr) (a b d e f g : D) (c : Int), x = .ref t ∧ c ≠ 1 ∧ S t = some (.ins CT dt (thFs a b (.int c) d e f g)) ∧ k .non (put S t (.ins CT dt (thFs a b (.int (c - 1)) d e f g))))
theorem ok_loose {fa : Addr} {fd : FuncData} (F : Fun K "loose" "Hall.loose" s_Hall_loose fa fd) (T : Txt K mg CT CH) : FnOk P w K mg base CX0 1 fa fd ["self", "value"] (lSp K (dLoose CT)) := by
  refine dok F sc_Hall_loose (fun ds S q qx ⟨h, x, e, _⟩ => by rw [e]; rfl) ⟨_, fun cdv A outer s H E hr => dss_one (ds_if (dt_val (de_callB (clIsi' (K := K)) (si_isiC T.ThingI) (by rfl) T.isinstance (by decide +kernel) (da_cons (de_var 1) (da_cons (de_gl (by rfl) T.Thing) da_nil))))
        (dss_cons (ds_fldaug T.Thing_ (by decide +kernel) (de_var 1) (de_int) in_sub)
        (dss_one (ds_if (dt_cmp op_eq si_eq (de_fld T.Thing_ (by decide +kernel) (de_var 1)) (de_int) (nomark _))
          (dss_one (ds_never))
          (dss_nil))))
        (dss_nil)), fun ds S q qx ⟨h, x, hd, hq⟩ => ?_⟩
  subst hd
  walk_at "dl"
  rcases hq with ⟨hx, hq⟩ | ⟨t, dt, a, b, d, e, f, g, c, rfl, hc, ht, hq⟩
  · cases hx <;> (walk_at "dl"; exact hq)
  · rw [x_own ht]
    walk_at "dl"
    refine fldOf ht th_count ?_
    walk_at "dl"
    refine fldsOf ht (Nat.le_of_ble_eq_true rfl) ?_
    rw [th_count']
    walk_at "dl"
    refine fldOf put_same th_count ?_
    walk_at "dl"
    have e0 : decide (c - 1 = 0) = false := decide_eq_false (by omega)
    rw [e0]
    walk_at "dl"
    exact hq
end
end K

set_option Elab.async false
set_option linter.all false
set_option maxRecDepth 100000
namespace K
open PySem L2 Evl EX DL
section
variable {P : Program} {w : World} {K : PySem.W.Frag} {mg : Str → Option Value} {base : Heap} {CT CH : Addr}
local macro_rules | `(tactic| walk_at "dl") => `(tactic| try simp only [↓x_fld, ↓x_fldS, ↓x_fldA, ↓x_meth, ↓x_make, ↓x_dget, ↓x_din, ↓x_dget1, ↓x_dget2, ↓x_dpop, ↓x_dput, ↓x_listD, ↓x_sortDI, ↓x_lenD, ↓x_isiC, x_icS, x_icI, x_icB, x_icN, x_ioS, x_ioI, x_ioB, x_ioN, ↓x_gSub, ↓x_sortDL, ↓x_eqO, ↓x_ninA, x_catN, x_isBB, x_isBN, x_isBI, x_isBS, x_isBR, ↓x_seq, ↓x_nx, ↓x_pass, ↓x_brk, ↓x_cnt, ↓x_drop, ↓x_ret, ↓x_retN, ↓x_ifS, ↓x_set, ↓x_asg, ↓x_gN, ↓x_gT, ↓x_gsC, ↓x_gsN, ↓x_var, x_rdv, ↓x_c, ↓x_op, ↓x_test, x_tst, ↓x_and, ↓x_or, ↓x_not, ↓x_andV, ↓x_orV, ↓x_notV, x_tstV, ↓x_ifE, x_true, x_false, ↓x_nil, ↓x_cons, ↓x_tup, ↓x_lst, ↓x_new, ↓x_newD, ↓x_call, ↓x_cb, x_oI, x_oIc, x_oS, x_addS, x_isN, x_notN, x_eqI, x_eqS, x_eqIS, x_eqSI, x_eqNS, x_neI, x_neS, x_neB, x_eqB, x_few, x_need, ↓x_ix, x_lenS, x_ixL0, x_ixT0, x_ixT1, x_ixT2, x_ixT3, x_ixT4, x_lenL, x_lenT, x_lenC, x_listL, x_listT, x_tupL, x_tupT, x_strI, x_strS, x_int1, x_intB, x_I1, x_I2, x_cat, x_catT, ↓x_split, ↓x_for, ↓x_cut, ↓x_lc, ↓x_whl, ↓x_diL, ↓x_diT, ↓x_diS, x_itL, x_itC, x_itT, x_itS, ↓x_diR1, ↓x_diR2, ↓x_diE, x_enmL, x_enmC, ↓x_gcN, ↓x_gcT, ↓x_yes, ↓x_ml, ↓x_ms, x_strq, x_ss, x_ssc, x_ssi, ↓x_join, ↓x_aug, x_st2I, ↓x_sl, ↓x_noP, ↓x_part, x_intq, x_slL, x_slC, x_slS, ↓x_in, x_inT, x_inL, x_ninT, x_ninL, x_inN, x_inSS, x_inSI, x_inIS, x_inII, ↓x_sg, x_sgS, x_nsgS, ↓x_eqD, ↓x_inDD, x_mulS, ↓x_isi, x_isiS, x_isiI, x_isiB, x_isiN, x_isiL, x_isiT, ↓x_isTT, x_itI, x_itStr, x_itN, x_itB, x_itLst, x_itTup, ↓x_any, ↓x_all, ↓x_sum, ↓x_srtI, ↓x_srtS, ↓x_intS, ↓x_lenRf, ↓x_tupRf, ↓x_frz', x_flS, x_flI, x_flN, x_flB, x_cs_bool, x_isB_NoneType_bool, x_isB_bool_bool, x_isB_int_bool, x_isB_str_bool, x_isB_list_bool, x_isB_tuple_bool, x_isB_dict_bool, x_cs_int, x_isB_NoneType_int, x_isB_bool_int, x_isB_int_int, x_isB_str_int, x_isB_list_int, x_isB_tuple_int, x_isB_dict_int, x_cs_str, x_isB_NoneType_str, x_isB_bool_str, x_isB_int_str, x_isB_str_str, x_isB_list_str, x_isB_tuple_str, x_isB_dict_str, x_cs_list, x_isB_NoneType_list, x_isB_bool_list, x_isB_int_list, x_isB_str_list, x_isB_list_list, x_isB_tuple_list, x_isB_dict_list, x_cs_tuple, x_isB_NoneType_tuple, x_isB_bool_tuple, x_isB_int_tuple, x_isB_str_tuple, x_isB_list_tuple, x_isB_tuple_tuple, x_isB_dict_tuple, x_cs_dict, x_isB_NoneType_dict, x_isB_bool_dict, x_isB_int_dict, x_isB_str_dict, x_isB_list_dict, x_isB_tuple_dict, x_isB_dict_dict, List.all_cons, List.all_nil, Bool.and_self, Bool.or_false, Bool.or_true, Bool.false_or, Bool.true_or, wipeD, setD, DL.isNon, List.set_cons_zero, List.set_cons_succ, List.getElem?_cons_zero, List.getElem?_cons_succ, List.length_cons, List.length_nil, Nat.zero_add, List.cons_append, List.nil_append, decide_true, decide_false, Bool.not_true, Bool.not_false, true_and, and_true, startD, List.map_cons, List.map_nil, Nat.reduceSub, Nat.reduceLeDiff, Nat.zero_le, Int.reduceLT, Int.reduceLE, and_self, Nat.reduceAdd, List.replicate])
/-- a value as it is put into parts: no thing, or another thing -/
inductive Hld (CT : Addr) (S : Sto) (t : Addr) : D → Int → Sto → Prop where
  | no {x : D} {i : Int} : NoTh x → Hld CT S t x i S
  | th {u du : Addr} {a b d e f g : D} {c i : Int} : u ≠ t → S u = some (.ins CT du (thFs a b (.int c) d e f g)) → c + i ≠ 0 → Hld CT S t (.ref u) i (put S u (.ins CT du (thFs a b (.int (c + i)) d e f g)))
def IsHall (CH : Addr) (S : Sto) (h : Addr) : Prop := ∃ dx a b c d e f, S h = some (.ins CH dx (haFs a b c d e f))
theorem Hld.hall {S S1 : Sto} {t h : Addr} {x : D} {i : Int} (H : Hld CT S t x i S1) (hc : CT ≠ CH) (hh : IsHall CH S h) : IsHall CH S1 h := by
  obtain ⟨dx, a, b, c, d, e, f, hh⟩ := hh
  cases H with
  | no _ => exact ⟨dx, a, b, c, d, e, f, hh⟩
  | @th u du a' b' d' e' f' g' c' i n hu _ =>
    refine ⟨dx, a, b, c, d, e, f, ?_⟩
    rw [put_ne (fun z => by rw [z, hu] at hh; injection hh with hh; injection hh with hh; exact hc hh)]
    exact hh
theorem Hld.keep {S S1 : Sto} {t : Addr} {x : D} {i : Int} (H : Hld CT S t x i S1) {o : O} (h : S t = some o) : S1 t = some o := by
  cases H with
  | no _ => exact h
  | th n _ _ => rw [put_ne n.symm]; exact h
theorem Hld.dct {S S1 : Sto} {t p : Addr} {x : D} {i : Int} (H : Hld CT S t x i S1) {kvs : List (Key × D)} (h : S p = some (.dct kvs)) : S1 p = some (.dct kvs) := by
  cases H with
  | no _ => exact h
  | th n hu _ => rw [put_ne (fun z => by rw [z, hu] at h; cases h)]; exact h
theorem hall_put {S : Sto} {h p : Addr} {o : O} {kvs : List (Key × D)} (hh : IsHall CH S h) (hp : S p = some (.dct kvs)) : IsHall CH (put S p o) h := by
  obtain ⟨dx, a, b, c, d, e, f, hh⟩ := hh
  exact ⟨dx, a, b, c, d, e, f, by rw [put_ne (fun z => by rw [z, hp] at hh; cases hh)]; exact hh⟩
theorem holdOf {S S1 : Sto} {t : Addr} {h x : D} {k : DK} (H : Hld CT S t x 1 S1) (q : k .non S1) : DL.ask (dHold CT) [h, x] S k ⟨⟩ := by
  refine ⟨h, x, rfl, ?_⟩
  cases H with
  | no hx => exact .inl ⟨hx, q⟩
  | th _ hu _ => exact .inr ⟨_, _, _, _, _, _, _, _, _, rfl, hu, q⟩
theorem looseOf {S S1 : Sto} {t : Addr} {h x : D} {k : DK} (H : Hld CT S t x (-1) S1) (q : k .non S1) : DL.ask (dLoose CT) [h, x] S k ⟨⟩ := by
  refine ⟨h, x, rfl, ?_⟩
  cases H with
  | no hx => exact .inl ⟨hx, q⟩
  | th _ hu hc => exact .inr ⟨_, _, _, _, _, _, _, _, _, rfl, by omega, hu, q⟩
theorem meth_hall {S : Sto} {h : Addr} {m : Str} (hh : IsHall CH S h) (hm : ∀ a b c d e f, (haFs a b c d e f).lookup m = none) : ∃ b dy gs, D.ref h = .ref b ∧ S b = some (.ins CH dy gs) ∧ gs.lookup m = none := by
  obtain ⟨dx, a, b, c, d, e, f, hh⟩ := hh
  exact ⟨h, dx, _, rfl, hh, hm _ _ _ _ _ _⟩
def dPut (CT CH : Addr) : SpD := fun ds S k _ => ∃ (h t dt pd : Addr) (key x a b c e f g : D) (ky : Key) (kvs : List (Key × D)) (S1 : Sto), ds = [.ref h, .ref t, key, x] ∧ CT ≠ CH ∧ IsHall CH S h ∧ S t = some (.ins CT dt (thFs a b c (.ref pd) e f g)) ∧ S pd = some (.dct kvs) ∧ keyD key = some ky ∧ gval kvs ky = none ∧ kvs.length < 100000 ∧
  Hld CT S t x 1 S1 ∧ k .non (put S1 pd (.dct (kvs ++ [(ky, x)])))
theorem ok_put {fa : Addr} {fd : FuncData} (F : Fun K "put" "Hall.put" s_Hall_put fa fd) (T : Txt K mg CT CH) (G_Hall_hold : MDef P w K mg base 1 CH "hold" ["self", "value"] (lSp K (dHold CT))) (G_Hall_loose : MDef P w K mg base 1 CH "loose" ["self", "value"] (lSp K (dLoose CT))) :
    FnOk P w K mg base CX0 2 fa fd ["self", "thing", "key", "value"] (lSp K (dPut CT CH)) := by
  refine dok F sc_Hall_put (fun ds S q qx ⟨h, t, dt, pd, key, x, a, b, c, e, f, g, ky, kvs, S1, z, _⟩ => by rw [z]; rfl) ⟨_, fun cdv A outer s H E hr => dss_cons (ds_set (i := 4) sc_Hall_put.nd rfl (Or.inl rfl) (de_dgets1 (hu_of hr) (de_fld T.Thing_ (by decide +kernel) (de_var 1)) (de_var 2)))
      (dss_cons (ds_expr (de_meth T.Hall_ G_Hall_hold (hr.mono (by decide)) (de_var 0) (da_cons (de_var 3) da_nil)))
      (dss_cons (ds_dput (hu_of hr) (de_fld T.Thing_ (by decide +kernel) (de_var 1)) (de_var 2) (de_var 3))
      (dss_one (ds_expr (de_meth T.Hall_ G_Hall_loose (hr.mono (by decide)) (de_var 0) (da_cons (de_var 4) da_nil)))))), fun ds S q qx ⟨h, t, dt, pd, key, x, a, b, c, e, f, g, ky, kvs, S1, hd, hc, hh, ht, hp, hk, hv, hl, hx, hq⟩ => ?_⟩
  subst hd
  walk_at "dl"
  refine fldOf ht th_parts (isDOf hp ?_)
  walk_at "dl"
  refine dgorOf hp hk ?_
  rw [hv]
  walk_at "dl"
  refine needOf (meth_hall hh fun _ _ _ _ _ _ => rfl) ?_
  walk_at "dl"
  refine holdOf hx ?_
  walk_at "dl"
  refine fldOf (hx.keep ht) th_parts ?_
  walk_at "dl"
  refine dputOf (hx.dct hp) hk hl ?_
  rw [gput_new hv]
  walk_at "dl"
  refine needOf (meth_hall (hall_put (hx.hall hc hh) (hx.dct hp)) fun _ _ _ _ _ _ => rfl) ?_
  walk_at "dl"
  exact looseOf (t := t) (.no .non) hq
def dThings (CH : Addr) : SpD := fun ds S k _ => ∃ (h dx th : Addr) (kvs : List (Key × D)) (ks : List Int) (a b c d e : D), ds = [.ref h] ∧ S h = some (.ins CH dx (haFs a b (.ref th) c d e)) ∧ S th = some (.dct kvs) ∧ kvs.map (·.1) = ks.map Sum.inl ∧ ks.length ≤ 100000 ∧ ∀ ys : List Int, ys.Perm ks → ys.Pairwise (· ≤ ·) → k (.list (ys.map D.int)) S
theorem ok_things {fa : Addr} {fd : FuncData} (F : Fun K "things" "Hall.things" s_Hall_things fa fd) (T : Txt K mg CT CH) : FnOk P w K mg base CX0 1 fa fd ["self"] (lSp K (dThings CH)) := by
  refine dok F sc_Hall_things (fun ds S q qx ⟨h, dx, th, kvs, ks, a, b, c, d, e, z, _⟩ => by rw [z]; rfl) ⟨_, fun cdv A outer s H E hr => dss_one (ds_ret (de_callB (SD.call_sortedDL rfl) si_sortDL (by rfl) T.sorted (by decide +kernel) (da_cons (de_fld T.Hall_ (by decide +kernel) (de_var 0)) da_nil))), fun ds S q qx ⟨h, dx, th, kvs, ks, a, b, c, d, e, hd, hh, ht, hk, hl, hq⟩ => ?_⟩
  subst hd
  walk_at "dl"
  refine fldOf hh ha_there ?_
  walk_at "dl"
  exact ⟨kvs, ks, ht, hk, hl, hq⟩
def dGone (CH : Addr) : SpD := fun ds S k _ => ∃ (h dx lf : Addr) (xs : List D) (a b c d e : D), ds = [.ref h] ∧ S h = some (.ins CH dx (haFs a b c (.ref lf) d e)) ∧ S lf = some (.lst xs) ∧ k (.list xs) S
theorem ok_gone {fa : Addr} {fd : FuncData} (F : Fun K "gone" "Hall.gone" s_Hall_gone fa fd) (T : Txt K mg CT CH) : FnOk P w K mg base CX0 1 fa fd ["self"] (lSp K (dGone CH)) := by
  refine dok F sc_Hall_gone (fun ds S q qx ⟨h, dx, lf, xs, a, b, c, d, e, z, _⟩ => by rw [z]; rfl) ⟨_, fun cdv A outer s H E hr => dss_one (ds_ret (de_callTy (clList (K := K)) si_list (by rfl) T.list (by decide +kernel) (da_cons (de_fld T.Hall_ (by decide +kernel) (de_var 0)) da_nil))), fun ds S q qx ⟨h, dx, lf, xs, a, b, c, d, e, hd, hh, hf, hq⟩ => ?_⟩
  subst hd
  walk_at "dl"
  refine fldOf hh ha_left ?_
  walk_at "dl"
  exact ⟨xs, hf, hq⟩
end
end K

set_option Elab.async false
set_option linter.all false
set_option maxRecDepth 100000
namespace K
open PySem L2 Evl EX DL
/-- where the hall and its things stand, a row being at work -/
structure Ad where
  h : Addr
  dx : Addr
  th : Addr
  lf : Addr
  r : Addr
  t : Nat → Addr
  pd : Nat → Addr
  dt : Nat → Addr
structure Md where
  cnt : Nat → Int
  parts : Nat → List (Key × Nat)
  wt : Nat → Bool
  there : List Nat
  left : List Nat
  row : List Nat
def fset {α : Type} (f : Nat → α) (n : Nat) (v : α) : Nat → α := fun i => if i = n then v else f i
theorem fset_same {α : Type} {f : Nat → α} {n : Nat} {v : α} : fset f n v n = v := by unfold fset; rw [if_pos rfl]
theorem fset_ne {α : Type} {f : Nat → α} {n i : Nat} {v : α} (h : i ≠ n) : fset f n v i = f i := by unfold fset; rw [if_neg h]
structure Rp (CT CH : Addr) (A : Ad) (m : Nat) (M : Md) (S : Sto) : Prop where
  hall : S A.h = some (.ins CH A.dx (haFs .non (.int (m : Int)) (.ref A.th) (.ref A.lf) (.ref A.r) (.int 0)))
  there : S A.th = some (.dct (M.there.map fun n : Nat => ((.inl (n : Int), .ref (A.t n)) : Key × D)))
  left : S A.lf = some (.lst (M.left.map fun n : Nat => .int (n : Int)))
  row : S A.r = some (.lst (M.row.map fun n => .ref (A.t n)))
  th : ∀ n, 1 ≤ n → n ≤ m → S (A.t n) = some (.ins CT (A.dt n) (thFs (.str (Str.ofString "being")) (.int (n : Int)) (.int (M.cnt n)) (.ref (A.pd n)) .non (.bl false) (.bl (M.wt n))))
  pt : ∀ n, 1 ≤ n → n ≤ m → S (A.pd n) = some (.dct ((M.parts n).map fun kj => (kj.1, .ref (A.t kj.2))))
  ti : ∀ i j, 1 ≤ i → i ≤ m → 1 ≤ j → j ≤ m → A.t i = A.t j → i = j
  pi : ∀ i j, 1 ≤ i → i ≤ m → 1 ≤ j → j ≤ m → A.pd i = A.pd j → i = j
  lr : A.lf ≠ A.r
  tp : ∀ n, 1 ≤ n → n ≤ m → A.th ≠ A.pd n
  cc : CT ≠ CH
/-- all else stays -/
def Fr (A : Ad) (m : Nat) (S S' : Sto) : Prop := ∀ b, b ≠ A.h → b ≠ A.th → b ≠ A.lf → b ≠ A.r → (∀ n, 1 ≤ n → n ≤ m → b ≠ A.t n) → (∀ n, 1 ≤ n → n ≤ m → b ≠ A.pd n) → S' b = S b
section
variable {CT CH : Addr} {A : Ad} {m n : Nat} {M : Md} {S : Sto}
theorem Fr.refl : Fr A m S S := fun _ _ _ _ _ _ _ => rfl
theorem Fr.trans {S1 S2 : Sto} (h1 : Fr A m S S1) (h2 : Fr A m S1 S2) : Fr A m S S2 := fun b a1 a2 a3 a4 a5 a6 => (h2 b a1 a2 a3 a4 a5 a6).trans (h1 b a1 a2 a3 a4 a5 a6)
/-- a thing's count and waits -/
theorem Rp.setT (R : Rp CT CH A m M S) (h1 : 1 ≤ n) (h2 : n ≤ m) (c : Int) (w : Bool) :
    Rp CT CH A m { M with cnt := fset M.cnt n c, wt := fset M.wt n w } (put S (A.t n) (.ins CT (A.dt n) (thFs (.str (Str.ofString "being")) (.int (n : Int)) (.int c) (.ref (A.pd n)) .non (.bl false) (.bl w)))) ∧
    Fr A m S (put S (A.t n) (.ins CT (A.dt n) (thFs (.str (Str.ofString "being")) (.int (n : Int)) (.int c) (.ref (A.pd n)) .non (.bl false) (.bl w)))) := by
  have e := R.th n h1 h2
  have nh : A.h ≠ A.t n := fun z => by have := R.hall; rw [z, e] at this; injection this with this; injection this with this; exact R.cc this
  have nt : A.th ≠ A.t n := fun z => by have := R.there; rw [z, e] at this; cases this
  have nl : A.lf ≠ A.t n := fun z => by have := R.left; rw [z, e] at this; cases this
  have nr : A.r ≠ A.t n := fun z => by have := R.row; rw [z, e] at this; cases this
  refine ⟨⟨by rw [put_ne nh]; exact R.hall, by rw [put_ne nt]; exact R.there, by rw [put_ne nl]; exact R.left, by rw [put_ne nr]; exact R.row, fun i a b => ?_, fun i a b => ?_, R.ti, R.pi, R.lr, R.tp, R.cc⟩, fun b _ _ _ _ a5 _ => put_ne (a5 n h1 h2)⟩
  · by_cases z : i = n
    · subst z
      rw [put_same]
      simp only [fset_same]
    · have : A.t i ≠ A.t n := fun y => z (R.ti i n a b h1 h2 y)
      rw [put_ne this, R.th i a b]
      simp only [fset_ne z]
  · have : A.pd i ≠ A.t n := fun y => by have := R.pt i a b; rw [y, e] at this; cases this
    rw [put_ne this]
    exact R.pt i a b
/-- the row -/
theorem Rp.setRow (R : Rp CT CH A m M S) (l : List Nat) : Rp CT CH A m { M with row := l } (put S A.r (.lst (l.map fun n => .ref (A.t n)))) ∧ Fr A m S (put S A.r (.lst (l.map fun n => .ref (A.t n)))) := by
  have e := R.row
  have nh : A.h ≠ A.r := fun z => by have := R.hall; rw [z, e] at this; cases this
  have nt : A.th ≠ A.r := fun z => by have := R.there; rw [z, e] at this; cases this
  refine ⟨⟨by rw [put_ne nh]; exact R.hall, by rw [put_ne nt]; exact R.there, by rw [put_ne R.lr]; exact R.left, put_same, fun i a b => ?_, fun i a b => ?_, R.ti, R.pi, R.lr, R.tp, R.cc⟩, fun b _ _ _ a4 _ _ => put_ne a4⟩
  · have : A.t i ≠ A.r := fun y => by have := R.th i a b; rw [y, e] at this; cases this
    rw [put_ne this]
    exact R.th i a b
  · have : A.pd i ≠ A.r := fun y => by have := R.pt i a b; rw [y, e] at this; cases this
    rw [put_ne this]
    exact R.pt i a b
end
end K

set_option Elab.async false
set_option linter.all false
set_option maxRecDepth 100000
namespace K
open PySem L2 Evl EX DL
section
variable {P : Program} {w : World} {K : PySem.W.Frag} {mg : Str → Option Value} {base : Heap} {CT CH : Addr}
local macro_rules | `(tactic| walk_at "dl") => `(tactic| try simp only [↓x_fld, ↓x_fldS, ↓x_fldA, ↓x_meth, ↓x_make, ↓x_dget, ↓x_din, ↓x_dget1, ↓x_dget2, ↓x_dpop, ↓x_dput, ↓x_listD, ↓x_sortDI, ↓x_lenD, ↓x_isiC, x_icS, x_icI, x_icB, x_icN, x_ioS, x_ioI, x_ioB, x_ioN, ↓x_gSub, ↓x_sortDL, ↓x_eqO, ↓x_ninA, x_catN, x_isBB, x_isBN, x_isBI, x_isBS, x_isBR, ↓x_seq, ↓x_nx, ↓x_pass, ↓x_brk, ↓x_cnt, ↓x_drop, ↓x_ret, ↓x_retN, ↓x_ifS, ↓x_set, ↓x_asg, ↓x_gN, ↓x_gT, ↓x_gsC, ↓x_gsN, ↓x_var, x_rdv, ↓x_c, ↓x_op, ↓x_test, x_tst, ↓x_and, ↓x_or, ↓x_not, ↓x_andV, ↓x_orV, ↓x_notV, x_tstV, ↓x_ifE, x_true, x_false, ↓x_nil, ↓x_cons, ↓x_tup, ↓x_lst, ↓x_new, ↓x_newD, ↓x_call, ↓x_cb, x_oI, x_oIc, x_oS, x_addS, x_isN, x_notN, x_eqI, x_eqS, x_eqIS, x_eqSI, x_eqNS, x_neI, x_neS, x_neB, x_eqB, x_few, x_need, ↓x_ix, x_lenS, x_ixL0, x_ixT0, x_ixT1, x_ixT2, x_ixT3, x_ixT4, x_lenL, x_lenT, x_lenC, x_listL, x_listT, x_tupL, x_tupT, x_strI, x_strS, x_int1, x_intB, x_I1, x_I2, x_cat, x_catT, ↓x_split, ↓x_for, ↓x_cut, ↓x_lc, ↓x_whl, ↓x_diL, ↓x_diT, ↓x_diS, x_itL, x_itC, x_itT, x_itS, ↓x_diR1, ↓x_diR2, ↓x_diE, x_enmL, x_enmC, ↓x_gcN, ↓x_gcT, ↓x_yes, ↓x_ml, ↓x_ms, x_strq, x_ss, x_ssc, x_ssi, ↓x_join, ↓x_aug, x_st2I, ↓x_sl, ↓x_noP, ↓x_part, x_intq, x_slL, x_slC, x_slS, ↓x_in, x_inT, x_inL, x_ninT, x_ninL, x_inN, x_inSS, x_inSI, x_inIS, x_inII, ↓x_sg, x_sgS, x_nsgS, ↓x_eqD, ↓x_inDD, x_mulS, ↓x_isi, x_isiS, x_isiI, x_isiB, x_isiN, x_isiL, x_isiT, ↓x_isTT, x_itI, x_itStr, x_itN, x_itB, x_itLst, x_itTup, ↓x_any, ↓x_all, ↓x_sum, ↓x_srtI, ↓x_srtS, ↓x_intS, ↓x_lenRf, ↓x_tupRf, ↓x_frz', x_flS, x_flI, x_flN, x_flB, x_cs_bool, x_isB_NoneType_bool, x_isB_bool_bool, x_isB_int_bool, x_isB_str_bool, x_isB_list_bool, x_isB_tuple_bool, x_isB_dict_bool, x_cs_int, x_isB_NoneType_int, x_isB_bool_int, x_isB_int_int, x_isB_str_int, x_isB_list_int, x_isB_tuple_int, x_isB_dict_int, x_cs_str, x_isB_NoneType_str, x_isB_bool_str, x_isB_int_str, x_isB_str_str, x_isB_list_str, x_isB_tuple_str, x_isB_dict_str, x_cs_list, x_isB_NoneType_list, x_isB_bool_list, x_isB_int_list, x_isB_str_list, x_isB_list_list, x_isB_tuple_list, x_isB_dict_list, x_cs_tuple, x_isB_NoneType_tuple, x_isB_bool_tuple, x_isB_int_tuple, x_isB_str_tuple, x_isB_list_tuple, x_isB_tuple_tuple, x_isB_dict_tuple, x_cs_dict, x_isB_NoneType_dict, x_isB_bool_dict, x_isB_int_dict, x_isB_str_dict, x_isB_list_dict, x_isB_tuple_dict, x_isB_dict_dict, List.all_cons, List.all_nil, Bool.and_self, Bool.or_false, Bool.or_true, Bool.false_or, Bool.true_or, wipeD, setD, DL.isNon, List.set_cons_zero, List.set_cons_succ, List.getElem?_cons_zero, List.getElem?_cons_succ, List.length_cons, List.length_nil, Nat.zero_add, List.cons_append, List.nil_append, decide_true, decide_false, Bool.not_true, Bool.not_false, true_and, and_true, startD, List.map_cons, List.map_nil, Nat.reduceSub, Nat.reduceLeDiff, Nat.zero_le, Int.reduceLT, Int.reduceLE, and_self, Nat.reduceAdd, List.replicate])
theorem there_some {A : Ad} {l : List Nat} {n : Nat} (h : n ∈ l) : (gval (l.map fun n : Nat => ((.inl (n : Int), .ref (A.t n)) : Key × D)) (.inl (n : Int))).isSome = true := by
  unfold gval
  rw [Option.isSome_map, List.find?_isSome]
  exact ⟨_, List.mem_map.mpr ⟨n, h, rfl⟩, by simp⟩
def dLetIn (CT CH : Addr) : SpD := fun ds S k _ => ∃ (A : Ad) (m : Nat) (M : Md) (n : Nat), ds = [.ref A.h, .ref (A.t n)] ∧ Rp CT CH A m M S ∧ 1 ≤ n ∧ n ≤ m ∧ M.wt n = false ∧ n ∈ M.there ∧ M.row.length < 10000 ∧
  ∀ S', Rp CT CH A m { M with cnt := fset M.cnt n (M.cnt n), wt := fset M.wt n true, row := M.row ++ [n] } S' → Fr A m S S' → k .non S'
theorem ok_let_in {fa : Addr} {fd : FuncData} (F : Fun K "let_go" "Hall.let_go" s_Hall_let_go fa fd) (T : Txt K mg CT CH) : FnOk P w K mg base CX0 1 fa fd ["self", "thing"] (lSp K (dLetIn CT CH)) := by
  refine dok F sc_Hall_let_go (fun ds S q qx ⟨A, m, M, n, e, _⟩ => by rw [e]; rfl) ⟨_, fun cdv A outer s H E hr => dss_cons (ds_if (PW.pt (dw_or (dt_val (de_fld T.Thing_ (by decide +kernel) (de_var 1))) (dw_or1 (dt_dinN (hu_of hr) (de_fld T.Thing_ (by decide +kernel) (de_var 1)) (de_fld T.Hall_ (by decide +kernel) (de_var 0))))))
        (dss_one (ds_retN))
        (dss_nil))
      (dss_cons (ds_fld T.Thing_ (by decide +kernel) (de_var 1) (de_bl))
      (dss_one (ds_if (dt_cmp op_isN si_isN (de_fld T.Hall_ (by decide +kernel) (de_var 0)) (de_non) (nomark _))
        (dss_cons (ds_fld T.Hall_ (by decide +kernel) (de_var 0) (de_new (da_cons (de_var 1) da_nil)))
        (dss_one (ds_never)))
        (dss_one (ds_expr (de_ml PySem.F.slot_list_append PySem.F.type_list_append mt_append si_app (de_fld T.Hall_ (by decide +kernel) (de_var 0)) (da_cons (de_var 1) da_nil))))))), fun ds S q qx ⟨A, m, M, n, hd, R, h1, h2, hw, ht, hl, hq⟩ => ?_⟩
  subst hd
  have e := R.th n h1 h2
  walk_at "dl"
  refine fldOf e th_waits ?_
  rw [hw]
  walk_at "dl"
  refine fldOf e th_number ?_
  walk_at "dl"
  refine fldOf R.hall ha_there ?_
  walk_at "dl"
  refine dninOf R.there rfl ?_
  rw [there_some ht]
  walk_at "dl"
  refine fldsOf e (Nat.le_of_ble_eq_true rfl) ?_
  rw [th_waits']
  obtain ⟨R1, f1⟩ := R.setT h1 h2 (M.cnt n) true
  walk_at "dl"
  refine fldOf R1.hall ha_row ?_
  walk_at "dl"
  refine fldOf R1.hall ha_row ?_
  walk_at "dl"
  refine needOf (isLOf R1.row) ?_
  walk_at "dl"
  refine appOf R1.row (by rw [List.length_map]; show M.row.length < 100000; omega) ?_
  obtain ⟨R2, f2⟩ := R1.setRow (M.row ++ [n])
  rw [List.map_append] at R2 f2
  exact hq _ R2 (f1.trans f2)
end
end K

set_option Elab.async false
set_option linter.all false
set_option maxRecDepth 100000
namespace K
open PySem L2 Evl EX DL
theorem fset_fset {α : Type} {f : Nat → α} {n : Nat} {a b : α} : fset (fset f n a) n b = fset f n b := by
  funext i
  unfold fset
  split <;> rfl
theorem fset_id {α : Type} {f : Nat → α} {n : Nat} : fset f n (f n) = f := by
  funext i
  unfold fset
  split
  · rename_i h; rw [h]
  · rfl
section
variable {P : Program} {w : World} {K : PySem.W.Frag} {mg : Str → Option Value} {base : Heap} {CT CH : Addr}
local macro_rules | `(tactic| walk_at "dl") => `(tactic| try simp only [↓x_fld, ↓x_fldS, ↓x_fldA, ↓x_meth, ↓x_make, ↓x_dget, ↓x_din, ↓x_dget1, ↓x_dget2, ↓x_dpop, ↓x_dput, ↓x_listD, ↓x_sortDI, ↓x_lenD, ↓x_isiC, x_icS, x_icI, x_icB, x_icN, x_ioS, x_ioI, x_ioB, x_ioN, ↓x_gSub, ↓x_sortDL, ↓x_eqO, ↓x_ninA, x_catN, x_isBB, x_isBN, x_isBI, x_isBS, x_isBR, ↓x_seq, ↓x_nx, ↓x_pass, ↓x_brk, ↓x_cnt, ↓x_drop, ↓x_ret, ↓x_retN, ↓x_ifS, ↓x_set, ↓x_asg, ↓x_gN, ↓x_gT, ↓x_gsC, ↓x_gsN, ↓x_var, x_rdv, ↓x_c, ↓x_op, ↓x_test, x_tst, ↓x_and, ↓x_or, ↓x_not, ↓x_andV, ↓x_orV, ↓x_notV, x_tstV, ↓x_ifE, x_true, x_false, ↓x_nil, ↓x_cons, ↓x_tup, ↓x_lst, ↓x_new, ↓x_newD, ↓x_call, ↓x_cb, x_oI, x_oIc, x_oS, x_addS, x_isN, x_notN, x_eqI, x_eqS, x_eqIS, x_eqSI, x_eqNS, x_neI, x_neS, x_neB, x_eqB, x_few, x_need, ↓x_ix, x_lenS, x_ixL0, x_ixT0, x_ixT1, x_ixT2, x_ixT3, x_ixT4, x_lenL, x_lenT, x_lenC, x_listL, x_listT, x_tupL, x_tupT, x_strI, x_strS, x_int1, x_intB, x_I1, x_I2, x_cat, x_catT, ↓x_split, ↓x_for, ↓x_cut, ↓x_lc, ↓x_whl, ↓x_diL, ↓x_diT, ↓x_diS, x_itL, x_itC, x_itT, x_itS, ↓x_diR1, ↓x_diR2, ↓x_diE, x_enmL, x_enmC, ↓x_gcN, ↓x_gcT, ↓x_yes, ↓x_ml, ↓x_ms, x_strq, x_ss, x_ssc, x_ssi, ↓x_join, ↓x_aug, x_st2I, ↓x_sl, ↓x_noP, ↓x_part, x_intq, x_slL, x_slC, x_slS, ↓x_in, x_inT, x_inL, x_ninT, x_ninL, x_inN, x_inSS, x_inSI, x_inIS, x_inII, ↓x_sg, x_sgS, x_nsgS, ↓x_eqD, ↓x_inDD, x_mulS, ↓x_isi, x_isiS, x_isiI, x_isiB, x_isiN, x_isiL, x_isiT, ↓x_isTT, x_itI, x_itStr, x_itN, x_itB, x_itLst, x_itTup, ↓x_any, ↓x_all, ↓x_sum, ↓x_srtI, ↓x_srtS, ↓x_intS, ↓x_lenRf, ↓x_tupRf, ↓x_frz', x_flS, x_flI, x_flN, x_flB, x_cs_bool, x_isB_NoneType_bool, x_isB_bool_bool, x_isB_int_bool, x_isB_str_bool, x_isB_list_bool, x_isB_tuple_bool, x_isB_dict_bool, x_cs_int, x_isB_NoneType_int, x_isB_bool_int, x_isB_int_int, x_isB_str_int, x_isB_list_int, x_isB_tuple_int, x_isB_dict_int, x_cs_str, x_isB_NoneType_str, x_isB_bool_str, x_isB_int_str, x_isB_str_str, x_isB_list_str, x_isB_tuple_str, x_isB_dict_str, x_cs_list, x_isB_NoneType_list, x_isB_bool_list, x_isB_int_list, x_isB_str_list, x_isB_list_list, x_isB_tuple_list, x_isB_dict_list, x_cs_tuple, x_isB_NoneType_tuple, x_isB_bool_tuple, x_isB_int_tuple, x_isB_str_tuple, x_isB_list_tuple, x_isB_tuple_tuple, x_isB_dict_tuple, x_cs_dict, x_isB_NoneType_dict, x_isB_bool_dict, x_isB_int_dict, x_isB_str_dict, x_isB_list_dict, x_isB_tuple_dict, x_isB_dict_dict, List.all_cons, List.all_nil, Bool.and_self, Bool.or_false, Bool.or_true, Bool.false_or, Bool.true_or, wipeD, setD, DL.isNon, List.set_cons_zero, List.set_cons_succ, List.getElem?_cons_zero, List.getElem?_cons_succ, List.length_cons, List.length_nil, Nat.zero_add, List.cons_append, List.nil_append, decide_true, decide_false, Bool.not_true, Bool.not_false, true_and, and_true, startD, List.map_cons, List.map_nil, Nat.reduceSub, Nat.reduceLeDiff, Nat.zero_le, Int.reduceLT, Int.reduceLE, and_self, Nat.reduceAdd, List.replicate])
/-- what a loose does, a row being at work -/
def Md.loosed (M : Md) (n : Nat) : Md := if M.cnt n - 1 = 0 then { M with cnt := fset M.cnt n (M.cnt n - 1), wt := fset M.wt n true, row := M.row ++ [n] } else { M with cnt := fset M.cnt n (M.cnt n - 1) }
def dLooseIn (CT CH : Addr) : SpD := fun ds S k _ => ∃ (A : Ad) (m : Nat) (M : Md) (n : Nat), ds = [.ref A.h, .ref (A.t n)] ∧ Rp CT CH A m M S ∧ 1 ≤ n ∧ n ≤ m ∧ M.wt n = false ∧ n ∈ M.there ∧ M.row.length < 10000 ∧
  ∀ S', Rp CT CH A m (M.loosed n) S' → Fr A m S S' → k .non S'
theorem ok_loose_in {fa : Addr} {fd : FuncData} (F : Fun K "loose" "Hall.loose" s_Hall_loose fa fd) (T : Txt K mg CT CH) (G_Hall_let_go : MDef P w K mg base 1 CH "let_go" ["self", "thing"] (lSp K (dLetIn CT CH))) : FnOk P w K mg base CX0 2 fa fd ["self", "value"] (lSp K (dLooseIn CT CH)) := by
  refine dok F sc_Hall_loose (fun ds S q qx ⟨A, m, M, n, e, _⟩ => by rw [e]; rfl) ⟨_, fun cdv A outer s H E hr => dss_one (ds_if (dt_val (de_callB (clIsi' (K := K)) (si_isiC T.ThingI) (by rfl) T.isinstance (by decide +kernel) (da_cons (de_var 1) (da_cons (de_gl (by rfl) T.Thing) da_nil))))
        (dss_cons (ds_fldaug T.Thing_ (by decide +kernel) (de_var 1) (de_int) in_sub)
        (dss_one (ds_if (dt_cmp op_eq si_eq (de_fld T.Thing_ (by decide +kernel) (de_var 1)) (de_int) (nomark _))
          (dss_one (ds_expr (de_meth T.Hall_ G_Hall_let_go (hr.mono (by decide)) (de_var 0) (da_cons (de_var 1) da_nil))))
          (dss_nil))))
        (dss_nil)), fun ds S q qx ⟨A, m, M, n, hd, R, h1, h2, hw, ht, hl, hq⟩ => ?_⟩
  subst hd
  have e := R.th n h1 h2
  walk_at "dl"
  rw [x_own e]
  walk_at "dl"
  refine fldOf e th_count ?_
  walk_at "dl"
  refine fldsOf e (Nat.le_of_ble_eq_true rfl) ?_
  rw [th_count']
  obtain ⟨R1, f1⟩ := R.setT h1 h2 (M.cnt n - 1) (M.wt n)
  have e1 := R1.th n h1 h2
  walk_at "dl"
  refine fldOf put_same th_count ?_
  walk_at "dl"
  unfold Md.loosed at hq
  by_cases z : M.cnt n - 1 = 0
  · rw [if_pos z] at hq
    rw [decide_eq_true z]
    walk_at "dl"
    refine needOf (methOf (x := .non) R1.hall rfl) ?_
    walk_at "dl"
    refine ⟨A, m, _, n, rfl, R1, h1, h2, by show fset M.wt n (M.wt n) n = false; rw [fset_same]; exact hw, ht, hl, fun S' R2 f2 => ?_⟩
    refine hq S' ?_ (f1.trans f2)
    have e2 : fset (fset M.cnt n (M.cnt n - 1)) n (fset M.cnt n (M.cnt n - 1) n) = fset M.cnt n (M.cnt n - 1) := fset_id
    have e3 : fset (fset M.wt n (M.wt n)) n true = fset M.wt n true := fset_fset
    rw [← e2, ← e3]
    exact R2
  · rw [if_neg z] at hq
    rw [decide_eq_false z]
    walk_at "dl"
    refine hq _ ?_ f1
    rw [fset_id (f := M.wt)] at R1
    exact R1
end
end K

set_option Elab.async false
set_option linter.all false
set_option maxRecDepth 100000
namespace K
open PySem L2 Evl EX DL
section
variable {CT CH : Addr} {A : Ad} {m n : Nat} {M : Md} {S : Sto}
theorem Rp.setThere (R : Rp CT CH A m M S) (l : List Nat) : Rp CT CH A m { M with there := l } (put S A.th (.dct (l.map fun n : Nat => ((.inl (n : Int), .ref (A.t n)) : Key × D)))) ∧ Fr A m S (put S A.th (.dct (l.map fun n : Nat => ((.inl (n : Int), .ref (A.t n)) : Key × D)))) := by
  have e := R.there
  have nh : A.h ≠ A.th := fun z => by have := R.hall; rw [z, e] at this; cases this
  have nl : A.lf ≠ A.th := fun z => by have := R.left; rw [z, e] at this; cases this
  have nr : A.r ≠ A.th := fun z => by have := R.row; rw [z, e] at this; cases this
  refine ⟨⟨by rw [put_ne nh]; exact R.hall, put_same, by rw [put_ne nl]; exact R.left, by rw [put_ne nr]; exact R.row, fun i a b => ?_, fun i a b => ?_, R.ti, R.pi, R.lr, R.tp, R.cc⟩, fun b _ a2 _ _ _ _ => put_ne a2⟩
  · have : A.t i ≠ A.th := fun y => by have := R.th i a b; rw [y, e] at this; cases this
    rw [put_ne this]
    exact R.th i a b
  · rw [put_ne (R.tp i a b).symm]
    exact R.pt i a b
theorem Rp.setLeft (R : Rp CT CH A m M S) (l : List Nat) : Rp CT CH A m { M with left := l } (put S A.lf (.lst (l.map fun n : Nat => .int (n : Int)))) ∧ Fr A m S (put S A.lf (.lst (l.map fun n : Nat => .int (n : Int)))) := by
  have e := R.left
  have nh : A.h ≠ A.lf := fun z => by have := R.hall; rw [z, e] at this; cases this
  have nt : A.th ≠ A.lf := fun z => by have := R.there; rw [z, e] at this; cases this
  refine ⟨⟨by rw [put_ne nh]; exact R.hall, by rw [put_ne nt]; exact R.there, put_same, by rw [put_ne R.lr.symm]; exact R.row, fun i a b => ?_, fun i a b => ?_, R.ti, R.pi, R.lr, R.tp, R.cc⟩, fun b _ _ a3 _ _ _ => put_ne a3⟩
  · have : A.t i ≠ A.lf := fun y => by have := R.th i a b; rw [y, e] at this; cases this
    rw [put_ne this]
    exact R.th i a b
  · have : A.pd i ≠ A.lf := fun y => by have := R.pt i a b; rw [y, e] at this; cases this
    rw [put_ne this]
    exact R.pt i a b
theorem Rp.setParts (R : Rp CT CH A m M S) (h1 : 1 ≤ n) (h2 : n ≤ m) (l : List (Key × Nat)) : Rp CT CH A m { M with parts := fset M.parts n l } (put S (A.pd n) (.dct (l.map fun kj => (kj.1, .ref (A.t kj.2))))) ∧ Fr A m S (put S (A.pd n) (.dct (l.map fun kj => (kj.1, .ref (A.t kj.2))))) := by
  have e := R.pt n h1 h2
  have nh : A.h ≠ A.pd n := fun z => by have := R.hall; rw [z, e] at this; cases this
  have nl : A.lf ≠ A.pd n := fun z => by have := R.left; rw [z, e] at this; cases this
  have nr : A.r ≠ A.pd n := fun z => by have := R.row; rw [z, e] at this; cases this
  refine ⟨⟨by rw [put_ne nh]; exact R.hall, by rw [put_ne (R.tp n h1 h2)]; exact R.there, by rw [put_ne nl]; exact R.left, by rw [put_ne nr]; exact R.row, fun i a b => ?_, fun i a b => ?_, R.ti, R.pi, R.lr, R.tp, R.cc⟩, fun b _ _ _ _ _ a6 => put_ne (a6 n h1 h2)⟩
  · have : A.t i ≠ A.pd n := fun y => by have := R.th i a b; rw [y, e] at this; cases this
    rw [put_ne this]
    exact R.th i a b
  · by_cases z : i = n
    · subst z
      rw [put_same]
      simp only [fset_same]
    · have : A.pd i ≠ A.pd n := fun y => z (R.pi i n a b h1 h2 y)
      rw [put_ne this, R.pt i a b]
      simp only [fset_ne z]
theorem there_get {l : List Nat} (h : n ∈ l) : ∃ v, gval (l.map fun n : Nat => ((.inl (n : Int), .ref (A.t n)) : Key × D)) (.inl (n : Int)) = some v := Option.isSome_iff_exists.mp (there_some h)
theorem there_drop (l : List Nat) : gdrop (l.map fun n : Nat => ((.inl (n : Int), .ref (A.t n)) : Key × D)) (.inl (n : Int)) = (l.filter fun i => decide (i ≠ n)).map fun n : Nat => ((.inl (n : Int), .ref (A.t n)) : Key × D) := by
  unfold gdrop
  rw [List.filter_map]
  congr 1
  refine List.filter_congr fun i _ => ?_
  show decide ((Sum.inl (i : Int) : Key) ≠ Sum.inl (n : Int)) = decide (i ≠ n)
  rw [Bool.eq_iff_iff, decide_eq_true_iff, decide_eq_true_iff]
  constructor
  · intro z y; exact z (by rw [y])
  · intro z y; exact z (by have := Sum.inl.inj y; omega)
end
section
variable {P : Program} {w : World} {K : PySem.W.Frag} {mg : Str → Option Value} {base : Heap} {CT CH : Addr}
local macro_rules | `(tactic| walk_at "dl") => `(tactic| try simp only [↓x_fld, ↓x_fldS, ↓x_fldA, ↓x_meth, ↓x_make, ↓x_dget, ↓x_din, ↓x_dget1, ↓x_dget2, ↓x_dpop, ↓x_dput, ↓x_listD, ↓x_sortDI, ↓x_lenD, ↓x_isiC, x_icS, x_icI, x_icB, x_icN, x_ioS, x_ioI, x_ioB, x_ioN, ↓x_gSub, ↓x_sortDL, ↓x_eqO, ↓x_ninA, x_catN, x_isBB, x_isBN, x_isBI, x_isBS, x_isBR, ↓x_seq, ↓x_nx, ↓x_pass, ↓x_brk, ↓x_cnt, ↓x_drop, ↓x_ret, ↓x_retN, ↓x_ifS, ↓x_set, ↓x_asg, ↓x_gN, ↓x_gT, ↓x_gsC, ↓x_gsN, ↓x_var, x_rdv, ↓x_c, ↓x_op, ↓x_test, x_tst, ↓x_and, ↓x_or, ↓x_not, ↓x_andV, ↓x_orV, ↓x_notV, x_tstV, ↓x_ifE, x_true, x_false, ↓x_nil, ↓x_cons, ↓x_tup, ↓x_lst, ↓x_new, ↓x_newD, ↓x_call, ↓x_cb, x_oI, x_oIc, x_oS, x_addS, x_isN, x_notN, x_eqI, x_eqS, x_eqIS, x_eqSI, x_eqNS, x_neI, x_neS, x_neB, x_eqB, x_few, x_need, ↓x_ix, x_lenS, x_ixL0, x_ixT0, x_ixT1, x_ixT2, x_ixT3, x_ixT4, x_lenL, x_lenT, x_lenC, x_listL, x_listT, x_tupL, x_tupT, x_strI, x_strS, x_int1, x_intB, x_I1, x_I2, x_cat, x_catT, ↓x_split, ↓x_for, ↓x_cut, ↓x_lc, ↓x_whl, ↓x_diL, ↓x_diT, ↓x_diS, x_itL, x_itC, x_itT, x_itS, ↓x_diR1, ↓x_diR2, ↓x_diE, x_enmL, x_enmC, ↓x_gcN, ↓x_gcT, ↓x_yes, ↓x_ml, ↓x_ms, x_strq, x_ss, x_ssc, x_ssi, ↓x_join, ↓x_aug, x_st2I, ↓x_sl, ↓x_noP, ↓x_part, x_intq, x_slL, x_slC, x_slS, ↓x_in, x_inT, x_inL, x_ninT, x_ninL, x_inN, x_inSS, x_inSI, x_inIS, x_inII, ↓x_sg, x_sgS, x_nsgS, ↓x_eqD, ↓x_inDD, x_mulS, ↓x_isi, x_isiS, x_isiI, x_isiB, x_isiN, x_isiL, x_isiT, ↓x_isTT, x_itI, x_itStr, x_itN, x_itB, x_itLst, x_itTup, ↓x_any, ↓x_all, ↓x_sum, ↓x_srtI, ↓x_srtS, ↓x_intS, ↓x_lenRf, ↓x_tupRf, ↓x_frz', x_flS, x_flI, x_flN, x_flB, x_cs_bool, x_isB_NoneType_bool, x_isB_bool_bool, x_isB_int_bool, x_isB_str_bool, x_isB_list_bool, x_isB_tuple_bool, x_isB_dict_bool, x_cs_int, x_isB_NoneType_int, x_isB_bool_int, x_isB_int_int, x_isB_str_int, x_isB_list_int, x_isB_tuple_int, x_isB_dict_int, x_cs_str, x_isB_NoneType_str, x_isB_bool_str, x_isB_int_str, x_isB_str_str, x_isB_list_str, x_isB_tuple_str, x_isB_dict_str, x_cs_list, x_isB_NoneType_list, x_isB_bool_list, x_isB_int_list, x_isB_str_list, x_isB_list_list, x_isB_tuple_list, x_isB_dict_list, x_cs_tuple, x_isB_NoneType_tuple, x_isB_bool_tuple, x_isB_int_tuple, x_isB_str_tuple, x_isB_list_tuple, x_isB_tuple_tuple, x_isB_dict_tuple, x_cs_dict, x_isB_NoneType_dict, x_isB_bool_dict, x_isB_int_dict, x_isB_str_dict, x_isB_list_dict, x_isB_tuple_dict, x_isB_dict_dict, List.all_cons, List.all_nil, Bool.and_self, Bool.or_false, Bool.or_true, Bool.false_or, Bool.true_or, wipeD, setD, DL.isNon, List.set_cons_zero, List.set_cons_succ, List.getElem?_cons_zero, List.getElem?_cons_succ, List.length_cons, List.length_nil, Nat.zero_add, List.cons_append, List.nil_append, decide_true, decide_false, Bool.not_true, Bool.not_false, true_and, and_true, startD, List.map_cons, List.map_nil, Nat.reduceSub, Nat.reduceLeDiff, Nat.zero_le, Int.reduceLT, Int.reduceLE, and_self, Nat.reduceAdd, List.replicate])
def dAskLast (CT CH : Addr) : SpD := fun ds S k _ => ∃ (A : Ad) (m : Nat) (M : Md) (n : Nat), ds = [.ref A.h, .ref (A.t n)] ∧ Rp CT CH A m M S ∧ k .non S
theorem ok_ask_last {fa : Addr} {fd : FuncData} (F : Fun K "ask_last" "Hall.ask_last" s_Hall_ask_last fa fd) (T : Txt K mg CT CH) : FnOk P w K mg base CX0 1 fa fd ["self", "thing"] (lSp K (dAskLast CT CH)) := by
  refine dok F sc_Hall_ask_last (fun ds S q qx ⟨A, m, M, n, e, _⟩ => by rw [e]; rfl) ⟨_, fun cdv A outer s H E hr => dss_cons (ds_if (PW.pt (dw_or (dt_cmp op_isN si_isN (de_fld T.Hall_ (by decide +kernel) (de_var 0)) (de_non) (nomark _)) (dw_or1 (dt_val (de_fld T.Thing_ (by decide +kernel) (de_var 1))))))
        (dss_one (ds_retN))
        (dss_nil))
      (dss_cons (ds_fld T.Thing_ (by decide +kernel) (de_var 1) (de_bl))
      (dss_cons (ds_set (i := 2) sc_Hall_ask_last.nd rfl (Or.inl rfl) (de_fld T.Hall_ (by decide +kernel) (de_var 0)))
      (dss_cons (ds_fld T.Hall_ (by decide +kernel) (de_var 0) (de_non))
      (dss_cons (ds_fldaug T.Hall_ (by decide +kernel) (de_var 0) (de_int) in_add)
      (dss_cons (ds_never)
      (dss_cons (ds_fldaug T.Hall_ (by decide +kernel) (de_var 0) (de_int) in_sub)
      (dss_one (ds_fld T.Hall_ (by decide +kernel) (de_var 0) (de_var 2))))))))), fun ds S q qx ⟨A, m, M, n, hd, R, hq⟩ => ?_⟩
  subst hd
  walk_at "dl"
  refine fldOf R.hall ha_ender ?_
  walk_at "dl"
  exact hq
def dBeGone (CT CH : Addr) : SpD := fun ds S k _ => ∃ (A : Ad) (m : Nat) (M : Md) (n : Nat), ds = [.ref A.h, .ref (A.t n)] ∧ Rp CT CH A m M S ∧ 1 ≤ n ∧ n ≤ m ∧ n ∈ M.there ∧ M.left.length < 10000 ∧
  ∀ S', Rp CT CH A m { M with there := M.there.filter fun i => decide (i ≠ n), left := M.left ++ [n] } S' → Fr A m S S' → k .non S'
theorem ok_be_gone {fa : Addr} {fd : FuncData} (F : Fun K "be_gone" "Hall.be_gone" s_Hall_be_gone fa fd) (T : Txt K mg CT CH) : FnOk P w K mg base CX0 1 fa fd ["self", "thing"] (lSp K (dBeGone CT CH)) := by
  refine dok F sc_Hall_be_gone (fun ds S q qx ⟨A, m, M, n, e, _⟩ => by rw [e]; rfl) ⟨_, fun cdv A outer s H E hr => dss_cons (ds_expr (de_dpop (de_fld T.Hall_ (by decide +kernel) (de_var 0)) (de_fld T.Thing_ (by decide +kernel) (de_var 1))))
      (dss_one (ds_expr (de_ml PySem.F.slot_list_append PySem.F.type_list_append mt_append si_app (de_fld T.Hall_ (by decide +kernel) (de_var 0)) (da_cons (de_fld T.Thing_ (by decide +kernel) (de_var 1)) da_nil)))), fun ds S q qx ⟨A, m, M, n, hd, R, h1, h2, ht, hl, hq⟩ => ?_⟩
  subst hd
  have e := R.th n h1 h2
  walk_at "dl"
  refine fldOf R.hall ha_there (isDOf R.there ?_)
  walk_at "dl"
  refine fldOf e th_number ?_
  walk_at "dl"
  obtain ⟨v, hv⟩ := there_get (A := A) ht
  refine dpopOf R.there rfl hv ?_
  rw [there_drop]
  obtain ⟨R1, f1⟩ := R.setThere (M.there.filter fun i => decide (i ≠ n))
  walk_at "dl"
  refine fldOf R1.hall ha_left ?_
  walk_at "dl"
  refine needOf (isLOf R1.left) ?_
  walk_at "dl"
  refine fldOf (R1.th n h1 h2) th_number ?_
  walk_at "dl"
  refine appOf R1.left (by rw [List.length_map]; show M.left.length < 100000; omega) ?_
  obtain ⟨R2, f2⟩ := R1.setLeft (M.left ++ [n])
  rw [List.map_append] at R2 f2
  exact hq _ R2 (f1.trans f2)
end
end K

set_option Elab.async false
set_option linter.all false
set_option maxRecDepth 100000
namespace K
open PySem L2 Evl EX DL
def Md.fold (M : Md) (l : List (Key × Nat)) : Md := l.foldl (fun M kj => M.loosed kj.2) M
theorem Md.loosed_parts (M : Md) (n : Nat) : (M.loosed n).parts = M.parts := by unfold Md.loosed; split <;> rfl
theorem Md.loosed_with (M : Md) (n : Nat) (p : Nat → List (Key × Nat)) : ({ M with parts := p } : Md).loosed n = { M.loosed n with parts := p } := by
  unfold Md.loosed
  split <;> rfl
section
variable {P : Program} {w : World} {K : PySem.W.Frag} {mg : Str → Option Value} {base : Heap} {CT CH : Addr}
local macro_rules | `(tactic| walk_at "dl") => `(tactic| try simp only [↓x_fld, ↓x_fldS, ↓x_fldA, ↓x_meth, ↓x_make, ↓x_dget, ↓x_din, ↓x_dget1, ↓x_dget2, ↓x_dpop, ↓x_dput, ↓x_listD, ↓x_sortDI, ↓x_lenD, ↓x_isiC, x_icS, x_icI, x_icB, x_icN, x_ioS, x_ioI, x_ioB, x_ioN, ↓x_gSub, ↓x_sortDL, ↓x_eqO, ↓x_ninA, x_catN, x_isBB, x_isBN, x_isBI, x_isBS, x_isBR, ↓x_seq, ↓x_nx, ↓x_pass, ↓x_brk, ↓x_cnt, ↓x_drop, ↓x_ret, ↓x_retN, ↓x_ifS, ↓x_set, ↓x_asg, ↓x_gN, ↓x_gT, ↓x_gsC, ↓x_gsN, ↓x_var, x_rdv, ↓x_c, ↓x_op, ↓x_test, x_tst, ↓x_and, ↓x_or, ↓x_not, ↓x_andV, ↓x_orV, ↓x_notV, x_tstV, ↓x_ifE, x_true, x_false, ↓x_nil, ↓x_cons, ↓x_tup, ↓x_lst, ↓x_new, ↓x_newD, ↓x_call, ↓x_cb, x_oI, x_oIc, x_oS, x_addS, x_isN, x_notN, x_eqI, x_eqS, x_eqIS, x_eqSI, x_eqNS, x_neI, x_neS, x_neB, x_eqB, x_few, x_need, ↓x_ix, x_lenS, x_ixL0, x_ixT0, x_ixT1, x_ixT2, x_ixT3, x_ixT4, x_lenL, x_lenT, x_lenC, x_listL, x_listT, x_tupL, x_tupT, x_strI, x_strS, x_int1, x_intB, x_I1, x_I2, x_cat, x_catT, ↓x_split, ↓x_for, ↓x_cut, ↓x_lc, ↓x_whl, ↓x_diL, ↓x_diT, ↓x_diS, x_itL, x_itC, x_itT, x_itS, ↓x_diR1, ↓x_diR2, ↓x_diE, x_enmL, x_enmC, ↓x_gcN, ↓x_gcT, ↓x_yes, ↓x_ml, ↓x_ms, x_strq, x_ss, x_ssc, x_ssi, ↓x_join, ↓x_aug, x_st2I, ↓x_sl, ↓x_noP, ↓x_part, x_intq, x_slL, x_slC, x_slS, ↓x_in, x_inT, x_inL, x_ninT, x_ninL, x_inN, x_inSS, x_inSI, x_inIS, x_inII, ↓x_sg, x_sgS, x_nsgS, ↓x_eqD, ↓x_inDD, x_mulS, ↓x_isi, x_isiS, x_isiI, x_isiB, x_isiN, x_isiL, x_isiT, ↓x_isTT, x_itI, x_itStr, x_itN, x_itB, x_itLst, x_itTup, ↓x_any, ↓x_all, ↓x_sum, ↓x_srtI, ↓x_srtS, ↓x_intS, ↓x_lenRf, ↓x_tupRf, ↓x_frz', x_flS, x_flI, x_flN, x_flB, x_cs_bool, x_isB_NoneType_bool, x_isB_bool_bool, x_isB_int_bool, x_isB_str_bool, x_isB_list_bool, x_isB_tuple_bool, x_isB_dict_bool, x_cs_int, x_isB_NoneType_int, x_isB_bool_int, x_isB_int_int, x_isB_str_int, x_isB_list_int, x_isB_tuple_int, x_isB_dict_int, x_cs_str, x_isB_NoneType_str, x_isB_bool_str, x_isB_int_str, x_isB_str_str, x_isB_list_str, x_isB_tuple_str, x_isB_dict_str, x_cs_list, x_isB_NoneType_list, x_isB_bool_list, x_isB_int_list, x_isB_str_list, x_isB_list_list, x_isB_tuple_list, x_isB_dict_list, x_cs_tuple, x_isB_NoneType_tuple, x_isB_bool_tuple, x_isB_int_tuple, x_isB_str_tuple, x_isB_list_tuple, x_isB_tuple_tuple, x_isB_dict_tuple, x_cs_dict, x_isB_NoneType_dict, x_isB_bool_dict, x_isB_int_dict, x_isB_str_dict, x_isB_list_dict, x_isB_tuple_dict, x_isB_dict_dict, List.all_cons, List.all_nil, Bool.and_self, Bool.or_false, Bool.or_true, Bool.false_or, Bool.true_or, wipeD, setD, DL.isNon, List.set_cons_zero, List.set_cons_succ, List.getElem?_cons_zero, List.getElem?_cons_succ, List.length_cons, List.length_nil, Nat.zero_add, List.cons_append, List.nil_append, decide_true, decide_false, Bool.not_true, Bool.not_false, true_and, and_true, startD, List.map_cons, List.map_nil, Nat.reduceSub, Nat.reduceLeDiff, Nat.zero_le, Int.reduceLT, Int.reduceLE, and_self, Nat.reduceAdd, List.replicate])
/-- the parts of n that are left, behind i of them -/
def Md.at (M : Md) (n : Nat) (l : List (Key × Nat)) (i : Nat) : Md := { M.fold (l.take i) with parts := fset M.parts n (l.drop i) }
def dEmpty (CT CH : Addr) : SpD := fun ds S k _ => ∃ (A : Ad) (m : Nat) (M : Md) (n : Nat), ds = [.ref A.h, .ref (A.t n)] ∧ Rp CT CH A m M S ∧ 1 ≤ n ∧ n ≤ m ∧ ((M.parts n).map (·.1)).Nodup ∧ (M.parts n).length < 1000 ∧
  (∀ i kj, (M.parts n)[i]? = some kj → 1 ≤ kj.2 ∧ kj.2 ≤ m ∧ (M.fold ((M.parts n).take i)).wt kj.2 = false ∧ kj.2 ∈ (M.fold ((M.parts n).take i)).there ∧ (M.fold ((M.parts n).take i)).row.length < 10000) ∧
  ∀ S', Rp CT CH A m { M.fold (M.parts n) with parts := fset M.parts n [] } S' → Fr A m S S' → k .non S'
def EmI (CT CH : Addr) (A : Ad) (m : Nat) (M : Md) (n : Nat) (S : Sto) (i : Nat) (δ : Dst) (S' : Sto) : Prop := ∃ z : Option D, δ = [some (.ref A.h), some (.ref (A.t n)), z] ∧ Rp CT CH A m (M.at n (M.parts n) i) S' ∧ Fr A m S S'
theorem keyD_dK (k : Key) : keyD (dK k) = some k := by cases k <;> rfl
theorem gval_head {k : Key} {v : D} {r : List (Key × D)} : gval ((k, v) :: r) k = some v := by simp [gval, List.find?_cons]
theorem gdrop_head {k : Key} {v : D} {r : List (Key × D)} (h : k ∉ r.map (·.1)) : gdrop ((k, v) :: r) k = r := by
  unfold gdrop
  rw [List.filter_cons, if_neg (by simp), List.filter_eq_self]
  intro x hx
  rw [decide_eq_true_iff]
  exact fun z => h (List.mem_map.mpr ⟨x, hx, z⟩)
theorem at_next {M : Md} {n i : Nat} {l : List (Key × Nat)} {kj : Key × Nat} (h : l[i]? = some kj) : ({ M.at n l i with parts := fset (M.at n l i).parts n (l.drop (i + 1)) } : Md).loosed kj.2 = M.at n l (i + 1) := by
  rw [Md.loosed_with]
  have e1 : (M.at n l i).loosed kj.2 = { (M.fold (l.take i)).loosed kj.2 with parts := fset M.parts n (l.drop i) } := Md.loosed_with _ _ _
  have e2 : M.fold (l.take (i + 1)) = (M.fold (l.take i)).loosed kj.2 := by
    unfold Md.fold
    rw [List.take_add_one, h, List.foldl_append]
    rfl
  rw [e1]
  unfold Md.at
  rw [e2]
  show ({ (M.fold (l.take i)).loosed kj.2 with parts := fset (fset M.parts n (l.drop i)) n (l.drop (i + 1)) } : Md) = _
  rw [fset_fset]
theorem ok_empty {fa : Addr} {fd : FuncData} (F : Fun K "empty" "Hall.empty" s_Hall_empty fa fd) (T : Txt K mg CT CH) (G_Hall_loose : MDef P w K mg base 2 CH "loose" ["self", "value"] (lSp K (dLooseIn CT CH))) : FnOk P w K mg base CX0 3 fa fd ["self", "thing"] (lSp K (dEmpty CT CH)) := by
  refine dok F sc_Hall_empty (fun ds S q qx ⟨A, m, M, n, e, _⟩ => by rw [e]; rfl) ⟨_, fun cdv A outer s H E hr => dss_one (ds_for PassesOwn.never rfl (di_list (K := K) (de_callTy (call_listD rfl) si_listD (by rfl) T.list (by decide +kernel) (da_cons (de_fld T.Thing_ (by decide +kernel) (de_var 1)) da_nil))) (dg_name (i := 2) sc_Hall_empty.nd rfl (Or.inl rfl))
        (dss_one (ds_expr (de_meth T.Hall_ G_Hall_loose (hr.mono (by decide)) (de_var 0) (da_cons (de_dpop (de_fld T.Thing_ (by decide +kernel) (de_var 1)) (de_var 2)) da_nil))))), fun ds S q qx ⟨A, m, M, n, hd, R, h1, h2, hn, hl, hs, hq⟩ => ?_⟩
  subst hd
  have e := R.th n h1 h2
  walk_at "dl"
  refine fldOf e th_parts ?_
  walk_at "dl"
  refine listDOf (R.pt n h1 h2) ?_
  walk_at "dl"
  refine forOf (EmI CT CH A m M n S) ⟨_, rfl, ?_, Fr.refl⟩ ?_ ?_
  · have : M.at n (M.parts n) 0 = M := by
      unfold Md.at Md.fold
      rw [List.take_zero, List.drop_zero, fset_id]
      rfl
    rw [this]
    exact R
  · rintro i d δ S' hi ⟨z, rfl, R1, f1⟩
    obtain ⟨kv, hkv, rfl⟩ := Option.map_eq_some_iff.mp ((List.getElem?_map (f := fun kv : Key × D => dK kv.1)) ▸ hi)
    obtain ⟨kj, hkj, rfl⟩ := Option.map_eq_some_iff.mp ((List.getElem?_map (f := fun kj : Key × Nat => (kj.1, D.ref (A.t kj.2)))) ▸ hkv)
    have hlt := (List.getElem?_eq_some_iff.mp hkj).1
    have hdr : (M.parts n).drop i = kj :: (M.parts n).drop (i + 1) := by
      rw [List.drop_eq_getElem_cons hlt, (List.getElem?_eq_some_iff.mp hkj).2]
    obtain ⟨s1, s2, s3, s4, s5⟩ := hs i kj hkj
    have hp : S' (A.pd n) = some (.dct ((kj.1, .ref (A.t kj.2)) :: ((M.parts n).drop (i + 1)).map fun kj => (kj.1, .ref (A.t kj.2)))) := by
      have := R1.pt n h1 h2
      rw [show (M.at n (M.parts n) i).parts n = (M.parts n).drop i from fset_same, hdr] at this
      exact this
    have hno : kj.1 ∉ (((M.parts n).drop (i + 1)).map fun kj => ((kj.1, .ref (A.t kj.2)) : Key × D)).map (·.1) := by
      rw [List.map_map]
      have nd : (((M.parts n).drop i).map (·.1)).Nodup := by rw [List.map_drop]; exact hn.sublist (List.drop_sublist ..)
      rw [hdr, List.map_cons] at nd
      exact (List.nodup_cons.mp nd).1
    walk_at "dl"
    refine needOf (methOf (x := .non) R1.hall rfl) ?_
    walk_at "dl"
    refine fldOf (R1.th n h1 h2) th_parts (isDOf hp ?_)
    walk_at "dl"
    refine dpopOf hp (keyD_dK _) gval_head ?_
    rw [gdrop_head hno]
    obtain ⟨R2, f2⟩ := R1.setParts h1 h2 ((M.parts n).drop (i + 1))
    walk_at "dl"
    refine ⟨A, m, _, kj.2, rfl, R2, s1, s2, s3, s4, s5, fun S3 R3 f3 => ?_⟩
    rw [at_next hkj] at R3
    exact ⟨_, rfl, R3, (f1.trans f2).trans f3⟩
  · rintro δ S' ⟨z, rfl, R1, f1⟩
    rw [List.length_map, List.length_map] at R1
    refine hq S' ?_ f1
    have : M.at n (M.parts n) (M.parts n).length = { M.fold (M.parts n) with parts := fset M.parts n [] } := by
      unfold Md.at
      rw [List.take_length, List.drop_length]
    rw [← this]
    exact R1
end
end K

set_option Elab.async false
set_option linter.all false
set_option maxRecDepth 100000
namespace K
open PySem L2 Evl EX DL
section
variable {P : Program} {w : World} {K : PySem.W.Frag} {mg : Str → Option Value} {base : Heap} {CT CH : Addr}
local macro_rules | `(tactic| walk_at "dl") => `(tactic| try simp only [↓x_fld, ↓x_fldS, ↓x_fldA, ↓x_meth, ↓x_make, ↓x_dget, ↓x_din, ↓x_dget1, ↓x_dget2, ↓x_dpop, ↓x_dput, ↓x_listD, ↓x_sortDI, ↓x_lenD, ↓x_isiC, x_icS, x_icI, x_icB, x_icN, x_ioS, x_ioI, x_ioB, x_ioN, ↓x_gSub, ↓x_sortDL, ↓x_eqO, ↓x_ninA, x_catN, x_isBB, x_isBN, x_isBI, x_isBS, x_isBR, ↓x_seq, ↓x_nx, ↓x_pass, ↓x_brk, ↓x_cnt, ↓x_drop, ↓x_ret, ↓x_retN, ↓x_ifS, ↓x_set, ↓x_asg, ↓x_gN, ↓x_gT, ↓x_gsC, ↓x_gsN, ↓x_var, x_rdv, ↓x_c, ↓x_op, ↓x_test, x_tst, ↓x_and, ↓x_or, ↓x_not, ↓x_andV, ↓x_orV, ↓x_notV, x_tstV, ↓x_ifE, x_true, x_false, ↓x_nil, ↓x_cons, ↓x_tup, ↓x_lst, ↓x_new, ↓x_newD, ↓x_call, ↓x_cb, x_oI, x_oIc, x_oS, x_addS, x_isN, x_notN, x_eqI, x_eqS, x_eqIS, x_eqSI, x_eqNS, x_neI, x_neS, x_neB, x_eqB, x_few, x_need, ↓x_ix, x_lenS, x_ixL0, x_ixT0, x_ixT1, x_ixT2, x_ixT3, x_ixT4, x_lenL, x_lenT, x_lenC, x_listL, x_listT, x_tupL, x_tupT, x_strI, x_strS, x_int1, x_intB, x_I1, x_I2, x_cat, x_catT, ↓x_split, ↓x_for, ↓x_cut, ↓x_lc, ↓x_whl, ↓x_diL, ↓x_diT, ↓x_diS, x_itL, x_itC, x_itT, x_itS, ↓x_diR1, ↓x_diR2, ↓x_diE, x_enmL, x_enmC, ↓x_gcN, ↓x_gcT, ↓x_yes, ↓x_ml, ↓x_ms, x_strq, x_ss, x_ssc, x_ssi, ↓x_join, ↓x_aug, x_st2I, ↓x_sl, ↓x_noP, ↓x_part, x_intq, x_slL, x_slC, x_slS, ↓x_in, x_inT, x_inL, x_ninT, x_ninL, x_inN, x_inSS, x_inSI, x_inIS, x_inII, ↓x_sg, x_sgS, x_nsgS, ↓x_eqD, ↓x_inDD, x_mulS, ↓x_isi, x_isiS, x_isiI, x_isiB, x_isiN, x_isiL, x_isiT, ↓x_isTT, x_itI, x_itStr, x_itN, x_itB, x_itLst, x_itTup, ↓x_any, ↓x_all, ↓x_sum, ↓x_srtI, ↓x_srtS, ↓x_intS, ↓x_lenRf, ↓x_tupRf, ↓x_frz', x_flS, x_flI, x_flN, x_flB, x_cs_bool, x_isB_NoneType_bool, x_isB_bool_bool, x_isB_int_bool, x_isB_str_bool, x_isB_list_bool, x_isB_tuple_bool, x_isB_dict_bool, x_cs_int, x_isB_NoneType_int, x_isB_bool_int, x_isB_int_int, x_isB_str_int, x_isB_list_int, x_isB_tuple_int, x_isB_dict_int, x_cs_str, x_isB_NoneType_str, x_isB_bool_str, x_isB_int_str, x_isB_str_str, x_isB_list_str, x_isB_tuple_str, x_isB_dict_str, x_cs_list, x_isB_NoneType_list, x_isB_bool_list, x_isB_int_list, x_isB_str_list, x_isB_list_list, x_isB_tuple_list, x_isB_dict_list, x_cs_tuple, x_isB_NoneType_tuple, x_isB_bool_tuple, x_isB_int_tuple, x_isB_str_tuple, x_isB_list_tuple, x_isB_tuple_tuple, x_isB_dict_tuple, x_cs_dict, x_isB_NoneType_dict, x_isB_bool_dict, x_isB_int_dict, x_isB_str_dict, x_isB_list_dict, x_isB_tuple_dict, x_isB_dict_dict, List.all_cons, List.all_nil, Bool.and_self, Bool.or_false, Bool.or_true, Bool.false_or, Bool.true_or, wipeD, setD, DL.isNon, List.set_cons_zero, List.set_cons_succ, List.getElem?_cons_zero, List.getElem?_cons_succ, List.length_cons, List.length_nil, Nat.zero_add, List.cons_append, List.nil_append, decide_true, decide_false, Bool.not_true, Bool.not_false, true_and, and_true, startD, List.map_cons, List.map_nil, Nat.reduceSub, Nat.reduceLeDiff, Nat.zero_le, Int.reduceLT, Int.reduceLE, and_self, Nat.reduceAdd, List.replicate])
/-- n's turn: gone, its parts still to be loosed -/
def Md.gone (M : Md) (n : Nat) : Md := { M with wt := fset M.wt n false, there := M.there.filter (fun i => decide (i ≠ n)), left := M.left ++ [n] }
def dTurn (CT CH : Addr) : SpD := fun ds S k _ => ∃ (A : Ad) (m : Nat) (M : Md) (n : Nat), ds = [.ref A.h, .ref (A.t n)] ∧ Rp CT CH A m M S ∧ 1 ≤ n ∧ n ≤ m ∧ M.cnt n = 0 ∧ n ∈ M.there ∧ M.left.length < 10000 ∧ ((M.parts n).map (·.1)).Nodup ∧ (M.parts n).length < 1000 ∧
  (∀ i kj, (M.parts n)[i]? = some kj → 1 ≤ kj.2 ∧ kj.2 ≤ m ∧ ((M.gone n).fold ((M.parts n).take i)).wt kj.2 = false ∧ kj.2 ∈ ((M.gone n).fold ((M.parts n).take i)).there ∧ ((M.gone n).fold ((M.parts n).take i)).row.length < 10000) ∧
  ∀ S', Rp CT CH A m { (M.gone n).fold (M.parts n) with parts := fset M.parts n [] } S' → Fr A m S S' → k .non S'
theorem ok_turn {fa : Addr} {fd : FuncData} (F : Fun K "turn" "Hall.turn" s_Hall_turn fa fd) (T : Txt K mg CT CH) (G_Hall_ask_last : MDef P w K mg base 1 CH "ask_last" ["self", "thing"] (lSp K (dAskLast CT CH))) (G_Hall_be_gone : MDef P w K mg base 1 CH "be_gone" ["self", "thing"] (lSp K (dBeGone CT CH))) (G_Hall_empty : MDef P w K mg base 3 CH "empty" ["self", "thing"] (lSp K (dEmpty CT CH))) :
    FnOk P w K mg base CX0 4 fa fd ["self", "thing"] (lSp K (dTurn CT CH)) := by
  refine dok F sc_Hall_turn (fun ds S q qx ⟨A, m, M, n, e, _⟩ => by rw [e]; rfl) ⟨_, fun cdv A outer s H E hr => dss_cons (ds_fld T.Thing_ (by decide +kernel) (de_var 1) (de_bl))
      (dss_cons (ds_if (PW.pt (dw_or (dt_cmp op_gt si_gt (de_fld T.Thing_ (by decide +kernel) (de_var 1)) (de_int) (nomark _)) (dw_or1 (dt_dinN (hu_of hr) (de_fld T.Thing_ (by decide +kernel) (de_var 1)) (de_fld T.Hall_ (by decide +kernel) (de_var 0))))))
        (dss_one (ds_retN))
        (dss_nil))
      (dss_cons (ds_fldaug T.Thing_ (by decide +kernel) (de_var 1) (de_int) in_add)
      (dss_cons (ds_expr (de_meth T.Hall_ G_Hall_ask_last (hr.mono (by decide)) (de_var 0) (da_cons (de_var 1) da_nil)))
      (dss_cons (ds_fldaug T.Thing_ (by decide +kernel) (de_var 1) (de_int) in_sub)
      (dss_one (ds_if (dt_cmp op_eq si_eq (de_fld T.Thing_ (by decide +kernel) (de_var 1)) (de_int) (nomark _))
        (dss_cons (ds_expr (de_meth T.Hall_ G_Hall_be_gone (hr.mono (by decide)) (de_var 0) (da_cons (de_var 1) da_nil)))
        (dss_one (ds_expr (de_meth T.Hall_ G_Hall_empty (hr.mono (by decide)) (de_var 0) (da_cons (de_var 1) da_nil)))))
        (dss_nil))))))), fun ds S q qx ⟨A, m, M, n, hd, R, h1, h2, hc, ht, hl, hn, hp, hs, hq⟩ => ?_⟩
  subst hd
  have e := R.th n h1 h2
  walk_at "dl"
  refine fldsOf e (Nat.le_of_ble_eq_true rfl) ?_
  rw [th_waits', hc]
  obtain ⟨R1, f1⟩ := R.setT h1 h2 0 false
  walk_at "dl"
  refine fldOf put_same th_count ?_
  walk_at "dl"
  refine fldOf put_same th_number ?_
  walk_at "dl"
  refine fldOf R1.hall ha_there ?_
  walk_at "dl"
  refine dninOf R1.there rfl ?_
  rw [there_some (A := A) ht]
  walk_at "dl"
  refine fldOf put_same th_count ?_
  walk_at "dl"
  refine fldsOf put_same (Nat.le_of_ble_eq_true rfl) ?_
  rw [th_count']
  obtain ⟨R2, f2⟩ := R1.setT h1 h2 (0 + 1) false
  walk_at "dl"
  refine needOf (methOf (x := .non) R2.hall rfl) ?_
  walk_at "dl"
  refine ⟨A, m, _, n, rfl, R2, ?_⟩
  walk_at "dl"
  refine fldOf put_same th_count ?_
  walk_at "dl"
  refine fldsOf put_same (Nat.le_of_ble_eq_true rfl) ?_
  rw [th_count']
  obtain ⟨R3, f3⟩ := R2.setT h1 h2 (0 + 1 - 1) false
  walk_at "dl"
  refine fldOf put_same th_count ?_
  walk_at "dl"
  have ec : fset (fset (fset M.cnt n 0) n (0 + 1)) n (0 + 1 - 1) = M.cnt := by
    rw [fset_fset, fset_fset, show (0 + 1 - 1 : Int) = M.cnt n by rw [hc]; rfl, fset_id]
  have ew : fset (fset (fset M.wt n false) n false) n false = fset M.wt n false := by rw [fset_fset, fset_fset]
  have R3' := R3
  simp only [ec, ew] at R3'
  rw [show decide ((0 + 1 - 1 : Int) = 0) = true from rfl]
  walk_at "dl"
  refine needOf (methOf (x := .non) R3.hall rfl) ?_
  walk_at "dl"
  refine ⟨A, m, _, n, rfl, R3', h1, h2, ht, hl, fun S4 R4 f4 => ?_⟩
  walk_at "dl"
  refine needOf (methOf (x := .non) R4.hall rfl) ?_
  walk_at "dl"
  exact ⟨A, m, M.gone n, n, rfl, R4, h1, h2, hn, hp, hs, fun S5 R5 f5 => hq S5 R5 ((((f1.trans f2).trans f3).trans f4).trans f5)⟩
end
end K

set_option Elab.async false
set_option linter.all false
set_option maxRecDepth 100000
namespace K
open PySem L2 Evl EX DL
/-- the hall's model beside the plain row -/
structure J (m : Nat) (M : Md) (done : List Nat) (s : QM.Qs) : Prop where
  left : M.left = done
  row : done ++ M.row = s.1
  cnt : M.cnt = s.2
  wt : ∀ o, 1 ≤ o → o ≤ m → (M.wt o = true ↔ o ∈ M.row)
  there : ∀ o, 1 ≤ o → o ≤ m → (o ∈ M.there ↔ o ∉ done)
  tin : ∀ o ∈ M.there, 1 ≤ o ∧ o ≤ m
section
variable {P : Nat → List Nat} {m n c : Nat} {done cur : List Nat} {s : QM.Qs} {M : Md}
theorem row_new (R : QM.Row P m done (c :: cur) s.1 s.2) : c ∉ s.1 := by
  have hc := R.cin c (List.mem_cons_self ..)
  have hpos : s.2 c ≠ 0 := by
    rw [R.hold c hc.1 hc.2, List.count_cons_self]
    omega
  exact fun z => hpos ((R.zero c hc.1 hc.2).mp z)
theorem J.loosed (h : J m M done s) (R : QM.Row P m done (c :: cur) s.1 s.2) : J m (M.loosed c) done (QM.step s c) := by
  have hc := row_new R
  have hr : c ∉ M.row := fun z => hc (by rw [← h.row]; exact List.mem_append_right _ z)
  unfold Md.loosed QM.step
  by_cases z : M.cnt c - 1 = 0
  · rw [if_pos z]
    rw [h.cnt] at z
    rw [if_pos z]
    refine ⟨h.left, ?_, ?_, fun o a b => ?_, h.there, h.tin⟩
    · show done ++ (M.row ++ [c]) = s.1 ++ [c]
      rw [← List.append_assoc, h.row]
    · show fset M.cnt c (M.cnt c - 1) = QM.fset s.2 c (s.2 c - 1)
      rw [h.cnt]
      rfl
    · show fset M.wt c true o = true ↔ o ∈ M.row ++ [c]
      by_cases e : o = c
      · subst e
        rw [fset_same]
        simp
      · rw [fset_ne e, h.wt o a b]
        simp [e]
  · rw [if_neg z]
    rw [h.cnt] at z
    rw [if_neg z]
    refine ⟨h.left, h.row, ?_, h.wt, h.there, h.tin⟩
    show fset M.cnt c (M.cnt c - 1) = QM.fset s.2 c (s.2 c - 1)
    rw [h.cnt]
    rfl
/-- the parts are loosed one by one -/
theorem J.fold : ∀ {l : List (Key × Nat)} {M : Md} {s : QM.Qs}, J m M done s → QM.Row P m done (l.map (·.2) ++ cur) s.1 s.2 →
    J m (M.fold l) done ((l.map (·.2)).foldl QM.step s) ∧ QM.Row P m done cur ((l.map (·.2)).foldl QM.step s).1 ((l.map (·.2)).foldl QM.step s).2
  | [], _, _, h, R => ⟨h, R⟩
  | kj :: l, M, s, h, R => J.fold (l := l) (h.loosed R) (QM.row_step R)
theorem J.gone {row : List Nat} (h : J m M done s) (hr : M.row = n :: row) (R : QM.Row P m done [] s.1 s.2) : J m (({ M with row := row } : Md).gone n) (done ++ [n]) s := by
  have nd := R.nd
  rw [← h.row, hr] at nd
  obtain ⟨_, n2, n3⟩ := List.nodup_append.mp nd
  have n4 := (List.nodup_cons.mp n2).1
  refine ⟨?_, ?_, h.cnt, fun o a b => ?_, fun o a b => ?_, fun o ho => h.tin o (List.mem_filter.mp ho).1⟩
  · show M.left ++ [n] = _
    rw [h.left]
  · show (done ++ [n]) ++ row = _
    rw [← h.row, hr]
    simp
  · show fset M.wt n false o = true ↔ o ∈ row
    by_cases e : o = n
    · subst e
      rw [fset_same]
      simp [n4]
    · rw [fset_ne e, h.wt o a b, hr]
      simp [e]
  · show o ∈ M.there.filter (fun i => decide (i ≠ n)) ↔ _
    rw [List.mem_filter, h.there o a b]
    simp
end
/-- while the row is worked off: i turns are over -/
structure WI (P : Nat → List Nat) (m : Nat) (h0 : Nat → Int) (i : Nat) (M : Md) : Prop where
  le : i ≤ (QM.st P h0 i).1.length
  j : J m M ((QM.st P h0 i).1.take i) (QM.st P h0 i)
  pt : ∀ n, 1 ≤ n → n ≤ m → n ∉ (QM.st P h0 i).1.take i → (M.parts n).map (·.2) = P n ∧ ((M.parts n).map (·.1)).Nodup ∧ (M.parts n).length < 1000
structure Wh (P : Nat → List Nat) (m : Nat) (h0 : Nat → Int) : Prop where
  gr : QM.Gr P m
  one : 1 ≤ m
  most : m < 1000
  hh : ∀ o, 2 ≤ o → o ≤ m → h0 o = (QM.tot P [] o m : Nat)
  hz : h0 1 = 0
theorem Md.loosed_row (M : Md) (n : Nat) : (M.loosed n).there = M.there := by unfold Md.loosed; split <;> rfl
/-- the first in the row -/
theorem WI.next {P : Nat → List Nat} {m : Nat} {h0 : Nat → Int} {i n : Nat} {row : List Nat} {M : Md} (w : WI P m h0 i M) (H : Wh P m h0) (hr : M.row = n :: row) :
    1 ≤ n ∧ n ≤ m ∧ M.cnt n = 0 ∧ n ∈ M.there ∧ M.left.length < 10000 ∧ ((M.parts n).map (·.1)).Nodup ∧ (M.parts n).length < 1000 ∧
    (∀ k kj, (M.parts n)[k]? = some kj → 1 ≤ kj.2 ∧ kj.2 ≤ m ∧ ((({ M with row := row } : Md).gone n).fold ((M.parts n).take k)).wt kj.2 = false ∧ kj.2 ∈ ((({ M with row := row } : Md).gone n).fold ((M.parts n).take k)).there ∧ ((({ M with row := row } : Md).gone n).fold ((M.parts n).take k)).row.length < 10000) ∧
    WI P m h0 (i + 1) { (({ M with row := row } : Md).gone n).fold (M.parts n) with parts := fset M.parts n [] } := by
  have R := QM.st_row H.gr H.one H.hh i w.le
  have hlen := R.le
  have htl : ((QM.st P h0 i).1.take i).length = i := by rw [List.length_take]; have := w.le; omega
  have hat : (QM.st P h0 i).1[i]? = some n := by
    rw [← w.j.row, hr, List.getElem?_append_right (by omega), htl, Nat.sub_self]
    rfl
  have hmem := List.mem_of_getElem? hat
  have hb := R.inm n hmem
  have R1 := R.turn H.gr (n := n) (by rw [htl]; exact hat)
  have J1 := w.j.gone hr R
  have e1 : (QM.st P h0 i).1.take i ++ [n] = (QM.st P h0 i).1.take (i + 1) := by rw [List.take_add_one, hat]; rfl
  have hnd : n ∉ (QM.st P h0 i).1.take i := by
    have nd := R.nd
    rw [← w.j.row, hr] at nd
    exact fun z => (List.nodup_append.mp nd).2.2 n z n (List.mem_cons_self ..) rfl
  obtain ⟨p1, p2, p3⟩ := w.pt n hb.1 hb.2 hnd
  have hcnt : M.cnt n = 0 := by
    rw [w.j.cnt]
    by_cases e : n = 1
    · subst e
      have key : ∀ (cur : List Nat) (s : QM.Qs), (∀ c ∈ cur, c ≠ 1) → (cur.foldl QM.step s).2 1 = s.2 1 := by
        intro cur
        induction cur with
        | nil => intro s _; rfl
        | cons c cur ih =>
          intro s hc
          rw [List.foldl_cons, ih _ fun x hx => hc x (List.mem_cons_of_mem _ hx)]
          exact QM.fset_ne (Ne.symm (hc c (List.mem_cons_self ..)))
      have key2 : ∀ i, i ≤ (QM.st P h0 i).1.length → (QM.st P h0 i).2 1 = 0 := by
        intro i
        induction i with
        | zero => intro _; exact H.hz
        | succ i ih =>
          intro hi
          cases e : (QM.st P h0 i).1[i]? with
          | none =>
            rw [QM.st_none e] at hi ⊢
            exact ih (by omega)
          | some n =>
            have hlt := (List.getElem?_eq_some_iff.mp e).1
            have R := QM.st_row H.gr H.one H.hh i (by omega)
            have hb := R.inm n (List.mem_of_getElem? e)
            rw [QM.st_some e]
            show ((P n).foldl QM.step (QM.st P h0 i)).2 1 = 0
            rw [key _ _ fun c hc => by have := H.gr.up n hb.1 hb.2 c hc; omega]
            exact ih (by omega)
      exact key2 i w.le
    · exact (R.zero n (by omega) hb.2).mp hmem
  refine ⟨hb.1, hb.2, hcnt, (w.j.there n hb.1 hb.2).mpr hnd, ?_, p2, p3, fun k kj hk => ?_, ?_⟩
  · rw [w.j.left, htl]
    have := w.le
    have := H.most
    omega
  · have hkl := (List.getElem?_eq_some_iff.mp hk).1
    have hsp : P n = ((M.parts n).take k).map (·.2) ++ (kj.2 :: ((M.parts n).drop (k + 1)).map (·.2)) := by
      rw [← p1, ← List.map_cons, ← List.map_append]
      congr 1
      rw [← (List.getElem?_eq_some_iff.mp hk).2, ← List.drop_eq_getElem_cons hkl, List.take_append_drop]
    rw [hsp] at R1
    obtain ⟨J2, R2⟩ := J1.fold R1
    have hb2 := R2.cin kj.2 (List.mem_cons_self ..)
    have hno := row_new R2
    refine ⟨by omega, hb2.2, ?_, ?_, ?_⟩
    · rw [Bool.eq_false_iff]
      intro z
      rw [J2.wt kj.2 (by omega) hb2.2] at z
      exact hno (by rw [← J2.row]; exact List.mem_append_right _ z)
    · rw [J2.there kj.2 (by omega) hb2.2]
      exact fun z => hno (by rw [← J2.row]; exact List.mem_append_left _ z)
    · have h1 := R2.le
      rw [← J2.row, List.length_append] at h1
      have := H.most
      omega
  · have R1' := R1
    rw [← p1, ← List.append_nil ((M.parts n).map (·.2))] at R1'
    obtain ⟨J2, R2⟩ := J1.fold R1'
    have es : QM.st P h0 (i + 1) = ((M.parts n).map (·.2)).foldl QM.step (QM.st P h0 i) := by
      rw [QM.st_some hat, p1]
      rfl
    have hpre := QM.fold_pre ((M.parts n).map (·.2)) (QM.st P h0 i)
    have hlt := (List.getElem?_eq_some_iff.mp hat).1
    have et : (QM.st P h0 (i + 1)).1.take (i + 1) = (QM.st P h0 i).1.take (i + 1) := by
      rw [es]
      obtain ⟨t, ht⟩ := hpre
      rw [← ht, List.take_append_of_le_length (by omega)]
    rw [e1] at J2
    rw [← es, ← et] at J2
    refine ⟨?_, ⟨J2.left, J2.row, J2.cnt, J2.wt, J2.there, J2.tin⟩, fun o a b ho => ?_⟩
    · rw [es]
      obtain ⟨t, ht⟩ := hpre
      rw [← ht, List.length_append]
      omega
    · rw [et, ← e1] at ho
      have ho1 : o ∉ (QM.st P h0 i).1.take i := fun z => ho (List.mem_append_left _ z)
      have ho2 : o ≠ n := fun z => ho (by rw [z]; simp)
      show (fset M.parts n [] o).map (·.2) = P o ∧ ((fset M.parts n [] o).map (·.1)).Nodup ∧ (fset M.parts n [] o).length < 1000
      rw [fset_ne ho2]
      exact w.pt o a b ho1
end K

set_option Elab.async false
set_option linter.all false
set_option maxRecDepth 100000
namespace K
open PySem L2 Evl EX DL
/-- where the hall and its things stand, no row being at work -/
structure Ri (CT CH : Addr) (A : Ad) (m : Nat) (M : Md) (S : Sto) : Prop where
  hall : S A.h = some (.ins CH A.dx (haFs .non (.int (m : Int)) (.ref A.th) (.ref A.lf) .non (.int 0)))
  there : S A.th = some (.dct (M.there.map fun n : Nat => ((.inl (n : Int), .ref (A.t n)) : Key × D)))
  left : S A.lf = some (.lst (M.left.map fun n : Nat => .int (n : Int)))
  th : ∀ n, 1 ≤ n → n ≤ m → S (A.t n) = some (.ins CT (A.dt n) (thFs (.str (Str.ofString "being")) (.int (n : Int)) (.int (M.cnt n)) (.ref (A.pd n)) .non (.bl false) (.bl (M.wt n))))
  pt : ∀ n, 1 ≤ n → n ≤ m → S (A.pd n) = some (.dct ((M.parts n).map fun kj => (kj.1, .ref (A.t kj.2))))
  ti : ∀ i j, 1 ≤ i → i ≤ m → 1 ≤ j → j ≤ m → A.t i = A.t j → i = j
  pi : ∀ i j, 1 ≤ i → i ≤ m → 1 ≤ j → j ≤ m → A.pd i = A.pd j → i = j
  tp : ∀ n, 1 ≤ n → n ≤ m → A.th ≠ A.pd n
  cc : CT ≠ CH
section
variable {CT CH : Addr} {A : Ad} {m n : Nat} {M : Md} {S : Sto}
theorem Rp.idle (R : Rp CT CH A m M S) : Ri CT CH A m M (put S A.h (.ins CH A.dx (haFs .non (.int (m : Int)) (.ref A.th) (.ref A.lf) .non (.int 0)))) ∧ Fr A m S (put S A.h (.ins CH A.dx (haFs .non (.int (m : Int)) (.ref A.th) (.ref A.lf) .non (.int 0)))) := by
  have e := R.hall
  have nt : A.th ≠ A.h := fun z => by have := R.there; rw [z, e] at this; cases this
  have nl : A.lf ≠ A.h := fun z => by have := R.left; rw [z, e] at this; cases this
  refine ⟨⟨put_same, by rw [put_ne nt]; exact R.there, by rw [put_ne nl]; exact R.left, fun i a b => ?_, fun i a b => ?_, R.ti, R.pi, R.tp, R.cc⟩, fun b a1 _ _ _ _ _ => put_ne a1⟩
  · have : A.t i ≠ A.h := fun y => by have := R.th i a b; rw [y, e] at this; injection this with this; injection this with this; exact R.cc this.symm
    rw [put_ne this]
    exact R.th i a b
  · have : A.pd i ≠ A.h := fun y => by have := R.pt i a b; rw [y, e] at this; cases this
    rw [put_ne this]
    exact R.pt i a b
/-- a row is begun -/
theorem Ri.begin (R : Ri CT CH A m M S) {p : Addr} (hp : S p = none) (l : List Nat) :
    Rp CT CH { A with r := p } m { M with row := l } (put (put S p (.lst (l.map fun n => .ref (A.t n)))) A.h (.ins CH A.dx (haFs .non (.int (m : Int)) (.ref A.th) (.ref A.lf) (.ref p) (.int 0)))) := by
  have e := R.hall
  have nt : A.th ≠ A.h := fun z => by have := R.there; rw [z, e] at this; cases this
  have nl : A.lf ≠ A.h := fun z => by have := R.left; rw [z, e] at this; cases this
  have nh : A.h ≠ p := sto_ne e hp
  refine ⟨put_same, ?_, ?_, ?_, fun i a b => ?_, fun i a b => ?_, R.ti, R.pi, sto_ne R.left hp, R.tp, R.cc⟩
  · show put _ _ _ A.th = _
    rw [put_ne nt, put_ne (sto_ne R.there hp)]; exact R.there
  · show put _ _ _ A.lf = _
    rw [put_ne nl, put_ne (sto_ne R.left hp)]; exact R.left
  · show put _ _ _ p = _
    rw [put_ne nh.symm]; exact put_same
  · have : A.t i ≠ A.h := fun y => by have := R.th i a b; rw [y, e] at this; injection this with this; injection this with this; exact R.cc this.symm
    show put _ _ _ (A.t i) = _
    rw [put_ne this, put_ne (sto_ne (R.th i a b) hp)]
    exact R.th i a b
  · have : A.pd i ≠ A.h := fun y => by have := R.pt i a b; rw [y, e] at this; cases this
    show put _ _ _ (A.pd i) = _
    rw [put_ne this, put_ne (sto_ne (R.pt i a b) hp)]
    exact R.pt i a b
/-- a thing's count and waits, no row being at work -/
theorem Ri.setT (R : Ri CT CH A m M S) (h1 : 1 ≤ n) (h2 : n ≤ m) (c : Int) (w : Bool) :
    Ri CT CH A m { M with cnt := fset M.cnt n c, wt := fset M.wt n w } (put S (A.t n) (.ins CT (A.dt n) (thFs (.str (Str.ofString "being")) (.int (n : Int)) (.int c) (.ref (A.pd n)) .non (.bl false) (.bl w)))) ∧
    Fr A m S (put S (A.t n) (.ins CT (A.dt n) (thFs (.str (Str.ofString "being")) (.int (n : Int)) (.int c) (.ref (A.pd n)) .non (.bl false) (.bl w)))) := by
  have e := R.th n h1 h2
  have nh : A.h ≠ A.t n := fun z => by have := R.hall; rw [z, e] at this; injection this with this; injection this with this; exact R.cc this
  have nt : A.th ≠ A.t n := fun z => by have := R.there; rw [z, e] at this; cases this
  have nl : A.lf ≠ A.t n := fun z => by have := R.left; rw [z, e] at this; cases this
  refine ⟨⟨by rw [put_ne nh]; exact R.hall, by rw [put_ne nt]; exact R.there, by rw [put_ne nl]; exact R.left, fun i a b => ?_, fun i a b => ?_, R.ti, R.pi, R.tp, R.cc⟩, fun b _ _ _ _ a5 _ => put_ne (a5 n h1 h2)⟩
  · by_cases z : i = n
    · subst z
      rw [put_same]
      simp only [fset_same]
    · have : A.t i ≠ A.t n := fun y => z (R.ti i n a b h1 h2 y)
      rw [put_ne this, R.th i a b]
      simp only [fset_ne z]
  · have : A.pd i ≠ A.t n := fun y => by have := R.pt i a b; rw [y, e] at this; cases this
    rw [put_ne this]
    exact R.pt i a b
end
section
variable {P : Program} {w : World} {K : PySem.W.Frag} {mg : Str → Option Value} {base : Heap} {CT CH : Addr}
local macro_rules | `(tactic| walk_at "dl") => `(tactic| try simp only [↓x_fld, ↓x_fldS, ↓x_fldA, ↓x_meth, ↓x_make, ↓x_dget, ↓x_din, ↓x_dget1, ↓x_dget2, ↓x_dpop, ↓x_dput, ↓x_listD, ↓x_sortDI, ↓x_lenD, ↓x_isiC, x_icS, x_icI, x_icB, x_icN, x_ioS, x_ioI, x_ioB, x_ioN, ↓x_gSub, ↓x_sortDL, ↓x_eqO, ↓x_ninA, x_catN, x_isBB, x_isBN, x_isBI, x_isBS, x_isBR, ↓x_seq, ↓x_nx, ↓x_pass, ↓x_brk, ↓x_cnt, ↓x_drop, ↓x_ret, ↓x_retN, ↓x_ifS, ↓x_set, ↓x_asg, ↓x_gN, ↓x_gT, ↓x_gsC, ↓x_gsN, ↓x_var, x_rdv, ↓x_c, ↓x_op, ↓x_test, x_tst, ↓x_and, ↓x_or, ↓x_not, ↓x_andV, ↓x_orV, ↓x_notV, x_tstV, ↓x_ifE, x_true, x_false, ↓x_nil, ↓x_cons, ↓x_tup, ↓x_lst, ↓x_new, ↓x_newD, ↓x_call, ↓x_cb, x_oI, x_oIc, x_oS, x_addS, x_isN, x_notN, x_eqI, x_eqS, x_eqIS, x_eqSI, x_eqNS, x_neI, x_neS, x_neB, x_eqB, x_few, x_need, ↓x_ix, x_lenS, x_ixL0, x_ixT0, x_ixT1, x_ixT2, x_ixT3, x_ixT4, x_lenL, x_lenT, x_lenC, x_listL, x_listT, x_tupL, x_tupT, x_strI, x_strS, x_int1, x_intB, x_I1, x_I2, x_cat, x_catT, ↓x_split, ↓x_for, ↓x_cut, ↓x_lc, ↓x_whl, ↓x_diL, ↓x_diT, ↓x_diS, x_itL, x_itC, x_itT, x_itS, ↓x_diR1, ↓x_diR2, ↓x_diE, x_enmL, x_enmC, ↓x_gcN, ↓x_gcT, ↓x_yes, ↓x_ml, ↓x_ms, x_strq, x_ss, x_ssc, x_ssi, ↓x_join, ↓x_aug, x_st2I, ↓x_sl, ↓x_noP, ↓x_part, x_intq, x_slL, x_slC, x_slS, ↓x_in, x_inT, x_inL, x_ninT, x_ninL, x_inN, x_inSS, x_inSI, x_inIS, x_inII, ↓x_sg, x_sgS, x_nsgS, ↓x_eqD, ↓x_inDD, x_mulS, ↓x_isi, x_isiS, x_isiI, x_isiB, x_isiN, x_isiL, x_isiT, ↓x_isTT, x_itI, x_itStr, x_itN, x_itB, x_itLst, x_itTup, ↓x_any, ↓x_all, ↓x_sum, ↓x_srtI, ↓x_srtS, ↓x_intS, ↓x_lenRf, ↓x_tupRf, ↓x_frz', x_flS, x_flI, x_flN, x_flB, x_cs_bool, x_isB_NoneType_bool, x_isB_bool_bool, x_isB_int_bool, x_isB_str_bool, x_isB_list_bool, x_isB_tuple_bool, x_isB_dict_bool, x_cs_int, x_isB_NoneType_int, x_isB_bool_int, x_isB_int_int, x_isB_str_int, x_isB_list_int, x_isB_tuple_int, x_isB_dict_int, x_cs_str, x_isB_NoneType_str, x_isB_bool_str, x_isB_int_str, x_isB_str_str, x_isB_list_str, x_isB_tuple_str, x_isB_dict_str, x_cs_list, x_isB_NoneType_list, x_isB_bool_list, x_isB_int_list, x_isB_str_list, x_isB_list_list, x_isB_tuple_list, x_isB_dict_list, x_cs_tuple, x_isB_NoneType_tuple, x_isB_bool_tuple, x_isB_int_tuple, x_isB_str_tuple, x_isB_list_tuple, x_isB_tuple_tuple, x_isB_dict_tuple, x_cs_dict, x_isB_NoneType_dict, x_isB_bool_dict, x_isB_int_dict, x_isB_str_dict, x_isB_list_dict, x_isB_tuple_dict, x_isB_dict_dict, List.all_cons, List.all_nil, Bool.and_self, Bool.or_false, Bool.or_true, Bool.false_or, Bool.true_or, wipeD, setD, DL.isNon, List.set_cons_zero, List.set_cons_succ, List.getElem?_cons_zero, List.getElem?_cons_succ, List.length_cons, List.length_nil, Nat.zero_add, List.cons_append, List.nil_append, decide_true, decide_false, Bool.not_true, Bool.not_false, true_and, and_true, startD, List.map_cons, List.map_nil, Nat.reduceSub, Nat.reduceLeDiff, Nat.zero_le, Int.reduceLT, Int.reduceLE, and_self, Nat.reduceAdd, List.replicate])
def dWork (CT CH : Addr) : SpD := fun ds S k _ => ∃ (A : Ad) (m : Nat) (M : Md) (P : Nat → List Nat) (h0 : Nat → Int) (i : Nat), ds = [.ref A.h] ∧ Rp CT CH A m M S ∧ Wh P m h0 ∧ WI P m h0 i M ∧
  ∀ S' N M', (QM.st P h0 N).1.length = N → WI P m h0 N M' → Ri CT CH A m M' S' → Fr A m S S' → k .non S'
theorem ok_work {fa : Addr} {fd : FuncData} (F : Fun K "work" "Hall.work" s_Hall_work fa fd) (T : Txt K mg CT CH) (G_Hall_turn : MDef P w K mg base 4 CH "turn" ["self", "thing"] (lSp K (dTurn CT CH))) :
    FnOk P w K mg base CX0 5 fa fd ["self"] (lSp K (dWork CT CH)) := by
  refine dok F sc_Hall_work (fun ds S q qx ⟨A, m, M, P, h0, i, e, _⟩ => by rw [e]; rfl) ⟨_, fun cdv A outer s H E hr => dss_cons (ds_while PassesOwn.never (dt_cmp op_gt si_gt (de_callB call_len (si_len rfl) (by rfl) T.len (by decide +kernel) (da_cons (de_fld T.Hall_ (by decide +kernel) (de_var 0)) da_nil)) (de_int) (nomark _))
        (dss_one (ds_expr (de_meth T.Hall_ G_Hall_turn (hr.mono (by decide)) (de_var 0) (da_cons (de_ml PySem.F.slot_list_pop PySem.F.type_list_pop mt_popAt si_pop0 (de_fld T.Hall_ (by decide +kernel) (de_var 0)) (da_cons (de_int) da_nil)) da_nil)))))
      (dss_one (ds_fld T.Hall_ (by decide +kernel) (de_var 0) (de_non))), fun ds S q qx ⟨A, m, M, P, h0, i, hd, R, H, w, hq⟩ => ?_⟩
  subst hd
  walk_at "dl"
  refine whlOf (fun f δ S' => ∃ i M', f = m - i ∧ δ = [some (.ref A.h)] ∧ Rp CT CH A m M' S' ∧ WI P m h0 i M' ∧ Fr A m S S') (m - i) ⟨i, M, rfl, rfl, R, w, Fr.refl⟩ ?_
  rintro f δ S' ⟨i, M', rfl, rfl, R, w, f1⟩
  walk_at "dl"
  refine fldOf R.hall ha_row ?_
  walk_at "dl"
  refine lenRf R.row ?_
  walk_at "dl"
  rw [List.length_map]
  cases hr : M'.row with
  | nil =>
    rw [show decide ((0 : Int) < ((([] : List Nat).length : Nat) : Int)) = false from rfl]
    walk_at "dl"
    refine fldsOf R.hall (Nat.le_of_ble_eq_true rfl) ?_
    rw [ha_row']
    obtain ⟨R1, f2⟩ := R.idle
    walk_at "dl"
    refine hq _ i M' ?_ w R1 (f1.trans f2)
    have := w.j.row
    rw [hr, List.append_nil] at this
    have h2 := congrArg List.length this
    rw [List.length_take] at h2
    have := w.le
    omega
  | cons n row =>
    rw [show decide ((0 : Int) < (((n :: row).length : Nat) : Int)) = true from decide_eq_true (by rw [List.length_cons]; omega)]
    obtain ⟨t1, t2, t3, t4, t5, t6, t7, t8, t9⟩ := w.next H hr
    walk_at "dl"
    refine needOf (methOf (x := .non) R.hall rfl) ?_
    walk_at "dl"
    refine fldOf R.hall ha_row ?_
    walk_at "dl"
    refine needOf (isLOf R.row) ?_
    walk_at "dl"
    refine ⟨_, _, by rw [R.row, hr, List.map_cons], ?_⟩
    obtain ⟨R1, f2⟩ := R.setRow row
    walk_at "dl"
    refine ⟨A, m, _, n, rfl, R1, t1, t2, t3, t4, t5, t6, t7, t8, fun S2 R2 f3 => ⟨m - (i + 1), ?_, i + 1, _, rfl, rfl, R2, t9, (f1.trans f2).trans f3⟩⟩
    have h1 := w.le
    have h2 := (QM.st_row H.gr H.one H.hh i w.le).le
    have h3 : i < (QM.st P h0 i).1.length := by
      rw [← w.j.row, hr, List.length_append, List.length_take, List.length_cons]
      omega
    omega
def dLetOut (CT CH : Addr) : SpD := fun ds S k _ => ∃ (A : Ad) (m : Nat) (M : Md) (P : Nat → List Nat) (h0 : Nat → Int), ds = [.ref A.h, .ref (A.t 1)] ∧ Ri CT CH A m M S ∧ Wh P m h0 ∧ M.wt 1 = false ∧ 1 ∈ M.there ∧ WI P m h0 0 { M with wt := fset M.wt 1 true, row := [1] } ∧
  ∀ S' N M' r, (QM.st P h0 N).1.length = N → WI P m h0 N M' → Ri CT CH { A with r := r } m M' S' → S r = none → Fr { A with r := r } m S S' → k .non S'
theorem ok_let_out {fa : Addr} {fd : FuncData} (F : Fun K "let_go" "Hall.let_go" s_Hall_let_go fa fd) (T : Txt K mg CT CH) (G_Hall_work : MDef P w K mg base 5 CH "work" ["self"] (lSp K (dWork CT CH))) : FnOk P w K mg base CX0 6 fa fd ["self", "thing"] (lSp K (dLetOut CT CH)) := by
  refine dok F sc_Hall_let_go (fun ds S q qx ⟨A, m, M, P, h0, e, _⟩ => by rw [e]; rfl) ⟨_, fun cdv A outer s H E hr => dss_cons (ds_if (PW.pt (dw_or (dt_val (de_fld T.Thing_ (by decide +kernel) (de_var 1))) (dw_or1 (dt_dinN (hu_of hr) (de_fld T.Thing_ (by decide +kernel) (de_var 1)) (de_fld T.Hall_ (by decide +kernel) (de_var 0))))))
        (dss_one (ds_retN))
        (dss_nil))
      (dss_cons (ds_fld T.Thing_ (by decide +kernel) (de_var 1) (de_bl))
      (dss_one (ds_if (dt_cmp op_isN si_isN (de_fld T.Hall_ (by decide +kernel) (de_var 0)) (de_non) (nomark _))
        (dss_cons (ds_fld T.Hall_ (by decide +kernel) (de_var 0) (de_new (da_cons (de_var 1) da_nil)))
        (dss_one (ds_expr (de_meth0 T.Hall_ G_Hall_work (hr.mono (by decide)) (de_var 0)))))
        (dss_one (ds_expr (de_ml PySem.F.slot_list_append PySem.F.type_list_append mt_append si_app (de_fld T.Hall_ (by decide +kernel) (de_var 0)) (da_cons (de_var 1) da_nil))))))), fun ds S q qx ⟨A, m, M, P, h0, hd, R, H, hw, ht, w, hq⟩ => ?_⟩
  subst hd
  have e := R.th 1 (Nat.le_refl _) H.one
  walk_at "dl"
  refine fldOf e th_waits ?_
  rw [hw]
  walk_at "dl"
  refine fldOf e th_number ?_
  walk_at "dl"
  refine fldOf R.hall ha_there ?_
  walk_at "dl"
  refine dninOf R.there rfl ?_
  rw [there_some ht]
  walk_at "dl"
  refine fldsOf e (Nat.le_of_ble_eq_true rfl) ?_
  rw [th_waits']
  obtain ⟨R1, f1⟩ := R.setT (Nat.le_refl _) H.one (M.cnt 1) true
  rw [fset_id (f := M.cnt)] at R1
  walk_at "dl"
  refine fldOf R1.hall ha_row ?_
  walk_at "dl"
  refine freshOf fun p hp => ?_
  have np : A.h ≠ p := sto_ne R1.hall hp
  have nt : A.t 1 ≠ p := fun z => by rw [← z, put_same] at hp; cases hp
  walk_at "dl"
  refine fldsOf (by rw [put_ne np]; exact R1.hall) (Nat.le_of_ble_eq_true rfl) ?_
  rw [ha_row']
  have R2 := R1.begin hp [1]
  walk_at "dl"
  refine needOf (methOf (x := .non) R2.hall rfl) ?_
  walk_at "dl"
  refine ⟨{ A with r := p }, m, _, P, h0, 0, rfl, R2, H, w, fun S' N M' h1 h2 h3 h4 => hq S' N M' p h1 h2 h3 (by rw [put_ne nt.symm] at hp; exact hp) ?_⟩
  intro b a1 a2 a3 a4 a5 a6
  rw [h4 b a1 a2 a3 a4 a5 a6, put_ne a1, put_ne a4]
  exact put_ne (a5 1 (Nat.le_refl _) H.one)
/-- the first one is loosed for the last time -/
def dLooseOut (CT CH : Addr) : SpD := fun ds S k _ => ∃ (A : Ad) (m : Nat) (M : Md) (P : Nat → List Nat) (h0 : Nat → Int), ds = [.ref A.h, .ref (A.t 1)] ∧ Ri CT CH A m M S ∧ Wh P m h0 ∧ M.wt 1 = false ∧ M.cnt 1 = 1 ∧ 1 ∈ M.there ∧ WI P m h0 0 { M with cnt := fset M.cnt 1 0, wt := fset M.wt 1 true, row := [1] } ∧
  ∀ S' N M' r, (QM.st P h0 N).1.length = N → WI P m h0 N M' → Ri CT CH { A with r := r } m M' S' → S r = none → Fr { A with r := r } m S S' → k .non S'
theorem ok_loose_out {fa : Addr} {fd : FuncData} (F : Fun K "loose" "Hall.loose" s_Hall_loose fa fd) (T : Txt K mg CT CH) (G_Hall_let_go : MDef P w K mg base 6 CH "let_go" ["self", "thing"] (lSp K (dLetOut CT CH))) : FnOk P w K mg base CX0 7 fa fd ["self", "value"] (lSp K (dLooseOut CT CH)) := by
  refine dok F sc_Hall_loose (fun ds S q qx ⟨A, m, M, P, h0, e, _⟩ => by rw [e]; rfl) ⟨_, fun cdv A outer s H E hr => dss_one (ds_if (dt_val (de_callB (clIsi' (K := K)) (si_isiC T.ThingI) (by rfl) T.isinstance (by decide +kernel) (da_cons (de_var 1) (da_cons (de_gl (by rfl) T.Thing) da_nil))))
        (dss_cons (ds_fldaug T.Thing_ (by decide +kernel) (de_var 1) (de_int) in_sub)
        (dss_one (ds_if (dt_cmp op_eq si_eq (de_fld T.Thing_ (by decide +kernel) (de_var 1)) (de_int) (nomark _))
          (dss_one (ds_expr (de_meth T.Hall_ G_Hall_let_go (hr.mono (by decide)) (de_var 0) (da_cons (de_var 1) da_nil))))
          (dss_nil))))
        (dss_nil)), fun ds S q qx ⟨A, m, M, P, h0, hd, R, H, hw, hc, ht, w, hq⟩ => ?_⟩
  subst hd
  have e := R.th 1 (Nat.le_refl _) H.one
  walk_at "dl"
  rw [x_own e]
  walk_at "dl"
  refine fldOf e th_count ?_
  walk_at "dl"
  refine fldsOf e (Nat.le_of_ble_eq_true rfl) ?_
  rw [th_count']
  obtain ⟨R1, f1⟩ := R.setT (Nat.le_refl _) H.one (M.cnt 1 - 1) (M.wt 1)
  rw [fset_id (f := M.wt)] at R1
  walk_at "dl"
  refine fldOf put_same th_count ?_
  walk_at "dl"
  have z : M.cnt 1 - 1 = 0 := by rw [hc]; rfl
  rw [decide_eq_true z]
  walk_at "dl"
  refine needOf (methOf (x := .non) R1.hall rfl) ?_
  walk_at "dl"
  refine ⟨A, m, _, P, h0, rfl, R1, H, hw, ht, by rw [z]; exact w, fun S' N M' r h1 h2 h3 hr h4 => hq S' N M' r h1 h2 h3 ?_ ?_⟩
  · by_cases y : r = A.t 1
    · rw [y, put_same] at hr; cases hr
    · rw [put_ne y] at hr; exact hr
  · intro b a1 a2 a3 a4 a5 a6
    rw [h4 b a1 a2 a3 a4 a5 a6]
    exact put_ne (a5 1 (Nat.le_refl _) H.one)
end
end K

set_option Elab.async false
set_option linter.all false
set_option maxRecDepth 100000
namespace K
open PySem L2 Evl EX DL
section
variable {P : Program} {w : World} {K : PySem.W.Frag} {mg : Str → Option Value} {base : Heap} {CT CH : Addr}
local macro_rules | `(tactic| walk_at "dl") => `(tactic| try simp only [↓x_forS, ↓x_diSL, ↓x_diKeys, ↓x_lock, ↓x_dictP, ↓x_fld, ↓x_fldS, ↓x_fldA, ↓x_meth, ↓x_make, ↓x_dget, ↓x_din, ↓x_dget1, ↓x_dget2, ↓x_dpop, ↓x_dput, ↓x_listD, ↓x_sortDI, ↓x_lenD, ↓x_isiC, x_icS, x_icI, x_icB, x_icN, x_ioS, x_ioI, x_ioB, x_ioN, ↓x_gSub, ↓x_sortDL, ↓x_eqO, ↓x_ninA, x_catN, x_isBB, x_isBN, x_isBI, x_isBS, x_isBR, ↓x_seq, ↓x_nx, ↓x_pass, ↓x_brk, ↓x_cnt, ↓x_drop, ↓x_ret, ↓x_retN, ↓x_ifS, ↓x_set, ↓x_asg, ↓x_gN, ↓x_gT, ↓x_gsC, ↓x_gsN, ↓x_var, x_rdv, ↓x_c, ↓x_op, ↓x_test, x_tst, ↓x_and, ↓x_or, ↓x_not, ↓x_andV, ↓x_orV, ↓x_notV, x_tstV, ↓x_ifE, x_true, x_false, ↓x_nil, ↓x_cons, ↓x_tup, ↓x_lst, ↓x_new, ↓x_newD, ↓x_call, ↓x_cb, x_oI, x_oIc, x_oS, x_addS, x_isN, x_notN, x_eqI, x_eqS, x_eqIS, x_eqSI, x_eqNS, x_neI, x_neS, x_neB, x_eqB, x_few, x_need, ↓x_ix, x_lenS, x_ixL0, x_ixT0, x_ixT1, x_ixT2, x_ixT3, x_ixT4, x_lenL, x_lenT, x_lenC, x_listL, x_listT, x_tupL, x_tupT, x_strI, x_strS, x_int1, x_intB, x_I1, x_I2, x_cat, x_catT, ↓x_split, ↓x_for, ↓x_cut, ↓x_lc, ↓x_whl, ↓x_diL, ↓x_diT, ↓x_diS, x_itL, x_itC, x_itT, x_itS, ↓x_diR1, ↓x_diR2, ↓x_diE, x_enmL, x_enmC, ↓x_gcN, ↓x_gcT, ↓x_yes, ↓x_ml, ↓x_ms, x_strq, x_ss, x_ssc, x_ssi, ↓x_join, ↓x_aug, x_st2I, ↓x_sl, ↓x_noP, ↓x_part, x_intq, x_slL, x_slC, x_slS, ↓x_in, x_inT, x_inL, x_ninT, x_ninL, x_inN, x_inSS, x_inSI, x_inIS, x_inII, ↓x_sg, x_sgS, x_nsgS, ↓x_eqD, ↓x_inDD, x_mulS, ↓x_isi, x_isiS, x_isiI, x_isiB, x_isiN, x_isiL, x_isiT, ↓x_isTT, x_itI, x_itStr, x_itN, x_itB, x_itLst, x_itTup, ↓x_any, ↓x_all, ↓x_sum, ↓x_srtI, ↓x_srtS, ↓x_intS, ↓x_lenRf, ↓x_tupRf, ↓x_frz', x_flS, x_flI, x_flN, x_flB, x_cs_bool, x_isB_NoneType_bool, x_isB_bool_bool, x_isB_int_bool, x_isB_str_bool, x_isB_list_bool, x_isB_tuple_bool, x_isB_dict_bool, x_cs_int, x_isB_NoneType_int, x_isB_bool_int, x_isB_int_int, x_isB_str_int, x_isB_list_int, x_isB_tuple_int, x_isB_dict_int, x_cs_str, x_isB_NoneType_str, x_isB_bool_str, x_isB_int_str, x_isB_str_str, x_isB_list_str, x_isB_tuple_str, x_isB_dict_str, x_cs_list, x_isB_NoneType_list, x_isB_bool_list, x_isB_int_list, x_isB_str_list, x_isB_list_list, x_isB_tuple_list, x_isB_dict_list, x_cs_tuple, x_isB_NoneType_tuple, x_isB_bool_tuple, x_isB_int_tuple, x_isB_str_tuple, x_isB_list_tuple, x_isB_tuple_tuple, x_isB_dict_tuple, x_cs_dict, x_isB_NoneType_dict, x_isB_bool_dict, x_isB_int_dict, x_isB_str_dict, x_isB_list_dict, x_isB_tuple_dict, x_isB_dict_dict, List.all_cons, List.all_nil, Bool.and_self, Bool.or_false, Bool.or_true, Bool.false_or, Bool.true_or, wipeD, setD, DL.isNon, List.set_cons_zero, List.set_cons_succ, List.getElem?_cons_zero, List.getElem?_cons_succ, List.length_cons, List.length_nil, Nat.zero_add, List.cons_append, List.nil_append, decide_true, decide_false, Bool.not_true, Bool.not_false, true_and, and_true, startD, List.map_cons, List.map_nil, Nat.reduceSub, Nat.reduceLeDiff, Nat.zero_le, Int.reduceLT, Int.reduceLE, and_self, Nat.reduceAdd, List.replicate])
/-- for each thing but the first those that hold it -/
def HolOk (ls : List (List Nat)) : Prop := ∀ i l, ls[i]? = some l → l ≠ [] ∧ l.length ≤ 3 ∧ ∀ x ∈ l, 1 ≤ x ∧ x ≤ i + 1
def holD (ls : List (List Nat)) : List D := ls.map fun l => .list (l.map fun n : Nat => .int (n : Int))
def dHolders : SpD := fun ds S k _ => ∃ (w : Addr) (m : Nat), ds = [.ref w, .int (m : Int)] ∧ Well S w ∧ 1 ≤ m ∧ m ≤ 500 ∧ ∀ (ls : List (List Nat)) S', ls.length + 1 = m → HolOk ls → Well S' w → (∀ x, x ≠ w → S' x = S x) → k (.list (holD ls)) S'
theorem ok_holders {fa : Addr} {fd : FuncData} (F : Fun K "_law_holders" "_law_holders" s__law_holders fa fd) (T : Txt K mg CT CH) (G__law_dig : DefD P w K mg base 2 "_law_dig" ["_law_well_here", "_law_most"] dDig) : FnOk P w K mg base CX0 3 fa fd ["_law_well_here", "_law_many"] (lSp K dHolders) := by
  refine dok F sc__law_holders (fun ds S q qx ⟨w, m, e, _⟩ => by rw [e]; rfl) ⟨_, fun cdv A outer s H E hr => dss_cons (ds_set (i := 2) sc__law_holders.nd rfl (Or.inl rfl) (de_call G__law_dig (hr.mono (by decide)) (by rfl) (da_cons (de_var 0) (da_cons (de_int) da_nil))))
      (dss_cons (ds_set (i := 3) sc__law_holders.nd rfl (Or.inl rfl) (de_op op_add si_add (de_int) (de_call G__law_dig (hr.mono (by decide)) (by rfl) (da_cons (de_var 0) (da_cons (de_int) da_nil)))))
      (dss_cons (ds_set (i := 4) sc__law_holders.nd rfl (Or.inl rfl) (de_new (da_nil)))
      (dss_cons (ds_for PassesOwn.never rfl (di_range2 (by rfl) T.range (da_cons (de_int) (da_cons (de_op op_add si_add (de_var 1) (de_int)) da_nil))) (dg_name (i := 5) sc__law_holders.nd rfl (Or.inr rfl))
        (dss_one (ds_if (dt_cmp op_eq si_eq (de_var 2) (de_int) (nomark _))
          (dss_one (ds_expr (de_ml PySem.F.slot_list_append PySem.F.type_list_append mt_append si_app (de_var 4) (da_cons (de_lst (da_cons (de_op op_sub si_sub (de_var 5) (de_int)) da_nil)) da_nil))))
          (dss_one (ds_if (dt_cmp op_eq si_eq (de_var 2) (de_int) (nomark _))
            (dss_one (ds_expr (de_ml PySem.F.slot_list_append PySem.F.type_list_append mt_append si_app (de_var 4) (da_cons (de_lst (da_cons (de_op op_add si_add (de_int) (de_op op_fdiv si_fdiv (de_op op_sub si_sub (de_var 5) (de_int)) (de_var 3))) da_nil)) da_nil))))
            (dss_one (ds_expr (de_ml PySem.F.slot_list_append PySem.F.type_list_append mt_append si_app (de_var 4) (da_cons (de_lc (own := [("_law_k", 6)]) (gc_name (j := 6) (by decide)) rfl sc__law_holders.nd (di_range1 (by rfl) T.range (da_cons (de_op op_add si_add (de_int) (de_call G__law_dig (hr.mono (by decide)) (by rfl) (da_cons (de_var 0) (da_cons (de_int) da_nil)))) da_nil)) (blkOk_by (N := N__law_holders) (sc := defScope s__law_holders) (by decide +kernel)) (fun _ _ _ _ _ => pg_name (i := 6) sc__law_holders.nd rfl (Or.inl rfl)) (fun _ _ _ _ _ => dts_nil) (fun _ _ _ _ _ => de_op op_sub si_sub (de_op op_sub si_sub (de_var 5) (de_int)) (de_call G__law_dig (hr.mono (by decide)) (by rfl) (da_cons (de_var 0) (da_cons (de_callB (call_min2 rfl) si_min2 (by rfl) T.min (by decide +kernel) (da_cons (de_op op_sub si_sub (de_var 5) (de_int)) (da_cons (de_int) da_nil))) da_nil))))) da_nil)))))))))
      (dss_one (ds_ret (de_frz 4)))))), fun ds S q qx ⟨w, m, hd, hw, m1, m2, hq⟩ => ?_⟩
  subst hd
  walk_at "dl"
  refine ⟨w, 3, rfl, hw, by decide, by decide, fun way S1 hway hw1 f1 => ?_⟩
  walk_at "dl"
  refine ⟨w, 8, rfl, hw1, by decide, by decide, fun broad S2 hbroad hw2 f2 => ?_⟩
  walk_at "dl"
  refine freshOf fun p hp => ?_
  walk_at "dl"
  have npw : p ≠ w := fun z => by obtain ⟨_, _, _, _, _, e, _⟩ := hw2; rw [← z, hp] at e; cases e
  refine rngOf2 (by omega) (by omega) (by omega) (by omega) ?_
  refine forOf (fun n δ S' => ∃ z5 z6, δ = [some (.ref w), some (.int (m : Int)), some (.int (way : Int)), some (.int (2 + (broad : Int))), some (.ref p), z5, z6] ∧ ∃ ls : List (List Nat), ls.length = n ∧ HolOk ls ∧ S' p = some (.lst (holD ls)) ∧ Well S' w ∧ ∀ x, x ≠ w → x ≠ p → S' x = S x) ⟨_, _, rfl, [], rfl, fun i l h => by simp at h, put_same, ?_, fun x h1 h2 => ?_⟩ ?_ ?_
  · obtain ⟨a, b, c, d, cs, e, r⟩ := hw2
    exact ⟨a, b, c, d, cs, by rw [put_ne npw.symm]; exact e, r⟩
  · rw [put_ne h2, f2 x h1, f1 x h1]
  · rintro i d δ S' hi ⟨z5, z6, rfl, ls, hl, hok, hp', hw', f'⟩
    obtain ⟨rfl, hlt⟩ := rngD_get hi
    have fin : ∀ (l : List Nat) (S'' : Sto) (z6 : Option D), l ≠ [] → l.length ≤ 3 → (∀ x ∈ l, 1 ≤ x ∧ x ≤ i + 1) → S'' p = some (.lst (holD ls)) → Well S'' w → (∀ x, x ≠ w → x ≠ p → S'' x = S x) →
        ∃ z5 z6', [some (.ref w), some (.int (m : Int)), some (.int (way : Int)), some (.int (2 + (broad : Int))), some (.ref p), some (.int (2 + (i : Int))), z6] = [some (D.ref w), some (.int (m : Int)), some (.int (way : Int)), some (.int (2 + (broad : Int))), some (.ref p), z5, z6'] ∧
        ∃ ls' : List (List Nat), ls'.length = i + 1 ∧ HolOk ls' ∧ put S'' p (.lst (holD ls ++ [.list (l.map fun n : Nat => .int (n : Int))])) p = some (.lst (holD ls')) ∧ Well (put S'' p (.lst (holD ls ++ [.list (l.map fun n : Nat => .int (n : Int))]))) w ∧ ∀ x, x ≠ w → x ≠ p → put S'' p (.lst (holD ls ++ [.list (l.map fun n : Nat => .int (n : Int))])) x = S x := fun l S'' z6 l1 l2 l3 h1 h2 h3 => by
      refine ⟨_, _, rfl, ls ++ [l], by simp [hl], fun j l' hj => ?_, by rw [put_same]; simp [holD], ?_, fun x a b => by rw [put_ne b]; exact h3 x a b⟩
      · by_cases hjl : j < ls.length
        · rw [List.getElem?_append_left hjl] at hj
          exact hok j l' hj
        · have hj2 := (List.getElem?_eq_some_iff.mp hj).1
          rw [List.length_append, List.length_singleton] at hj2
          have : j = ls.length := by omega
          subst this
          rw [List.getElem?_append_right (Nat.le_refl _), Nat.sub_self] at hj
          cases hj
          rw [hl]
          exact ⟨l1, l2, l3⟩
      · obtain ⟨a, b, c, d, cs, e, r⟩ := h2
        exact ⟨a, b, c, d, cs, by rw [put_ne npw.symm]; exact e, r⟩
    have hll : (holD ls).length < 100000 := by simp [holD]; omega
    walk_at "dl"
    refine br (fun hb => ?_) (fun hb => ?_)
    · walk_at "dl"
      refine needOf (isLOf hp') ?_
      walk_at "dl"
      refine appOf hp' hll ?_
      have e1 : (2 + (i : Int) - 1) = ((i + 1 : Nat) : Int) := by omega
      rw [e1]
      exact fin [i + 1] S' z6 (by simp) (by simp) (by simp) hp' hw' f'
    · walk_at "dl"
      refine br (fun hb2 => ?_) (fun hb2 => ?_)
      · walk_at "dl"
        refine needOf (isLOf hp') ?_
        walk_at "dl"
        refine needOf ⟨by omega, by omega⟩ ?_
        walk_at "dl"
        refine appOf hp' hll ?_
        have e0 : (2 + (i : Int) - 2) = ((i : Nat) : Int) := by omega
        have e2 : (2 + (broad : Int)) = ((2 + broad : Nat) : Int) := by omega
        have e1 : (1 + (2 + (i : Int) - 2) / (2 + (broad : Int))) = ((1 + i / (2 + broad) : Nat) : Int) := by rw [e0, e2]; rfl
        rw [e1]
        refine fin [1 + i / (2 + broad)] S' z6 (by simp) (by simp) (fun x hx => ?_) hp' hw' f'
        rw [List.mem_singleton.mp hx]
        have := Nat.div_le_self i (2 + broad)
        generalize i / (2 + broad) = qq at this ⊢
        omega
      · walk_at "dl"
        refine needOf (isLOf hp') ?_
        walk_at "dl"
        refine ⟨w, 3, rfl, hw', by decide, by decide, fun c S3 hc hw3 f3 => ?_⟩
        walk_at "dl"
        refine rngOf (by omega) (by omega) ?_
        have hp3 : S3 p = some (.lst (holD ls)) := by rw [f3 p npw]; exact hp'
        refine lcOfS (fun n acc S4 => ∃ l : List Nat, acc = l.map (fun n : Nat => D.int (n : Int)) ∧ l.length = n ∧ (∀ x ∈ l, 1 ≤ x ∧ x ≤ i + 1) ∧ Well S4 w ∧ ∀ x, x ≠ w → S4 x = S3 x) (by rw [rngD_len]; omega) ⟨[], rfl, rfl, by simp, hw3, fun x _ => rfl⟩ ?_ ?_
        · rintro pc hpc n d acc S4 hn hp4 ⟨l, rfl, l1, l2, w4, f4⟩
          have nwc : w ≠ pc := fun z => by obtain ⟨_, _, _, _, _, e, _⟩ := w4; rw [z, hp4] at e; cases e
          walk_at "dl"
          refine ⟨w, _, rfl, ?_, ?_, ?_, fun r S5 hr w5 f5 => ?_⟩
          · obtain ⟨a, b, c, d, cs, e, r⟩ := w4
            exact ⟨a, b, c, d, cs, by rw [put_ne nwc]; exact e, r⟩
          · split <;> omega
          · split <;> omega
          · have hr' : (r : Int) < 2 + (i : Int) - 1 := by split at hr <;> omega
            walk_at "dl"
            refine ⟨del S5 pc, del_same, ?_, l ++ [i + 1 - r], ?_, by simp [l1], ?_, ?_, ?_⟩
            · funext x
              by_cases z : x = pc
              · rw [z, put_same, f5 pc nwc.symm, put_same]
              · rw [put_ne z, del_ne z]
            · rw [List.map_append]
              have : (2 + (i : Int) - 1 - (r : Int)) = ((i + 1 - r : Nat) : Int) := by omega
              rw [this]
              rfl
            · intro x hx
              rcases List.mem_append.mp hx with hx | hx
              · exact l2 x hx
              · rw [List.mem_singleton.mp hx]; omega
            · obtain ⟨a, b, c, d, cs, e, r⟩ := w5
              exact ⟨a, b, c, d, cs, by rw [del_ne nwc]; exact e, r⟩
            · intro x hx
              by_cases z : x = pc
              · rw [z, del_same, hpc]
              · rw [del_ne z, f5 x hx, put_ne z, f4 x hx]
        · rintro acc S4 ⟨l, rfl, l1, l2, w4, f4⟩
          have hp4 : S4 p = some (.lst (holD ls)) := by rw [f4 p npw]; exact hp3
          walk_at "dl"
          refine appOf hp4 hll ?_
          rw [rngD_len] at l1
          refine fin l S4 z6 (fun z => by rw [z] at l1; simp at l1; omega) (by omega) l2 hp4 w4 fun x a b => ?_
          rw [f4 x a, f3 x a, f' x a b]
  · rintro δ S' ⟨z5, z6, rfl, ls, hl, hok, hp', hw', f'⟩
    rw [rngD_len] at hl
    walk_at "dl"
    refine frzOf hp' ?_
    refine hq ls _ (by omega) hok ?_ fun x hx => ?_
    · obtain ⟨a, b, c, d, cs, e, r⟩ := hw'
      exact ⟨a, b, c, d, cs, by rw [del_ne npw.symm]; exact e, r⟩
    · by_cases z : x = p
      · rw [z, del_same, ← f1 p npw, ← f2 p npw, hp]
      · rw [del_ne z]
        exact f' x hx z
end
end K

set_option Elab.async false
set_option linter.all false
set_option maxRecDepth 100000
namespace K
open PySem L2 Evl EX DL
/-- the law's own dict of who holds whom -/
def ptD (Pf : Nat → List Nat) (m : Nat) : List (Key × D) := (List.range m).map fun i : Nat => ((.inl ((i + 1 : Nat) : Int) : Key), D.list ((Pf (i + 1)).map fun n : Nat => .int (n : Int)))
/-- a dict of numbers by numbers -/
def fD (ks : List Nat) (f : Nat → Int) : List (Key × D) := ks.map fun n : Nat => ((.inl (n : Int) : Key), D.int (f n))
theorem inl_inj {a b : Nat} (h : (Sum.inl (a : Int) : Key) = Sum.inl (b : Int)) : a = b := by have := Sum.inl.inj h; omega
theorem gval_map {α : Type} {g : α → Key} {v : α → D} {k : Key} : ∀ (l : List α) (a : α), a ∈ l → g a = k → (∀ b ∈ l, g b = k → b = a) → gval (l.map fun a => (g a, v a)) k = some (v a)
  | [], a, h, _, _ => by cases h
  | b :: l, a, h, e, u => by
    unfold gval
    rw [List.map_cons, List.find?_cons]
    by_cases z : g b = k
    · simp only [z, decide_true]
      rw [u b (List.mem_cons_self ..) z]
      rfl
    · simp only [z, decide_false]
      rcases List.mem_cons.mp h with h | h
      · rw [h] at e; exact absurd e z
      · exact gval_map l a h e fun c hc => u c (List.mem_cons_of_mem _ hc)
theorem gval_none' {kvs : List (Key × D)} {k : Key} (h : ∀ kv ∈ kvs, kv.1 ≠ k) : gval kvs k = none := by
  unfold gval
  rw [Option.map_eq_none_iff, List.find?_eq_none]
  intro kv hk
  simpa using h kv hk
theorem ptD_get {Pf : Nat → List Nat} {m n : Nat} (h1 : 1 ≤ n) (h2 : n ≤ m) : gval (ptD Pf m) (.inl (n : Int)) = some (.list ((Pf n).map fun n : Nat => .int (n : Int))) := by
  have := gval_map (g := fun i : Nat => (.inl ((i + 1 : Nat) : Int) : Key)) (v := fun i : Nat => D.list ((Pf (i + 1)).map fun n : Nat => .int (n : Int))) (k := .inl (n : Int)) (List.range m) (n - 1) (List.mem_range.mpr (by omega)) (by show (Sum.inl ((n - 1 + 1 : Nat) : Int) : Key) = _; rw [show n - 1 + 1 = n by omega]) fun b _ hb => by
    have := inl_inj hb
    omega
  rw [show n - 1 + 1 = n by omega] at this
  exact this
theorem gval_fD {ks : List Nat} {f : Nat → Int} {o : Nat} (h : o ∈ ks) : gval (fD ks f) (.inl (o : Int)) = some (.int (f o)) :=
  gval_map (g := fun n : Nat => (.inl (n : Int) : Key)) (v := fun n : Nat => D.int (f n)) ks o h rfl fun b _ hb => inl_inj hb
theorem gval_fD_no {ks : List Nat} {f : Nat → Int} {o : Nat} (h : o ∉ ks) : gval (fD ks f) (.inl (o : Int)) = none := gval_none' fun kv hk => by
  obtain ⟨n, hn, rfl⟩ := List.mem_map.mp hk
  exact fun z => h (by rw [← inl_inj z]; exact hn)
theorem gput_fD {ks : List Nat} {f : Nat → Int} {o : Nat} {v : Int} (h : o ∈ ks) : gput (fD ks f) (.inl (o : Int)) (.int v) = fD ks (fset f o v) := by
  unfold gput
  rw [if_pos (show ((fD ks f).any fun kv => decide (kv.1 = Sum.inl (o : Int))) = true from List.any_eq_true.mpr ⟨_, List.mem_map.mpr ⟨o, h, rfl⟩, by simp⟩)]
  unfold fD
  rw [List.map_map]
  refine List.map_congr_left fun n _ => ?_
  show (if (Sum.inl (n : Int) : Key) = Sum.inl (o : Int) then _ else _) = _
  by_cases z : n = o
  · subst z
    rw [if_pos rfl, fset_same]
  · rw [if_neg (fun y => z (inl_inj y)), fset_ne z]
theorem gput_fD_new {ks : List Nat} {f : Nat → Int} {o : Nat} {v : Int} (h : o ∉ ks) : gput (fD ks f) (.inl (o : Int)) (.int v) = fD (ks ++ [o]) (fset f o v) := by
  rw [gput_new (gval_fD_no h)]
  unfold fD
  rw [List.map_append]
  congr 1
  · refine List.map_congr_left fun n hn => ?_
    rw [fset_ne (fun z : n = o => h (z ▸ hn))]
  · rw [List.map_singleton, fset_same]
theorem nodup_le : ∀ (m : Nat) (l : List Nat), l.Nodup → (∀ o ∈ l, 1 ≤ o ∧ o ≤ m) → l.length ≤ m := by
  intro m
  induction m with
  | zero =>
    intro l _ h
    cases l with
    | nil => exact Nat.le_refl _
    | cons x r => have := h x (List.mem_cons_self ..); omega
  | succ m ih =>
    intro l nd h
    by_cases e : m + 1 ∈ l
    · have := ih (l.erase (m + 1)) (nd.erase _) fun o ho => by
        have h1 := h o (List.mem_of_mem_erase ho)
        have : o ≠ m + 1 := fun z => (List.Nodup.mem_erase_iff nd).mp ho |>.1 z
        omega
      rw [List.length_erase_of_mem e] at this
      omega
    · have := ih l nd fun o ho => by
        have h1 := h o ho
        have : o ≠ m + 1 := fun z => e (z ▸ ho)
        omega
      omega
/-- all holds, one behind the other -/
def flat (Pf : Nat → List Nat) (m : Nat) : List Nat := (List.range m).flatMap fun j => Pf (j + 1)
theorem flat_succ (Pf : Nat → List Nat) (m : Nat) : flat Pf (m + 1) = flat Pf m ++ Pf (m + 1) := by
  unfold flat
  rw [List.range_succ, List.flatMap_append]
  simp
theorem flat_tot (Pf : Nat → List Nat) (o : Nat) : ∀ m, QM.tot Pf [] o m = (flat Pf m).count o
  | 0 => rfl
  | m + 1 => by
    rw [QM.tot, flat_succ, List.count_append, flat_tot Pf o m]
    simp
/-- the dict of counts so far -/
def Cnt (m : Nat) (L ks : List Nat) : Prop := ks.Nodup ∧ (∀ o, o ∈ ks ↔ o ∈ L) ∧ ∀ o ∈ ks, 1 ≤ o ∧ o ≤ m
def cnt (L : List Nat) : Nat → Int := fun o => (L.count o : Nat)
theorem cnt_snoc (L : List Nat) (o : Nat) : cnt (L ++ [o]) = fset (cnt L) o (cnt L o + 1) := by
  funext x
  unfold cnt
  by_cases z : x = o
  · subst z
    rw [fset_same, List.count_append, List.count_singleton_self]
    rfl
  · rw [fset_ne z, List.count_append, List.count_singleton, if_neg (by simpa using (Ne.symm z))]
    rfl
section
variable {P : Program} {w : World} {K : PySem.W.Frag} {mg : Str → Option Value} {base : Heap} {CT CH : Addr}
local macro_rules | `(tactic| walk_at "dl") => `(tactic| try simp only [↓x_forS, ↓x_diSL, ↓x_diKeys, ↓x_lock, ↓x_dictP, ↓x_fld, ↓x_fldS, ↓x_fldA, ↓x_meth, ↓x_make, ↓x_dget, ↓x_din, ↓x_dget1, ↓x_dget2, ↓x_dpop, ↓x_dput, ↓x_listD, ↓x_sortDI, ↓x_lenD, ↓x_isiC, x_icS, x_icI, x_icB, x_icN, x_ioS, x_ioI, x_ioB, x_ioN, ↓x_gSub, ↓x_sortDL, ↓x_eqO, ↓x_ninA, x_catN, x_isBB, x_isBN, x_isBI, x_isBS, x_isBR, ↓x_seq, ↓x_nx, ↓x_pass, ↓x_brk, ↓x_cnt, ↓x_drop, ↓x_ret, ↓x_retN, ↓x_ifS, ↓x_set, ↓x_asg, ↓x_gN, ↓x_gT, ↓x_gsC, ↓x_gsN, ↓x_var, x_rdv, ↓x_c, ↓x_op, ↓x_test, x_tst, ↓x_and, ↓x_or, ↓x_not, ↓x_andV, ↓x_orV, ↓x_notV, x_tstV, ↓x_ifE, x_true, x_false, ↓x_nil, ↓x_cons, ↓x_tup, ↓x_lst, ↓x_new, ↓x_newD, ↓x_call, ↓x_cb, x_oI, x_oIc, x_oS, x_addS, x_isN, x_notN, x_eqI, x_eqS, x_eqIS, x_eqSI, x_eqNS, x_neI, x_neS, x_neB, x_eqB, x_few, x_need, ↓x_ix, x_lenS, x_ixL0, x_ixT0, x_ixT1, x_ixT2, x_ixT3, x_ixT4, x_lenL, x_lenT, x_lenC, x_listL, x_listT, x_tupL, x_tupT, x_strI, x_strS, x_int1, x_intB, x_I1, x_I2, x_cat, x_catT, ↓x_split, ↓x_for, ↓x_cut, ↓x_lc, ↓x_whl, ↓x_diL, ↓x_diT, ↓x_diS, x_itL, x_itC, x_itT, x_itS, ↓x_diR1, ↓x_diR2, ↓x_diE, x_enmL, x_enmC, ↓x_gcN, ↓x_gcT, ↓x_yes, ↓x_ml, ↓x_ms, x_strq, x_ss, x_ssc, x_ssi, ↓x_join, ↓x_aug, x_st2I, ↓x_sl, ↓x_noP, ↓x_part, x_intq, x_slL, x_slC, x_slS, ↓x_in, x_inT, x_inL, x_ninT, x_ninL, x_inN, x_inSS, x_inSI, x_inIS, x_inII, ↓x_sg, x_sgS, x_nsgS, ↓x_eqD, ↓x_inDD, x_mulS, ↓x_isi, x_isiS, x_isiI, x_isiB, x_isiN, x_isiL, x_isiT, ↓x_isTT, x_itI, x_itStr, x_itN, x_itB, x_itLst, x_itTup, ↓x_any, ↓x_all, ↓x_sum, ↓x_srtI, ↓x_srtS, ↓x_intS, ↓x_lenRf, ↓x_tupRf, ↓x_frz', x_flS, x_flI, x_flN, x_flB, x_cs_bool, x_isB_NoneType_bool, x_isB_bool_bool, x_isB_int_bool, x_isB_str_bool, x_isB_list_bool, x_isB_tuple_bool, x_isB_dict_bool, x_cs_int, x_isB_NoneType_int, x_isB_bool_int, x_isB_int_int, x_isB_str_int, x_isB_list_int, x_isB_tuple_int, x_isB_dict_int, x_cs_str, x_isB_NoneType_str, x_isB_bool_str, x_isB_int_str, x_isB_str_str, x_isB_list_str, x_isB_tuple_str, x_isB_dict_str, x_cs_list, x_isB_NoneType_list, x_isB_bool_list, x_isB_int_list, x_isB_str_list, x_isB_list_list, x_isB_tuple_list, x_isB_dict_list, x_cs_tuple, x_isB_NoneType_tuple, x_isB_bool_tuple, x_isB_int_tuple, x_isB_str_tuple, x_isB_list_tuple, x_isB_tuple_tuple, x_isB_dict_tuple, x_cs_dict, x_isB_NoneType_dict, x_isB_bool_dict, x_isB_int_dict, x_isB_str_dict, x_isB_list_dict, x_isB_tuple_dict, x_isB_dict_dict, List.all_cons, List.all_nil, Bool.and_self, Bool.or_false, Bool.or_true, Bool.false_or, Bool.true_or, wipeD, setD, DL.isNon, List.set_cons_zero, List.set_cons_succ, List.getElem?_cons_zero, List.getElem?_cons_succ, List.length_cons, List.length_nil, Nat.zero_add, List.cons_append, List.nil_append, decide_true, decide_false, Bool.not_true, Bool.not_false, true_and, and_true, startD, List.map_cons, List.map_nil, Nat.reduceSub, Nat.reduceLeDiff, Nat.zero_le, Int.reduceLT, Int.reduceLE, and_self, Nat.reduceAdd, List.replicate])
def dOrder : SpD := fun ds S k _ => ∃ (pa : Addr) (m : Nat) (Pf : Nat → List Nat) (h0 : Nat → Int), ds = [.ref pa, .int (m : Int)] ∧ S pa = some (.dct (ptD Pf m)) ∧ Wh Pf m h0 ∧
  ∀ N S', (QM.st Pf h0 N).1.length = N → (∀ x, S x ≠ none → S' x = S x) → k (.list ((QM.st Pf h0 N).1.map fun n : Nat => .int (n : Int))) S'
theorem ok_order {fa : Addr} {fd : FuncData} (F : Fun K "_law_order" "_law_order" s__law_order fa fd) (T : Txt K mg CT CH) : FnOk P w K mg base CX0 1 fa fd ["_law_parts", "_law_many"] (lSp K dOrder) := by
  refine dok F sc__law_order (fun ds S q qx ⟨pa, m, Pf, h0, e, _⟩ => by rw [e]; rfl) ⟨_, fun cdv A outer s H E hr => dss_cons (ds_set (i := 2) sc__law_order.nd rfl (Or.inl rfl) (de_newD))
      (dss_cons (ds_lock (ds_forS PassesOwn.never rfl (di_keys (de_var 0)) (dg_name (i := 3) sc__law_order.nd rfl (Or.inl rfl))
        (dss_one (ds_for PassesOwn.never rfl (di_list (K := K) (de_dget (hu_of hr) (de_var 0) (de_var 3) (fun _ _ => rfl))) (dg_name (i := 4) sc__law_order.nd rfl (Or.inl rfl))
          (dss_one (ds_dput (hu_of hr) (de_var 2) (de_var 4) (de_op op_add si_add (de_dgets2 (hu_of hr) (de_var 2) (de_var 4) (de_int)) (de_int))))))))
      (dss_cons (ds_set (i := 5) sc__law_order.nd rfl (Or.inl rfl) (de_new (da_cons (de_int) da_nil)))
      (dss_cons (ds_set (i := 6) sc__law_order.nd rfl (Or.inl rfl) (de_int))
      (dss_cons (ds_while PassesOwn.never (dt_cmp op_lt si_lt (de_var 6) (de_callB call_len (si_len rfl) (by rfl) T.len (by decide +kernel) (da_cons (de_var 5) da_nil)) (nomark _))
        (dss_cons (ds_for PassesOwn.never rfl (di_list (K := K) (de_dget (hu_of hr) (de_var 0) (de_ix ix_seq (si_ix rfl) (de_var 5) (de_var 6) (fun _ _ => rfl)) (fun _ _ => rfl))) (dg_name (i := 4) sc__law_order.nd rfl (Or.inl rfl))
          (dss_cons (ds_dput (hu_of hr) (de_var 2) (de_var 4) (de_op op_sub si_sub (de_dget (hu_of hr) (de_var 2) (de_var 4) (fun _ _ => rfl)) (de_int)))
          (dss_one (ds_if (dt_cmp op_eq si_eq (de_dget (hu_of hr) (de_var 2) (de_var 4) (fun _ _ => rfl)) (de_int) (nomark _))
            (dss_one (ds_expr (de_ml PySem.F.slot_list_append PySem.F.type_list_append mt_append si_app (de_var 5) (da_cons (de_var 4) da_nil))))
            (dss_nil)))))
        (dss_one (ds_set (i := 6) sc__law_order.nd rfl (Or.inl rfl) (de_op op_add si_add (de_var 6) (de_int))))))
      (dss_one (ds_ret (de_frz 5))))))), fun ds S q qx ⟨pa, m, Pf, h0, hd, hpa, H, hq⟩ => ?_⟩
  subst hd
  walk_at "dl"
  refine freshOf fun hd nh => ?_
  walk_at "dl"
  have nph : pa ≠ hd := sto_ne hpa nh
  refine lockOf (a := pa) (by rw [put_ne nph]; exact hpa) fun od xs => ?_
  walk_at "dl"
  refine skOf put_same ?_
  refine forSOf (fun n δ S' => ∃ z3 z4, δ = [some (.ref pa), some (.int (m : Int)), some (.ref hd), z3, z4, none, none] ∧ ∃ ks, Cnt m (flat Pf n) ks ∧ S' hd = some (.dct (fD ks (cnt (flat Pf n)))) ∧ ∀ x, x ≠ hd → x ≠ pa → S' x = S x) ⟨_, _, rfl, [], ⟨by simp, by simp [flat], by simp⟩, ?_, fun x h1 h2 => ?_⟩ put_same ?_ ?_
  · rw [put_ne nph.symm]; exact put_same
  · rw [put_ne h2, put_ne h1]
  · rintro i d δ S' hi hlk ⟨z3, z4, rfl, ks, hks, hh, fr⟩
    obtain ⟨hn, rfl⟩ : i < m ∧ d = .int ((i + 1 : Nat) : Int) := by
      unfold ptD at hi
      rw [List.map_map, List.getElem?_map] at hi
      obtain ⟨j, hj, rfl⟩ := Option.map_eq_some_iff.mp hi
      have hlt := (List.getElem?_eq_some_iff.mp hj).1
      rw [List.length_range] at hlt
      rw [List.getElem?_range hlt] at hj
      cases hj
      exact ⟨hlt, rfl⟩
    walk_at "dl"
    refine dgetOfR (.inr ⟨od, xs, hlk⟩) rfl (ptD_get (n := i + 1) (by omega) (by omega)) ?_
    walk_at "dl"
    refine forOf (fun j δ S' => S' pa = some (.lck od xs (ptD Pf m)) ∧ ∃ z4, δ = [some (.ref pa), some (.int (m : Int)), some (.ref hd), some (.int ((i + 1 : Nat) : Int)), z4, none, none] ∧ ∃ ks, Cnt m (flat Pf i ++ (Pf (i + 1)).take j) ks ∧ S' hd = some (.dct (fD ks (cnt (flat Pf i ++ (Pf (i + 1)).take j)))) ∧ ∀ x, x ≠ hd → x ≠ pa → S' x = S x) ⟨hlk, _, rfl, ks, by rw [List.take_zero, List.append_nil]; exact hks, by rw [List.take_zero, List.append_nil]; exact hh, fr⟩ ?_ ?_
    · rintro j d δ S3 hj ⟨hlk, z4, rfl, ks, hks, hh, fr⟩
      obtain ⟨o, ho, rfl⟩ := Option.map_eq_some_iff.mp ((List.getElem?_map (f := fun n : Nat => D.int (n : Int))) ▸ hj)
      have ob := H.gr.up (i + 1) (by omega) (by omega) o (List.mem_of_getElem? ho)
      have et : flat Pf i ++ (Pf (i + 1)).take (j + 1) = (flat Pf i ++ (Pf (i + 1)).take j) ++ [o] := by rw [List.take_add_one, ho, List.append_assoc]; rfl
      generalize flat Pf i ++ (Pf (i + 1)).take j = L at hks hh et
      have hlen := nodup_le m ks hks.1 hks.2.2
      have hmost := H.most
      walk_at "dl"
      refine isDOf hh ?_
      walk_at "dl"
      refine dgorOf hh rfl ?_
      walk_at "dl"
      have hval : ((gval (fD ks (cnt L)) (.inl (o : Int))).getD (.int 0)) = .int (cnt L o) := by
        by_cases z : o ∈ ks
        · rw [gval_fD z]; rfl
        · rw [gval_fD_no z]
          have : o ∉ L := fun y => z ((hks.2.1 o).mpr y)
          show D.int 0 = .int ((L.count o : Nat) : Int)
          rw [List.count_eq_zero_of_not_mem this]
          rfl
      rw [hval]
      walk_at "dl"
      refine dputOf hh rfl (by unfold fD; rw [List.length_map]; omega) ?_
      refine ⟨by rw [put_ne nph]; exact hlk, _, rfl, ?_⟩
      rw [et, cnt_snoc]
      by_cases z : o ∈ ks
      · refine ⟨ks, ⟨hks.1, fun x => ?_, hks.2.2⟩, by rw [put_same, gput_fD z], fun x h1 h2 => by rw [put_ne h1]; exact fr x h1 h2⟩
        rw [hks.2.1 x, List.mem_append, List.mem_singleton]
        exact ⟨.inl, fun y => y.elim id fun y => by rw [y]; exact (hks.2.1 o).mp z⟩
      · refine ⟨ks ++ [o], ⟨?_, fun x => ?_, fun x hx => ?_⟩, by rw [put_same, gput_fD_new z], fun x h1 h2 => by rw [put_ne h1]; exact fr x h1 h2⟩
        · exact List.nodup_append.mpr ⟨hks.1, by simp, fun a ha b hb e => z (by rw [← List.mem_singleton.mp hb, ← e]; exact ha)⟩
        · rw [List.mem_append, List.mem_append, hks.2.1 x]
        · rcases List.mem_append.mp hx with hx | hx
          · exact hks.2.2 x hx
          · rw [List.mem_singleton.mp hx]; omega
    · rintro δ S3 ⟨hlk, z4, rfl, ks, hks, hh, fr⟩
      rw [List.length_map, List.take_length, ← flat_succ] at hks hh
      exact ⟨hlk, _, _, rfl, ks, hks, hh, fr⟩
  · rintro δ S' hlk ⟨z3, z4, rfl, ks, hks, hh, fr⟩
    have elen : (List.map (fun kv => dK kv.fst) (ptD Pf m)).length = m := by unfold ptD; rw [List.length_map, List.length_map, List.length_range]
    rw [elen] at hks hh
    refine ⟨hlk, ?_⟩
    have hks2 : ∀ o, o ∈ ks ↔ 2 ≤ o ∧ o ≤ m := fun o => by
      constructor
      · intro z
        obtain ⟨j, hj, ho⟩ := List.mem_flatMap.mp ((hks.2.1 o).mp z)
        have := H.gr.up (j + 1) (by omega) (by have := List.mem_range.mp hj; omega) o ho
        omega
      · intro z
        obtain ⟨n, a, b, c⟩ := H.gr.held o z.1 z.2
        refine (hks.2.1 o).mpr (List.mem_flatMap.mpr ⟨n - 1, List.mem_range.mpr (by omega), ?_⟩)
        rw [show n - 1 + 1 = n by omega]
        exact c
    have hlen := nodup_le m ks hks.1 hks.2.2
    have hmost := H.most
    have hh' : put S' pa (.dct (ptD Pf m)) hd = some (.dct (fD ks (cnt (flat Pf m)))) := by rw [put_ne nph.symm]; exact hh
    have fr' : ∀ x, x ≠ hd → put S' pa (.dct (ptD Pf m)) x = S x := fun x h1 => by
      by_cases z : x = pa
      · rw [z, put_same, hpa]
      · rw [put_ne z]; exact fr x h1 z
    generalize put S' pa (.dct (ptD Pf m)) = S1 at hh' fr'
    have hpa1 : S1 pa = some (.dct (ptD Pf m)) := by rw [fr' pa nph]; exact hpa
    walk_at "dl"
    refine freshOf fun p hp => ?_
    have npp : pa ≠ p := sto_ne hpa1 hp
    have nhp : hd ≠ p := sto_ne hh' hp
    walk_at "dl"
    refine whlOf (fun f δ S' => ∃ i z3 z4 g, f = m - i ∧ i ≤ (QM.st Pf h0 i).1.length ∧ δ = [some (.ref pa), some (.int (m : Int)), some (.ref hd), z3, z4, some (.ref p), some (.int (i : Int))] ∧ S' p = some (.lst ((QM.st Pf h0 i).1.map fun n : Nat => .int (n : Int))) ∧
      S' hd = some (.dct (fD ks g)) ∧ (∀ o ∈ ks, g o = (QM.st Pf h0 i).2 o) ∧ ∀ x, x ≠ hd → x ≠ p → S' x = S1 x) m ⟨0, _, _, cnt (flat Pf m), rfl, Nat.zero_le _, rfl, put_same, by rw [put_ne nhp]; exact hh', fun o ho => ?_, fun x h1 h2 => put_ne h2⟩ ?_
    · have := (hks2 o).mp ho
      show ((_ : Nat) : Int) = h0 o
      rw [H.hh o this.1 this.2, flat_tot]
    · rintro f δ S2 ⟨i, z3, z4, g, rfl, hi, rfl, hp2, hh2, hg, fr2⟩
      have Rw := QM.st_row H.gr H.one H.hh i hi
      have hle := Rw.le
      walk_at "dl"
      refine lenRf hp2 ?_
      walk_at "dl"
      rw [List.length_map]
      refine br (fun hb => ?_) (fun hb => ?_)
      · have hlt : i < (QM.st Pf h0 i).1.length := by have := of_decide_eq_true hb; omega
        have hat := List.getElem?_eq_getElem hlt
        generalize (QM.st Pf h0 i).1[i] = n at hat
        have nb := Rw.inm n (List.mem_of_getElem? hat)
        walk_at "dl"
        refine ixSeq (ds := (QM.st Pf h0 i).1.map fun n : Nat => D.int (n : Int)) hp2 (by rw [List.getElem?_map, hat]; rfl) ?_
        walk_at "dl"
        refine dgetOf (by rw [fr2 pa nph npp]; exact hpa1) rfl (ptD_get nb.1 nb.2) ?_
        walk_at "dl"
        refine forOf (fun j δ S3 => ∃ z4 g, δ = [some (.ref pa), some (.int (m : Int)), some (.ref hd), z3, z4, some (.ref p), some (.int (i : Int))] ∧ S3 p = some (.lst ((((Pf n).take j).foldl QM.step (QM.st Pf h0 i)).1.map fun n : Nat => .int (n : Int))) ∧
          S3 hd = some (.dct (fD ks g)) ∧ (∀ o ∈ ks, g o = (((Pf n).take j).foldl QM.step (QM.st Pf h0 i)).2 o) ∧ ∀ x, x ≠ hd → x ≠ p → S3 x = S1 x) ⟨_, g, rfl, hp2, hh2, hg, fr2⟩ ?_ ?_
        · rintro j d δ S3 hj ⟨z4, g, rfl, hp3, hh3, hg3, fr3⟩
          obtain ⟨o, ho, rfl⟩ := Option.map_eq_some_iff.mp ((List.getElem?_map (f := fun n : Nat => D.int (n : Int))) ▸ hj)
          have ob := H.gr.up n nb.1 nb.2 o (List.mem_of_getElem? ho)
          have hok : o ∈ ks := (hks2 o).mpr ⟨by omega, ob.2⟩
          have es : ((Pf n).take (j + 1)).foldl QM.step (QM.st Pf h0 i) = QM.step (((Pf n).take j).foldl QM.step (QM.st Pf h0 i)) o := by rw [List.take_add_one, ho, List.foldl_append]; rfl
          have Rj : QM.Row Pf m ((QM.st Pf h0 i).1.take i ++ [n]) ((Pf n).drop j) (((Pf n).take j).foldl QM.step (QM.st Pf h0 i)).1 (((Pf n).take j).foldl QM.step (QM.st Pf h0 i)).2 := by
            have R1 := Rw.turn H.gr (n := n) (by rw [List.length_take, Nat.min_eq_left (by omega)]; exact hat)
            have key : ∀ (a b : List Nat) (s : QM.Qs), QM.Row Pf m ((QM.st Pf h0 i).1.take i ++ [n]) (a ++ b) s.1 s.2 → QM.Row Pf m ((QM.st Pf h0 i).1.take i ++ [n]) b (a.foldl QM.step s).1 (a.foldl QM.step s).2 := by
              intro a
              induction a with
              | nil => intro b s h; exact h
              | cons c a ih => intro b s h; exact ih b _ (QM.row_step h)
            refine key _ _ _ ?_
            rw [List.take_append_drop]
            exact R1
          have hle3 := Rj.le
          generalize ((Pf n).take j).foldl QM.step (QM.st Pf h0 i) = s at hp3 hg3 es hle3
          walk_at "dl"
          refine dgetOf hh3 rfl (gval_fD hok) ?_
          walk_at "dl"
          refine dputOf hh3 rfl (by unfold fD; rw [List.length_map]; omega) ?_
          rw [gput_fD hok]
          walk_at "dl"
          refine dgetOf put_same rfl (gval_fD hok) ?_
          rw [fset_same]
          walk_at "dl"
          have hg' : ∀ x ∈ ks, fset g o (g o - 1) x = (QM.step s o).2 x := fun x hx => by
            show _ = QM.fset s.2 o (s.2 o - 1) x
            by_cases z : x = o
            · rw [z, fset_same, QM.fset_same, hg3 o hok]
            · rw [fset_ne z, QM.fset_ne z, hg3 x hx]
          refine br (fun hb => ?_) (fun hb => ?_)
          · have hz : s.2 o - 1 = 0 := by rw [← hg3 o hok]; exact of_decide_eq_true hb
            have e1 : (QM.step s o).1 = s.1 ++ [o] := if_pos hz
            walk_at "dl"
            refine needOf (isLOf (by rw [put_ne nhp.symm]; exact hp3)) ?_
            walk_at "dl"
            refine appOf (by rw [put_ne nhp.symm]; exact hp3) (by rw [List.length_map]; omega) ?_
            refine ⟨_, _, rfl, ?_, by rw [put_ne nhp]; exact put_same, by rw [es]; exact hg', fun x h1 h2 => by rw [put_ne h2, put_ne h1]; exact fr3 x h1 h2⟩
            rw [es, e1, put_same, List.map_append]
            rfl
          · have hz : ¬ s.2 o - 1 = 0 := by rw [← hg3 o hok]; exact of_decide_eq_false hb
            have e1 : (QM.step s o).1 = s.1 := if_neg hz
            walk_at "dl"
            refine ⟨_, _, rfl, ?_, put_same, by rw [es]; exact hg', fun x h1 h2 => by rw [put_ne h1]; exact fr3 x h1 h2⟩
            rw [es, e1, put_ne nhp.symm]
            exact hp3
        · rintro δ S3 ⟨z4, g, rfl, hp3, hh3, hg3, fr3⟩
          rw [List.length_map, List.take_length] at hp3 hg3
          have es : QM.st Pf h0 (i + 1) = (Pf n).foldl QM.step (QM.st Pf h0 i) := QM.st_some hat
          rw [← es] at hp3 hg3
          walk_at "dl"
          refine ⟨m - (i + 1), by omega, i + 1, _, _, g, rfl, ?_, rfl, hp3, hh3, hg3, fr3⟩
          rw [es]
          obtain ⟨t, ht⟩ := QM.fold_pre (Pf n) (QM.st Pf h0 i)
          rw [← ht, List.length_append]
          omega
      · have hge : (QM.st Pf h0 i).1.length = i := by have := of_decide_eq_false hb; omega
        walk_at "dl"
        refine frzOf hp2 ?_
        refine hq i _ hge fun x hx => ?_
        by_cases z : x = p
        · rw [z] at hx
          have : S p = none := by rw [← fr' p nhp.symm]; exact hp
          exact absurd this hx
        · have zh : x ≠ hd := fun y => hx (by rw [y]; exact nh)
          rw [del_ne z, fr2 x zh z, fr' x zh]
end
end K

set_option Elab.async false
set_option linter.all false
set_option maxRecDepth 100000
namespace K
open PySem L2 Evl EX DL
/-- parts by numbers from 1 on -/
def pz (l : List Nat) : List (Key × Nat) := l.mapIdx fun j o => ((.inl ((j + 1 : Nat) : Int) : Key), o)
theorem pz_snd (l : List Nat) : (pz l).map (·.2) = l := by
  apply List.ext_getElem?
  intro i
  unfold pz
  rw [List.getElem?_map, List.getElem?_mapIdx]
  cases l[i]? <;> rfl
theorem pz_len (l : List Nat) : (pz l).length = l.length := by simp [pz]
theorem pz_snoc (l : List Nat) (o : Nat) : pz (l ++ [o]) = pz l ++ [((.inl ((l.length + 1 : Nat) : Int) : Key), o)] := by
  unfold pz
  rw [List.mapIdx_append]
  simp
theorem pz_keys (l : List Nat) : (pz l).map (·.1) = (List.range l.length).map fun j : Nat => (.inl ((j + 1 : Nat) : Int) : Key) := by
  apply List.ext_getElem?
  intro i
  unfold pz
  rw [List.getElem?_map, List.getElem?_map, List.getElem?_mapIdx]
  by_cases h : i < l.length
  · rw [List.getElem?_range h, List.getElem?_eq_getElem h]
    rfl
  · rw [List.getElem?_eq_none (by simpa using h), List.getElem?_eq_none (by simpa using h)]
    rfl
theorem pz_nodup (l : List Nat) : ((pz l).map (·.1)).Nodup := by
  rw [pz_keys]
  refine List.Pairwise.map _ (fun a b h => ?_) List.nodup_range
  intro z
  exact h (by have := inl_inj z; omega)
theorem pz_new (l : List Nat) (A : Nat → Addr) : gval ((pz l).map fun kj => ((kj.1, .ref (A kj.2)) : Key × D)) (.inl ((l.length + 1 : Nat) : Int)) = none := gval_none' fun kv hk => by
  obtain ⟨kj, hkj, rfl⟩ := List.mem_map.mp hk
  have : kj.1 ∈ (pz l).map (·.1) := List.mem_map.mpr ⟨kj, hkj, rfl⟩
  rw [pz_keys] at this
  obtain ⟨j, hj, e⟩ := List.mem_map.mp this
  have := List.mem_range.mp hj
  intro z
  rw [← e] at z
  have := inl_inj z
  omega
def md (f : Nat → Int) (Pf : Nat → List Nat) (m : Nat) : Md := { cnt := f, parts := fun n => pz (Pf n), wt := fun _ => false, there := (List.range m).map (· + 1), left := [], row := [] }
section
variable {CT CH : Addr} {A : Ad} {m n : Nat} {M : Md} {S S' : Sto} {f : Nat → Int} {Pf : Nat → List Nat}
theorem Ri.congr (R : Ri CT CH A m M S) (h1 : S' A.h = S A.h) (h2 : S' A.th = S A.th) (h3 : S' A.lf = S A.lf) (h4 : ∀ n, 1 ≤ n → n ≤ m → S' (A.t n) = S (A.t n)) (h5 : ∀ n, 1 ≤ n → n ≤ m → S' (A.pd n) = S (A.pd n)) : Ri CT CH A m M S' :=
  ⟨by rw [h1]; exact R.hall, by rw [h2]; exact R.there, by rw [h3]; exact R.left, fun n a b => by rw [h4 n a b]; exact R.th n a b, fun n a b => by rw [h5 n a b]; exact R.pt n a b, R.ti, R.pi, R.tp, R.cc⟩
theorem Ri.setParts (R : Ri CT CH A m M S) (h1 : 1 ≤ n) (h2 : n ≤ m) (l : List (Key × Nat)) : Ri CT CH A m { M with parts := fset M.parts n l } (put S (A.pd n) (.dct (l.map fun kj => (kj.1, .ref (A.t kj.2))))) := by
  have e := R.pt n h1 h2
  have nh : A.h ≠ A.pd n := fun z => by have := R.hall; rw [z, e] at this; cases this
  have nl : A.lf ≠ A.pd n := fun z => by have := R.left; rw [z, e] at this; cases this
  refine ⟨by rw [put_ne nh]; exact R.hall, by rw [put_ne (R.tp n h1 h2)]; exact R.there, by rw [put_ne nl]; exact R.left, fun i a b => ?_, fun i a b => ?_, R.ti, R.pi, R.tp, R.cc⟩
  · have : A.t i ≠ A.pd n := fun y => by have := R.th i a b; rw [y, e] at this; cases this
    rw [put_ne this]
    exact R.th i a b
  · by_cases z : i = n
    · subst z
      rw [put_same]
      simp only [fset_same]
    · have : A.pd i ≠ A.pd n := fun y => z (R.pi i n a b h1 h2 y)
      rw [put_ne this, R.pt i a b]
      simp only [fset_ne z]
/-- a thing more -/
theorem Ri.make (R : Ri CT CH A m (md f Pf m) S) (hf : f (m + 1) = 0) (hP : Pf (m + 1) = []) (hb : ∀ n, 1 ≤ n → n ≤ m → ∀ o ∈ Pf n, o ≤ m) {t pd dt : Addr} (n1 : S t = none) (n2 : S pd = none) (ne : t ≠ pd)
    (e1 : S' t = some (.ins CT dt (thFs (.str (Str.ofString "being")) (.int ((m : Int) + 1)) (.int 0) (.ref pd) .non (.bl false) (.bl false)))) (e2 : S' pd = some (.dct [])) (e3 : S' A.h = some (.ins CH A.dx (haFs .non (.int ((m : Int) + 1)) (.ref A.th) (.ref A.lf) .non (.int 0))))
    (e4 : S' A.th = some (.dct (gput ((md f Pf m).there.map fun n : Nat => ((.inl (n : Int), .ref (A.t n)) : Key × D)) (.inl ((m : Int) + 1)) (.ref t)))) (fr : ∀ b, b ≠ t → b ≠ pd → b ≠ A.h → b ≠ A.th → S' b = S b) :
    Ri CT CH { A with t := fset A.t (m + 1) t, pd := fset A.pd (m + 1) pd, dt := fset A.dt (m + 1) dt } (m + 1) (md f Pf (m + 1)) S' := by
  have fb : ∀ b o, S b = some o → b ≠ A.h → b ≠ A.th → S' b = some o := fun b o h a1 a2 => by rw [fr b (sto_ne h n1) (sto_ne h n2) a1 a2]; exact h
  have ec : ((m + 1 : Nat) : Int) = (m : Int) + 1 := by omega
  have nlh : A.lf ≠ A.h := fun z => by have := R.left; rw [z, R.hall] at this; cases this
  have nlt : A.lf ≠ A.th := fun z => by have := R.left; rw [z, R.there] at this; cases this
  refine ⟨?_, ?_, ?_, fun i a b => ?_, fun i a b => ?_, fun i j a b c d => ?_, fun i j a b c d => ?_, fun i a b => ?_, R.cc⟩
  · rw [ec]; exact e3
  · show S' A.th = _
    rw [e4, gput_new]
    · show _ = some (O.dct (((List.range (m + 1)).map (· + 1)).map fun n : Nat => ((.inl (n : Int), .ref (fset A.t (m + 1) t n)) : Key × D)))
      rw [List.range_succ, List.map_append, List.map_append, List.map_singleton, List.map_singleton, fset_same, ec]
      congr 2
      congr 1
      refine List.map_congr_left fun n hn => ?_
      obtain ⟨j, hj, rfl⟩ := List.mem_map.mp hn
      have := List.mem_range.mp hj
      rw [fset_ne (by omega)]
    · refine gval_none' fun kv hk => ?_
      obtain ⟨n, hn, rfl⟩ := List.mem_map.mp hk
      obtain ⟨j, hj, rfl⟩ := List.mem_map.mp hn
      have := List.mem_range.mp hj
      intro z
      have := Sum.inl.inj z
      omega
  · exact fb _ _ R.left nlh nlt
  · show S' (fset A.t (m + 1) t i) = some (.ins CT (fset A.dt (m + 1) dt i) (thFs _ (.int (i : Int)) (.int (f i)) (.ref (fset A.pd (m + 1) pd i)) .non (.bl false) (.bl false)))
    by_cases z : i = m + 1
    · subst z
      rw [fset_same, fset_same, fset_same, e1, hf, ec]
    · have hi := R.th i a (by omega)
      rw [fset_ne z, fset_ne z, fset_ne z]
      refine fb _ _ hi (fun y => ?_) (fun y => ?_)
      · rw [y, R.hall] at hi; injection hi with hi; injection hi with hi; exact R.cc hi.symm
      · rw [y, R.there] at hi; cases hi
  · show S' (fset A.pd (m + 1) pd i) = some (.dct ((pz (Pf i)).map fun kj => (kj.1, .ref (fset A.t (m + 1) t kj.2))))
    by_cases z : i = m + 1
    · subst z
      rw [fset_same, e2, hP]
      rfl
    · have hi := R.pt i a (by omega)
      rw [fset_ne z]
      have hc : ((pz (Pf i)).map fun kj => ((kj.1, .ref (fset A.t (m + 1) t kj.2)) : Key × D)) = (pz (Pf i)).map fun kj => (kj.1, .ref (A.t kj.2)) := List.map_congr_left fun kj hkj => by
        have : kj.2 ∈ (pz (Pf i)).map (·.2) := List.mem_map.mpr ⟨kj, hkj, rfl⟩
        rw [pz_snd] at this
        have := hb i a (by omega) kj.2 this
        rw [fset_ne (by omega)]
      rw [hc]
      refine fb _ _ hi (fun y => ?_) (fun y => ?_)
      · rw [y, R.hall] at hi; cases hi
      · exact R.tp i a (by omega) y.symm
  · show fset A.t (m + 1) t i = fset A.t (m + 1) t j → _
    by_cases z : i = m + 1
    · by_cases y : j = m + 1
      · intro _; omega
      · rw [z, fset_same, fset_ne y]
        intro x
        have := R.th j c (by omega)
        rw [← x, n1] at this
        cases this
    · by_cases y : j = m + 1
      · rw [y, fset_same, fset_ne z]
        intro x
        have := R.th i a (by omega)
        rw [x, n1] at this
        cases this
      · rw [fset_ne y, fset_ne z]
        exact R.ti i j a (by omega) c (by omega)
  · show fset A.pd (m + 1) pd i = fset A.pd (m + 1) pd j → _
    by_cases z : i = m + 1
    · by_cases y : j = m + 1
      · intro _; omega
      · rw [z, fset_same, fset_ne y]
        intro x
        have := R.pt j c (by omega)
        rw [← x, n2] at this
        cases this
    · by_cases y : j = m + 1
      · rw [y, fset_same, fset_ne z]
        intro x
        have := R.pt i a (by omega)
        rw [x, n2] at this
        cases this
      · rw [fset_ne y, fset_ne z]
        exact R.pi i j a (by omega) c (by omega)
  · show A.th ≠ fset A.pd (m + 1) pd i
    by_cases z : i = m + 1
    · rw [z, fset_same]
      exact sto_ne R.there n2
    · rw [fset_ne z]
      exact R.tp i a (by omega)
end
/-- a hold more -/
theorem tot_more {Pf : Nat → List Nat} {n o x : Nat} (h1 : 1 ≤ n) : ∀ m, QM.tot (fset Pf n (Pf n ++ [o])) [] x m = QM.tot Pf [] x m + if n ≤ m ∧ x = o then 1 else 0
  | 0 => by rw [QM.tot, QM.tot, if_neg (by omega)]
  | m + 1 => by
    rw [QM.tot, QM.tot, tot_more h1 m]
    simp only [List.not_mem_nil, if_false]
    by_cases z : m + 1 = n
    · subst z
      rw [fset_same, List.count_append]
      by_cases y : x = o
      · subst y
        rw [List.count_singleton_self, if_neg (by omega), if_pos ⟨Nat.le_refl _, rfl⟩]
        omega
      · have : [o].count x = 0 := List.count_eq_zero_of_not_mem (by simpa using y)
        rw [this, if_neg (by omega), if_neg (fun w => y w.2)]
        omega
    · rw [fset_ne z]
      by_cases y : n ≤ m ∧ x = o
      · rw [if_pos y, if_pos ⟨by omega, y.2⟩]
        omega
      · rw [if_neg y, if_neg (by omega)]
        omega
end K

set_option Elab.async false
set_option linter.all false
set_option maxRecDepth 100000
namespace K
open PySem L2 Evl EX DL
def lpD (lp : Nat → Addr) (m : Nat) : List (Key × D) := (List.range m).map fun i : Nat => ((.inl ((i + 1 : Nat) : Int) : Key), D.ref (lp (i + 1)))
/-- the law's own places beside the hall's -/
structure Ow (A : Ad) (m : Nat) (w pa : Addr) (lp : Nat → Addr) : Prop where
  wl : w ≠ A.lf
  pth : pa ≠ A.th
  ppd : ∀ n, 1 ≤ n → n ≤ m → pa ≠ A.pd n
  lw : ∀ n, 1 ≤ n → n ≤ m → lp n ≠ w
  ll : ∀ n, 1 ≤ n → n ≤ m → lp n ≠ A.lf
  li : ∀ i j, 1 ≤ i → i ≤ m → 1 ≤ j → j ≤ m → lp i = lp j → i = j
/-- while the parts are put -/
structure Bd (CT CH : Addr) (A : Ad) (m : Nat) (f : Nat → Int) (Pf : Nat → List Nat) (w pa : Addr) (lp : Nat → Addr) (S : Sto) : Prop where
  r : Ri CT CH A m (md f Pf m) S
  ow : Ow A m w pa lp
  wl : Well S w
  hp : S pa = some (.dct (lpD lp m))
  hl : ∀ n, 1 ≤ n → n ≤ m → S (lp n) = some (.lst ((Pf n).map fun n : Nat => .int (n : Int)))
section
variable {CT CH : Addr} {A : Ad} {m n : Nat} {M : Md} {S S' : Sto} {f : Nat → Int} {Pf : Nat → List Nat}
theorem Ri.count (R : Ri CT CH A m (md f Pf m) S) (h1 : 1 ≤ n) (h2 : n ≤ m) (c : Int) : Ri CT CH A m (md (fset f n c) Pf m) (put S (A.t n) (.ins CT (A.dt n) (thFs (.str (Str.ofString "being")) (.int (n : Int)) (.int c) (.ref (A.pd n)) .non (.bl false) (.bl false)))) := by
  have h := (R.setT h1 h2 c false).1
  have e : fset (md f Pf m).wt n false = fun _ => false := by funext i; unfold fset; split <;> rfl
  rw [e] at h
  exact h
theorem Ri.part (R : Ri CT CH A m (md f Pf m) S) (h1 : 1 ≤ n) (h2 : n ≤ m) (o : Nat) : Ri CT CH A m (md f (fset Pf n (Pf n ++ [o])) m) (put S (A.pd n) (.dct ((pz (Pf n ++ [o])).map fun kj => (kj.1, .ref (A.t kj.2))))) := by
  have h := R.setParts h1 h2 (pz (Pf n ++ [o]))
  have e : fset (md f Pf m).parts n (pz (Pf n ++ [o])) = fun i => pz (fset Pf n (Pf n ++ [o]) i) := by
    funext i
    by_cases z : i = n
    · subst z; rw [fset_same, fset_same]
    · rw [fset_ne z, fset_ne z]; rfl
  rw [e] at h
  exact h
end
section
variable {CT CH : Addr} {A : Ad} {m n : Nat} {M : Md} {S S' : Sto} {f : Nat → Int} {Pf : Nat → List Nat} {w pa : Addr} {lp : Nat → Addr}
theorem Bd.count (B : Bd CT CH A m f Pf w pa lp S) (h1 : 1 ≤ n) (h2 : n ≤ m) (c : Int) : Bd CT CH A m (fset f n c) Pf w pa lp (put S (A.t n) (.ins CT (A.dt n) (thFs (.str (Str.ofString "being")) (.int (n : Int)) (.int c) (.ref (A.pd n)) .non (.bl false) (.bl false)))) := by
  have e := B.r.th n h1 h2
  refine ⟨B.r.count h1 h2 c, B.ow, ?_, by rw [put_ne (fun z => by rw [← z, B.hp] at e; cases e)]; exact B.hp, fun i a b => by rw [put_ne (fun z => by rw [← z, B.hl i a b] at e; cases e)]; exact B.hl i a b⟩
  obtain ⟨a, b, c, d, cs, g, r⟩ := B.wl
  exact ⟨a, b, c, d, cs, by rw [put_ne (fun z => by rw [← z, g] at e; cases e)]; exact g, r⟩
theorem Bd.other (B : Bd CT CH A m f Pf w pa lp S) (hw : Well S' w) (fr : ∀ x, x ≠ w → S' x = S x) : Bd CT CH A m f Pf w pa lp S' := by
  obtain ⟨a, b, c, d, cs, g, r⟩ := B.wl
  exact ⟨B.r.congr (fr _ fun z => by have := B.r.hall; rw [z, g] at this; cases this) (fr _ fun z => by have := B.r.there; rw [z, g] at this; cases this) (fr _ B.ow.wl.symm) (fun n a b => fr _ fun z => by have := B.r.th n a b; rw [z, g] at this; cases this) (fun n a b => fr _ fun z => by have := B.r.pt n a b; rw [z, g] at this; cases this),
    B.ow, hw, by rw [fr pa fun z => by have := B.hp; rw [z, g] at this; cases this]; exact B.hp, fun n a b => by rw [fr _ (B.ow.lw n a b)]; exact B.hl n a b⟩
theorem Bd.hold (B : Bd CT CH A m f Pf w pa lp S) (h1 : 1 ≤ n) (h2 : n ≤ m) {h : D} {k : DK} (q : ∀ S', Bd CT CH A m (fset f n (f n + 1)) Pf w pa lp S' → k .non S') : DL.ask (dHold CT) [h, .ref (A.t n)] S k ⟨⟩ :=
  ⟨_, _, rfl, .inr ⟨A.t n, A.dt n, _, _, _, _, _, _, _, rfl, B.r.th n h1 h2, q _ (B.count h1 h2 _)⟩⟩
/-- a number more in one of the law's own lists -/
theorem Bd.app (B : Bd CT CH A m f Pf w pa lp S) (h1 : 1 ≤ n) (h2 : n ≤ m) (o : Nat) : Ri CT CH A m (md f Pf m) (put S (lp n) (.lst ((Pf n ++ [o]).map fun n : Nat => .int (n : Int)))) := by
  have e := B.hl n h1 h2
  exact B.r.congr (put_ne fun z => by have := B.r.hall; rw [z, e] at this; cases this) (put_ne fun z => by have := B.r.there; rw [z, e] at this; cases this) (put_ne (B.ow.ll n h1 h2).symm) (fun i a b => put_ne fun z => by have := B.r.th i a b; rw [z, e] at this; cases this) (fun i a b => put_ne fun z => by have := B.r.pt i a b; rw [z, e] at this; cases this)
theorem Bd.more (B : Bd CT CH A m f Pf w pa lp S) (h1 : 1 ≤ n) (h2 : n ≤ m) (o : Nat) (o1 : 1 ≤ o) (o2 : o ≤ m) :
    Bd CT CH A m (fset f o (f o + 1)) (fset Pf n (Pf n ++ [o])) w pa lp (put (put (put S (lp n) (.lst ((Pf n ++ [o]).map fun n : Nat => .int (n : Int)))) (A.t o) (.ins CT (A.dt o) (thFs (.str (Str.ofString "being")) (.int (o : Int)) (.int (f o + 1)) (.ref (A.pd o)) .non (.bl false) (.bl false))))
      (A.pd n) (.dct (((md f Pf m).parts n).map (fun kj => ((kj.1, .ref (A.t kj.2)) : Key × D)) ++ [((.inl (((Pf n).length + 1 : Nat) : Int) : Key), .ref (A.t o))]))) := by
  have e := B.hl n h1 h2
  have e2 := B.r.th o o1 o2
  have e3 := B.r.pt n h1 h2
  have R := ((B.app h1 h2 o).count o1 o2 (f o + 1)).part h1 h2 o
  have e5 : ((pz (Pf n ++ [o])).map fun kj => ((kj.1, .ref (A.t kj.2)) : Key × D)) = ((md f Pf m).parts n).map (fun kj => ((kj.1, .ref (A.t kj.2)) : Key × D)) ++ [((.inl (((Pf n).length + 1 : Nat) : Int) : Key), .ref (A.t o))] := by rw [pz_snoc, List.map_append]; rfl
  rw [e5] at R
  refine ⟨R, B.ow, ?_, ?_, fun i a b => ?_⟩
  · obtain ⟨a, b, c, d, cs, g, r⟩ := B.wl
    exact ⟨a, b, c, d, cs, by rw [put_ne (fun z => by rw [← z, g] at e3; cases e3), put_ne (fun z => by rw [← z, g] at e2; cases e2), put_ne (B.ow.lw n h1 h2).symm]; exact g, r⟩
  · rw [put_ne (B.ow.ppd n h1 h2), put_ne (fun z => by rw [← z, B.hp] at e2; cases e2), put_ne (fun z => by rw [← z, B.hp] at e; cases e)]
    exact B.hp
  · have g := B.hl i a b
    rw [put_ne (fun z => by rw [← z, g] at e3; cases e3), put_ne (fun z => by rw [← z, g] at e2; cases e2)]
    by_cases z : i = n
    · subst z
      rw [put_same, fset_same]
    · rw [put_ne (fun y => z (B.ow.li i n a b h1 h2 y)), fset_ne z]
      exact g
end
def thL (A : Ad) (k : Nat) : List D := (List.range k).map fun i : Nat => D.ref (A.t (i + 1))
theorem thL_get {A : Ad} {k n : Nat} (h1 : 1 ≤ n) (h2 : n ≤ k) : (thL A k)[n - 1]? = some (.ref (A.t n)) := by
  unfold thL
  rw [List.getElem?_map, List.getElem?_range (by omega)]
  show some (D.ref (A.t (n - 1 + 1))) = _
  rw [show n - 1 + 1 = n by omega]
theorem lc_back {S : Sto} {p : Addr} {acc : List D} (h : S p = some (.lst acc)) : S = put (del S p) p (.lst acc) := by
  funext x
  by_cases z : x = p
  · rw [z, put_same, h]
  · rw [put_ne z, del_ne z]
theorem lpD_succ (lp : Nat → Addr) (m : Nat) : lpD lp (m + 1) = lpD lp m ++ [((.inl ((m + 1 : Nat) : Int) : Key), D.ref (lp (m + 1)))] := by
  unfold lpD
  rw [List.range_succ, List.map_append]
  rfl
theorem lpD_merge (lp : Nat → Addr) : ∀ m, gmerge [] (lpD lp m) = lpD lp m
  | 0 => rfl
  | m + 1 => by
    have ih := lpD_merge lp m
    rw [lpD_succ]
    unfold gmerge at ih ⊢
    rw [List.foldl_append, ih]
    show gput (lpD lp m) _ _ = _
    rw [gput_new]
    refine gval_none' fun kv hk => ?_
    obtain ⟨j, hj, rfl⟩ := List.mem_map.mp hk
    have := List.mem_range.mp hj
    intro z
    have := inl_inj z
    omega
theorem lpD_get {lp : Nat → Addr} {m n : Nat} (h1 : 1 ≤ n) (h2 : n ≤ m) : gval (lpD lp m) (.inl (n : Int)) = some (.ref (lp n)) := by
  have := gval_map (g := fun i : Nat => (.inl ((i + 1 : Nat) : Int) : Key)) (v := fun i : Nat => D.ref (lp (i + 1))) (k := .inl (n : Int)) (List.range m) (n - 1) (List.mem_range.mpr (by omega)) (by show (Sum.inl ((n - 1 + 1 : Nat) : Int) : Key) = _; rw [show n - 1 + 1 = n by omega]) fun b _ hb => by
    have := inl_inj hb
    omega
  rw [show n - 1 + 1 = n by omega] at this
  exact this
def BI (CT CH : Addr) (A : Ad) (m : Nat) (w pa : Addr) (lp : Nat → Addr) (ns : List Int) (i : Nat) (δ : Dst) (S : Sto) : Prop := ∃ z6 z7 z8 z9, δ = [some (.scr (ns.map D.int)), some (.ref w), some (.int (m : Int)), some (.ref A.h), some (.list (thL A m)), some (.ref pa), z6, z7, z8, z9] ∧
  ∃ f Pf, Bd CT CH A m f Pf w pa lp S ∧ f 1 = 1 ∧ (∀ o, 2 ≤ o → o ≤ m → f o = (QM.tot Pf [] o m : Nat)) ∧ (∀ n, 1 ≤ n → n ≤ m → ∀ o ∈ Pf n, n < o ∧ o ≤ m) ∧ (∀ o, 2 ≤ o → o ≤ i + 1 → ∃ n, 1 ≤ n ∧ n < o ∧ o ∈ Pf n) ∧ ∀ n, (Pf n).length ≤ 3 * i
def BJ (CT CH : Addr) (A : Ad) (m : Nat) (w pa : Addr) (lp : Nat → Addr) (ns : List Int) (i : Nat) (l : List Nat) (j : Nat) (δ : Dst) (S : Sto) : Prop := ∃ z8 z9, δ = [some (.scr (ns.map D.int)), some (.ref w), some (.int (m : Int)), some (.ref A.h), some (.list (thL A m)), some (.ref pa), some (.int (i : Int)), some (.list (l.map fun n : Nat => .int (n : Int))), z8, z9] ∧
  ∃ f Pf, Bd CT CH A m f Pf w pa lp S ∧ f 1 = 1 ∧ (∀ o, 2 ≤ o → o ≤ m → f o = (QM.tot Pf [] o m : Nat)) ∧ (∀ n, 1 ≤ n → n ≤ m → ∀ o ∈ Pf n, n < o ∧ o ≤ m) ∧ (∀ o, 2 ≤ o → o ≤ i + 1 → ∃ n, 1 ≤ n ∧ n < o ∧ o ∈ Pf n) ∧ (0 < j → ∃ n, 1 ≤ n ∧ n < i + 2 ∧ i + 2 ∈ Pf n) ∧ ∀ n, (Pf n).length ≤ 3 * i + j
theorem tot_nil (o : Nat) : ∀ m, QM.tot (fun _ => []) [] o m = 0
  | 0 => rfl
  | m + 1 => by rw [QM.tot, tot_nil o m]; simp
section
variable {CT CH : Addr} {A : Ad} {m n : Nat} {M : Md} {S S' : Sto} {f : Nat → Int} {Pf : Nat → List Nat} {w pa : Addr} {lp : Nat → Addr} {k : DK}
theorem Ri.thingsOf (R : Ri CT CH A m M S) (hl : M.there.length ≤ 100000) (q : ∀ ys : List Int, ys.Perm (M.there.map fun n : Nat => (n : Int)) → ys.Pairwise (· ≤ ·) → k (.list (ys.map D.int)) S) : DL.ask (dThings CH) [.ref A.h] S k ⟨⟩ :=
  ⟨A.h, A.dx, A.th, _, M.there.map fun n : Nat => (n : Int), _, _, _, _, _, rfl, R.hall, R.there, by rw [List.map_map, List.map_map]; rfl, by rw [List.length_map]; exact hl, q⟩
theorem Ri.goneOf (R : Ri CT CH A m M S) (q : k (.list (M.left.map fun n : Nat => .int (n : Int))) S) : DL.ask (dGone CH) [.ref A.h] S k ⟨⟩ := ⟨A.h, A.dx, A.lf, _, _, _, _, _, _, rfl, R.hall, R.left, q⟩
theorem Bd.looseOf {g : SpD} (B : Bd CT CH A m f Pf w pa lp S) (h1 : 1 ≤ n) (h2 : n ≤ m) (hf : f n ≠ 1) {h : D} (q : ∀ S', Bd CT CH A m (fset f n (f n - 1)) Pf w pa lp S' → k .non S') : DL.ask (orSp (dLoose CT) g) [h, .ref (A.t n)] S k ⟨⟩ :=
  .inl ⟨_, _, rfl, .inr ⟨A.t n, A.dt n, _, _, _, _, _, _, _, rfl, hf, B.r.th n h1 h2, q _ (B.count h1 h2 _)⟩⟩
theorem WI.start (hb : ∀ n, (Pf n).length < 1000) : WI Pf m (fset f 1 0) 0 { md f Pf m with cnt := fset f 1 0, wt := fset (fun _ => false) 1 true, row := [1] } := by
  refine ⟨Nat.zero_le _, ⟨rfl, rfl, rfl, fun o a b => ?_, fun o a b => ?_, fun o ho => ?_⟩, fun n a b _ => ⟨pz_snd _, pz_nodup _, by show (pz (Pf n)).length < _; rw [pz_len]; exact hb n⟩⟩
  · show fset (fun _ => false) 1 true o = true ↔ o ∈ [1]
    by_cases z : o = 1
    · subst z; rw [fset_same]; simp
    · rw [fset_ne z]; simp [z]
  · show o ∈ (List.range m).map (· + 1) ↔ _
    refine ⟨fun _ => by simp, fun _ => List.mem_map.mpr ⟨o - 1, List.mem_range.mpr (by omega), by omega⟩⟩
  · obtain ⟨j, hj, rfl⟩ := List.mem_map.mp ho
    have := List.mem_range.mp hj
    omega
end
/-! the law's lists stand fast from now on -/
theorem conv_refl (S : Sto) : Conv S S := fun K B H r => ⟨B, Ex.refl B, r⟩
theorem conv_trans {S S1 S2 : Sto} (a : Conv S S1) (b : Conv S1 S2) : Conv S S2 := fun K B H r => by
  obtain ⟨B1, e1, r1⟩ := a K B H r
  obtain ⟨B2, e2, r2⟩ := b K B1 H r1
  exact ⟨B2, e1.trans e2, r2⟩
theorem R.reread {K : PySem.W.Frag} {B H : Hp} {S : Sto} {p : Addr} {u o : O} {ho : HO} (r : R K B S H) (h : S p = some u) (hH : H p = some ho) (ro : RdO K B ho o) : R K B (put S p o) H := by
  refine ⟨r.ex, fun a v e => ?_⟩
  by_cases z : a = p
  · subst z
    rw [put_same] at e
    cases e
    exact ⟨(r.own a u h).1, ho, hH, ro⟩
  · rw [put_ne z] at e
    exact r.own a v e
theorem rdkv_swap {K : PySem.W.Frag} {B : Hp} {p : Addr} {key : Key} {ds : List D} (hd : RdD K B (.ref p) (.list ds)) : ∀ {xs : List (Key × V)} (l1 : List (Key × D)) {l2 : List (Key × D)}, RdKV K B xs (l1 ++ (key, .ref p) :: l2) → RdKV K B xs (l1 ++ (key, .list ds) :: l2)
  | _, [], _, .cons h r => by
    refine .cons ⟨h.1, ?_⟩ r
    rw [rd_ref h.2]
    exact hd
  | _, a :: l1, l2, .cons h r => .cons h (rdkv_swap hd l1 r)
theorem conv_one {S : Sto} {d p : Addr} {key : Key} {ds : List D} {l1 l2 : List (Key × D)} (h : S d = some (.dct (l1 ++ (key, .ref p) :: l2))) (hp : S p = some (.lst ds)) : Conv S (put (del S p) d (.dct (l1 ++ (key, .list ds) :: l2))) := fun K B H r => by
  have ne : d ≠ p := fun z => by rw [z, hp] at h; cases h
  obtain ⟨B', e, r', rd⟩ := r.freeze hp
  have h' : del S p d = some (.dct (l1 ++ (key, .ref p) :: l2)) := by rw [del_ne ne]; exact h
  obtain ⟨xs, hx, rx⟩ := r'.dct h'
  exact ⟨B', e, R.reread r' h' hx (.dct (rdkv_swap rd l1 rx))⟩
theorem lpD_drop {lp : Nat → Addr} {m k : Nat} (h : k < m) : (lpD lp m).drop k = ((.inl ((k + 1 : Nat) : Int) : Key), D.ref (lp (k + 1))) :: (lpD lp m).drop (k + 1) := by
  have hl : k < (lpD lp m).length := by unfold lpD; rw [List.length_map, List.length_range]; exact h
  have hg : (lpD lp m)[k]? = some ((.inl ((k + 1 : Nat) : Int) : Key), D.ref (lp (k + 1))) := by
    unfold lpD
    rw [List.getElem?_map, List.getElem?_range h]
    rfl
  rw [List.drop_eq_getElem_cons hl, (List.getElem?_eq_some_iff.mp hg).2]
theorem ptD_succ (Pf : Nat → List Nat) (m : Nat) : ptD Pf (m + 1) = ptD Pf m ++ [((.inl ((m + 1 : Nat) : Int) : Key), D.list ((Pf (m + 1)).map fun n : Nat => .int (n : Int)))] := by
  unfold ptD
  rw [List.range_succ, List.map_append]
  rfl
theorem conv_lp {S : Sto} {pa : Addr} {lp : Nat → Addr} {m : Nat} {Pf : Nat → List Nat} (h : S pa = some (.dct (lpD lp m))) (hl : ∀ n, 1 ≤ n → n ≤ m → S (lp n) = some (.lst ((Pf n).map fun n : Nat => .int (n : Int)))) (li : ∀ i j, 1 ≤ i → i ≤ m → 1 ≤ j → j ≤ m → lp i = lp j → i = j) :
    ∀ k, k ≤ m → ∃ Sk, Conv S Sk ∧ Sk pa = some (.dct (ptD Pf k ++ (lpD lp m).drop k)) ∧ (∀ n, k < n → n ≤ m → Sk (lp n) = S (lp n)) ∧ ∀ x, x ≠ pa → (∀ n, 1 ≤ n → n ≤ m → x ≠ lp n) → Sk x = S x
  | 0, _ => ⟨S, conv_refl S, h, fun _ _ _ => rfl, fun _ _ _ => rfl⟩
  | k + 1, hk => by
    obtain ⟨Sk, c, e, f, g⟩ := conv_lp h hl li k (by omega)
    rw [lpD_drop (by omega)] at e
    have hp : Sk (lp (k + 1)) = some (.lst ((Pf (k + 1)).map fun n : Nat => .int (n : Int))) := by rw [f (k + 1) (by omega) hk]; exact hl (k + 1) (by omega) hk
    refine ⟨_, conv_trans c (conv_one e hp), ?_, fun n a b => ?_, fun x a b => ?_⟩
    · rw [put_same, ptD_succ, List.append_assoc]
      rfl
    · have n1 : lp n ≠ lp (k + 1) := fun z => by have := li n (k + 1) (by omega) b (by omega) hk z; omega
      have n2 : lp n ≠ pa := fun z => by have := hl n (by omega) b; rw [z, h] at this; cases this
      rw [put_ne n2, del_ne n1]
      exact f n (by omega) b
    · rw [put_ne a, del_ne (b (k + 1) (by omega) hk)]
      exact g x a b
theorem all_le : ∀ (m : Nat) (l : List Nat), (∀ o, 1 ≤ o → o ≤ m → o ∈ l) → m ≤ l.length
  | 0, _, _ => Nat.zero_le _
  | m + 1, l, h => by
    have := all_le m (l.erase (m + 1)) fun o a b => (List.mem_erase_of_ne (by omega)).mpr (h o a (by omega))
    have hm := h (m + 1) (by omega) (Nat.le_refl _)
    rw [List.length_erase_of_mem hm] at this
    have := List.length_pos_of_mem hm
    omega
theorem nb_ints (l : List Nat) : nbL (l.map fun n : Nat => D.int (n : Int)) = true := (nbL_iff _).mpr fun d hd => by
  obtain ⟨n, _, rfl⟩ := List.mem_map.mp hd
  rfl
theorem deep_ints (l : List Nat) : deepL (l.map fun n : Nat => D.int (n : Int)) ≤ 0 := (deepL_le _).mpr fun d hd => by
  obtain ⟨n, _, rfl⟩ := List.mem_map.mp hd
  exact Nat.le_of_eq rfl
section
variable {P : Program} {w : World} {K : PySem.W.Frag} {mg : Str → Option Value} {base : Heap} {CT CH : Addr}
local macro_rules | `(tactic| walk_at "dl") => `(tactic| try simp only [↓x_forS, ↓x_diSL, ↓x_diKeys, ↓x_lock, ↓x_dictP, ↓x_fld, ↓x_fldS, ↓x_fldA, ↓x_meth, ↓x_make, ↓x_dget, ↓x_din, ↓x_dget1, ↓x_dget2, ↓x_dpop, ↓x_dput, ↓x_listD, ↓x_sortDI, ↓x_lenD, ↓x_isiC, x_icS, x_icI, x_icB, x_icN, x_ioS, x_ioI, x_ioB, x_ioN, ↓x_gSub, ↓x_sortDL, ↓x_eqO, ↓x_ninA, x_catN, x_isBB, x_isBN, x_isBI, x_isBS, x_isBR, ↓x_seq, ↓x_nx, ↓x_pass, ↓x_brk, ↓x_cnt, ↓x_drop, ↓x_ret, ↓x_retN, ↓x_ifS, ↓x_set, ↓x_asg, ↓x_gN, ↓x_gT, ↓x_gsC, ↓x_gsN, ↓x_var, x_rdv, ↓x_c, ↓x_op, ↓x_test, x_tst, ↓x_and, ↓x_or, ↓x_not, ↓x_andV, ↓x_orV, ↓x_notV, x_tstV, ↓x_ifE, x_true, x_false, ↓x_nil, ↓x_cons, ↓x_tup, ↓x_lst, ↓x_new, ↓x_newD, ↓x_call, ↓x_cb, x_oI, x_oIc, x_oS, x_addS, x_isN, x_notN, x_eqI, x_eqS, x_eqIS, x_eqSI, x_eqNS, x_neI, x_neS, x_neB, x_eqB, x_few, x_need, ↓x_ix, x_lenS, x_ixL0, x_ixT0, x_ixT1, x_ixT2, x_ixT3, x_ixT4, x_lenL, x_lenT, x_lenC, x_listL, x_listT, x_tupL, x_tupT, x_strI, x_strS, x_int1, x_intB, x_I1, x_I2, x_cat, x_catT, ↓x_split, ↓x_for, ↓x_cut, ↓x_lc, ↓x_whl, ↓x_diL, ↓x_diT, ↓x_diS, x_itL, x_itC, x_itT, x_itS, ↓x_diR1, ↓x_diR2, ↓x_diE, x_enmL, x_enmC, ↓x_gcN, ↓x_gcT, ↓x_yes, ↓x_ml, ↓x_ms, x_strq, x_ss, x_ssc, x_ssi, ↓x_join, ↓x_aug, x_st2I, ↓x_sl, ↓x_noP, ↓x_part, x_intq, x_slL, x_slC, x_slS, ↓x_in, x_inT, x_inL, x_ninT, x_ninL, x_inN, x_inSS, x_inSI, x_inIS, x_inII, ↓x_sg, x_sgS, x_nsgS, ↓x_eqD, ↓x_inDD, x_mulS, ↓x_isi, x_isiS, x_isiI, x_isiB, x_isiN, x_isiL, x_isiT, ↓x_isTT, x_itI, x_itStr, x_itN, x_itB, x_itLst, x_itTup, ↓x_any, ↓x_all, ↓x_sum, ↓x_srtI, ↓x_srtS, ↓x_intS, ↓x_lenRf, ↓x_tupRf, ↓x_frz', x_flS, x_flI, x_flN, x_flB, x_cs_bool, x_isB_NoneType_bool, x_isB_bool_bool, x_isB_int_bool, x_isB_str_bool, x_isB_list_bool, x_isB_tuple_bool, x_isB_dict_bool, x_cs_int, x_isB_NoneType_int, x_isB_bool_int, x_isB_int_int, x_isB_str_int, x_isB_list_int, x_isB_tuple_int, x_isB_dict_int, x_cs_str, x_isB_NoneType_str, x_isB_bool_str, x_isB_int_str, x_isB_str_str, x_isB_list_str, x_isB_tuple_str, x_isB_dict_str, x_cs_list, x_isB_NoneType_list, x_isB_bool_list, x_isB_int_list, x_isB_str_list, x_isB_list_list, x_isB_tuple_list, x_isB_dict_list, x_cs_tuple, x_isB_NoneType_tuple, x_isB_bool_tuple, x_isB_int_tuple, x_isB_str_tuple, x_isB_list_tuple, x_isB_tuple_tuple, x_isB_dict_tuple, x_cs_dict, x_isB_NoneType_dict, x_isB_bool_dict, x_isB_int_dict, x_isB_str_dict, x_isB_list_dict, x_isB_tuple_dict, x_isB_dict_dict, List.all_cons, List.all_nil, Bool.and_self, Bool.or_false, Bool.or_true, Bool.false_or, Bool.true_or, wipeD, setD, DL.isNon, List.set_cons_zero, List.set_cons_succ, List.getElem?_cons_zero, List.getElem?_cons_succ, List.length_cons, List.length_nil, Nat.zero_add, List.cons_append, List.nil_append, decide_true, decide_false, Bool.not_true, Bool.not_false, true_and, and_true, startD, List.map_cons, List.map_nil, Nat.reduceSub, Nat.reduceLeDiff, Nat.zero_le, Int.reduceLT, Int.reduceLE, and_self, Nat.reduceAdd, List.replicate])
def spLaw (K : PySem.W.Frag) : Sp := fun vs H Q _ => ∃ (a : Addr) (ns : List Int), vs = [.ref a] ∧ SqL K H a (ns.map V.int) ∧ ns.length ≤ 63 ∧ ∀ H', Q (.bl true) H'
def dLaw : SpD := fun ds S k _ => ∃ ns : List Int, ds = [.scr (ns.map D.int)] ∧ ns.length ≤ 63 ∧ ∀ S', k (.bl true) S'
theorem law_of (F : FnOk P w K mg base CX0 k f fd ps (lSp K dLaw)) : FnOk P w K mg base CX0 k f fd ps (spLaw K) := F.imp fun vs H Q E ⟨a, ns, hv, hs, hl, h⟩ =>
  ⟨H, [.scr (ns.map D.int)], fun _ => none, fun x _ => x = .bl true, fun _ _ _ => False, by rw [hv]; exact .one (.scr hs (rdl_ints ns)), ⟨Ex.refl H, fun _ _ z => nomatch z⟩, ⟨ns, rfl, hl, fun _ => rfl⟩, fun x S' v B' H' hx _ _ rv => by
    subst hx
    cases rd_bl rv
    exact h H', fun _ _ _ _ _ _ z => z.elim⟩
theorem ok_law {fa : Addr} {fd : FuncData} (F : Fun K "law" "law" s_law fa fd) (T : Txt K mg CT CH) (hc : CT ≠ CH) (G_mk_Hall : MkDef P w K mg base 1 "Hall" CH ["self", "ender"] (lSp K (dHaInit CH))) (G_Hall_make : MDef P w K mg base 3 CH "make" ["self", "form", "own"] (lSp K (dMakeT CT CH)))
    (G_Hall_hold : MDef P w K mg base 1 CH "hold" ["self", "value"] (lSp K (dHold CT))) (G_Hall_put : MDef P w K mg base 2 CH "put" ["self", "thing", "key", "value"] (lSp K (dPut CT CH))) (G_Hall_loose : MDef P w K mg base 7 CH "loose" ["self", "value"] (lSp K (orSp (dLoose CT) (dLooseOut CT CH))))
    (G_Hall_things : MDef P w K mg base 1 CH "things" ["self"] (lSp K (dThings CH))) (G_Hall_gone : MDef P w K mg base 1 CH "gone" ["self"] (lSp K (dGone CH))) (G__law_well : DefD P w K mg base 1 "_law_well" ["_law_script", "_law_first"] dWell) (G__law_dig : DefD P w K mg base 2 "_law_dig" ["_law_well_here", "_law_most"] dDig)
    (G__law_holders : DefD P w K mg base 3 "_law_holders" ["_law_well_here", "_law_many"] dHolders) (G__law_order : DefD P w K mg base 1 "_law_order" ["_law_parts", "_law_many"] (convSp dOrder)) :
    FnOk P w K mg base CX0 8 fa fd ["_law_script"] (lSp K dLaw) := by
  refine dok F sc_law (fun ds S q qx ⟨ns, e, _⟩ => by rw [e]; rfl) ⟨_, fun cdv A outer s H E hr => dss_cons (ds_set (i := 1) sc_law.nd rfl (Or.inl rfl) (de_call G__law_well (hr.mono (by decide)) (by rfl) (da_cons (de_var 0) (da_cons (de_int) da_nil))))
      (dss_cons (ds_set (i := 2) sc_law.nd rfl (Or.inl rfl) (de_op op_add si_add (de_int) (de_call G__law_dig (hr.mono (by decide)) (by rfl) (da_cons (de_var 1) (da_cons (de_int) da_nil)))))
      (dss_cons (ds_set (i := 3) sc_law.nd rfl (Or.inr rfl) (de_make G_mk_Hall (hr.mono (by decide)) (by rfl) (da_cons (de_non) da_nil)))
      (dss_cons (ds_setLc (i := 4) (own := [("_law_k", 6)]) (gc_name (j := 6) (by decide)) rfl sc_law.nd rfl rfl (sw_true rfl rfl rfl (by decide +kernel)) (di_range1 (by rfl) T.range (da_cons (de_var 2) da_nil)) (blkOk_by (N := N_law) (sc := defScope s_law) (by decide +kernel)) (fun _ _ _ _ _ => pg_name (i := 6) sc_law.nd rfl (Or.inl rfl)) (fun _ _ _ _ _ => dts_nil) (fun _ _ _ _ _ => de_meth T.Hall_ G_Hall_make (hr.mono (by decide)) (de_var 3) (da_cons (de_str) (da_cons (de_non) da_nil))))
      (dss_cons (ds_set (i := 5) sc_law.nd rfl (Or.inl rfl) (de_callTy (clDictP (K := K)) si_dictP (by rfl) T.dict (by decide +kernel) (da_cons (de_lc (own := [("_law_n", 8)]) (gc_name (j := 8) (by decide)) rfl sc_law.nd (di_range2 (by rfl) T.range (da_cons (de_int) (da_cons (de_op op_add si_add (de_var 2) (de_int)) da_nil))) (blkOk_by (N := N_law) (sc := defScope s_law) (by decide +kernel)) (fun _ _ _ _ _ => pg_name (i := 8) sc_law.nd rfl (Or.inl rfl)) (fun _ _ _ _ _ => dts_nil) (fun _ _ _ _ _ => de_tup (da_cons (de_var 8) (da_cons (de_new (da_nil)) da_nil)))) da_nil)))
      (dss_cons (ds_expr (de_meth T.Hall_ G_Hall_hold (hr.mono (by decide)) (de_var 3) (da_cons (de_ix ix_seq (si_ix rfl) (de_var 4) (de_int) (fun _ _ => rfl)) da_nil)))
      (dss_cons (ds_for PassesOwn.never rfl (di_enum (K := K) (by rfl) T.enumerate (da_cons (de_call G__law_holders (hr.mono (by decide)) (by rfl) (da_cons (de_var 1) (da_cons (de_var 2) da_nil))) da_nil)) (dg_tup (n := 2) rfl (dgs_cons (dg_name (i := 6) sc_law.nd rfl (Or.inl rfl)) (dgs_cons (dg_name (i := 7) sc_law.nd rfl (Or.inl rfl)) dgs_nil)))
        (dss_one (ds_for PassesOwn.never rfl (di_list (K := K) (de_var 7)) (dg_name (i := 8) sc_law.nd rfl (Or.inl rfl))
          (dss_cons (ds_expr (de_ml PySem.F.slot_list_append PySem.F.type_list_append mt_append si_app (de_dget (hu_of hr) (de_var 5) (de_var 8) (fun _ _ => rfl)) (da_cons (de_op op_add si_add (de_var 6) (de_int)) da_nil)))
          (dss_one (ds_expr (de_meth T.Hall_ G_Hall_put (hr.mono (by decide)) (de_var 3) (da_cons (de_ix ix_seq (si_ix rfl) (de_var 4) (de_op op_sub si_sub (de_var 8) (de_int)) (fun _ _ => rfl)) (da_cons (de_callB call_len (si_len rfl) (by rfl) T.len (by decide +kernel) (da_cons (de_dget (hu_of hr) (de_var 5) (de_var 8) (fun _ _ => rfl)) da_nil)) (da_cons (de_ix ix_seq (si_ix rfl) (de_var 4) (de_op op_add si_add (de_var 6) (de_int)) (fun _ _ => rfl)) da_nil))))))))))
      (dss_cons (ds_if (PW.pt (dw_or (dt_cmp (op_neM (K := K) hr.units) (si_eqM true) (de_meth0 T.Hall_ G_Hall_gone (hr.mono (by decide)) (de_var 3)) (de_lst (da_nil)) (nomark _)) (dw_or1 (dt_cmp op_ne si_ne (de_callB call_len (si_len rfl) (by rfl) T.len (by decide +kernel) (da_cons (de_meth0 T.Hall_ G_Hall_things (hr.mono (by decide)) (de_var 3)) da_nil)) (de_var 2) (nomark _)))))
        (dss_one (ds_ret (de_bl)))
        (dss_nil))
      (dss_cons (ds_expr (de_meth T.Hall_ G_Hall_hold (hr.mono (by decide)) (de_var 3) (da_cons (de_ix ix_seq (si_ix rfl) (de_var 4) (de_int) (fun _ _ => rfl)) da_nil)))
      (dss_cons (ds_expr (de_meth T.Hall_ G_Hall_loose (hr.mono (by decide)) (de_var 3) (da_cons (de_ix ix_seq (si_ix rfl) (de_var 4) (de_int) (fun _ _ => rfl)) da_nil)))
      (dss_cons (ds_if (dt_cmp (op_neM (K := K) hr.units) (si_eqM true) (de_meth0 T.Hall_ G_Hall_gone (hr.mono (by decide)) (de_var 3)) (de_lst (da_nil)) (nomark _))
        (dss_one (ds_ret (de_bl)))
        (dss_nil))
      (dss_cons (ds_expr (de_meth T.Hall_ G_Hall_loose (hr.mono (by decide)) (de_var 3) (da_cons (de_ix ix_seq (si_ix rfl) (de_var 4) (de_int) (fun _ _ => rfl)) da_nil)))
      (dss_cons (ds_set (i := 9) sc_law.nd rfl (Or.inl rfl) (de_call G__law_order (hr.mono (by decide)) (by rfl) (da_cons (de_var 5) (da_cons (de_var 2) da_nil))))
      (dss_cons (ds_if (PW.pt (dw_or (dt_cmp op_ne si_ne (de_callB call_len (si_len rfl) (by rfl) T.len (by decide +kernel) (da_cons (de_var 9) da_nil)) (de_var 2) (nomark _)) (dw_or (dt_cmp (op_neM (K := K) hr.units) (si_eqM true) (de_meth0 T.Hall_ G_Hall_gone (hr.mono (by decide)) (de_var 3)) (de_var 9) (nomark _)) (dw_or1 (dt_cmp (op_neM (K := K) hr.units) (si_eqM true) (de_meth0 T.Hall_ G_Hall_things (hr.mono (by decide)) (de_var 3)) (de_lst (da_nil)) (nomark _))))))
        (dss_one (ds_ret (de_bl)))
        (dss_nil))
      (dss_one (ds_ret (de_and (de_cmp op_eq si_eq (de_fld T.Thing_ (by decide +kernel) (de_meth T.Hall_ G_Hall_make (hr.mono (by decide)) (de_var 3) (da_cons (de_str) (da_cons (de_non) da_nil)))) (de_op op_add si_add (de_var 2) (de_int)) (nomark _)) (de_one (de_cmp (op_eqM (K := K) hr.units) (si_eqM false) (de_meth0 T.Hall_ G_Hall_things (hr.mono (by decide)) (de_var 3)) (de_lst (da_cons (de_op op_add si_add (de_var 2) (de_int)) da_nil)) (nomark _))))))))))))))))))), fun ds S q qx ⟨ns, hd, hl, h⟩ => ?_⟩
  subst hd
  walk_at "dl"
  refine ⟨ns, 0, rfl, hl, fun w S1 _ hw1 f1 => ?_⟩
  walk_at "dl"
  refine ⟨w, 300, rfl, hw1, by decide, by decide, fun many0 S2 hmany hw2 f2 => ?_⟩
  walk_at "dl"
  obtain ⟨m, em⟩ : ∃ m : Nat, (30 + (many0 : Int)) = (m : Int) := ⟨30 + many0, by omega⟩
  rw [em]
  have m1 : 30 ≤ m := by omega
  have m2 : m < 330 := by omega
  refine freshOf fun hl n1 dx => ?_
  refine ⟨hl, dx, .non, rfl, put_same, fun th lf S3 n2 h1 h2 h3 fr => ⟨rfl, ?_⟩⟩
  walk_at "dl"
  refine rngOf (by omega) (by omega) ?_
  have hw3 : Well S3 w := by
    obtain ⟨a, b, c, d, cs, e, r⟩ := hw2
    have nwh : w ≠ hl := fun z => by rw [z, n1] at e; cases e
    exact ⟨a, b, c, d, cs, by rw [fr w (by rw [put_ne nwh, e]; exact nofun) nwh, put_ne nwh]; exact e, r⟩
  have nwl : w ≠ lf := fun z => by obtain ⟨_, _, _, _, _, e, _⟩ := hw3; rw [z, h3] at e; cases e
  rw [Int.toNat_natCast]
  refine lcOfS (fun k acc S' => ∃ A : Ad, A.h = hl ∧ A.dx = dx ∧ A.th = th ∧ A.lf = lf ∧ acc = thL A k ∧ Ri CT CH A k (md (fun _ => 0) (fun _ => []) k) S' ∧ Well S' w) (by rw [rngD_len]; omega) ⟨⟨hl, dx, th, lf, hl, fun _ => hl, fun _ => hl, fun _ => hl⟩, rfl, rfl, rfl, rfl, rfl, ⟨h1, h2, h3, fun n a b => by omega, fun n a b => by omega, fun i j a b => by omega, fun i j a b => by omega, fun n a b => by omega, hc⟩, hw3⟩ ?_ ?_
  · rintro p hp k d acc S4 hk hp4 ⟨A, rfl, rfl, rfl, rfl, rfl, R, hw4⟩
    have hkm := (List.getElem?_eq_some_iff.mp hk).1
    rw [rngD_len] at hkm
    have nhp : A.h ≠ p := sto_ne R.hall hp4
    have ntp : A.th ≠ p := sto_ne R.there hp4
    walk_at "dl"
    refine needOf (methOf (x := .non) (by rw [put_ne nhp]; exact R.hall) rfl) ?_
    walk_at "dl"
    refine ⟨A.h, A.dx, A.th, _, _, _, _, _, _, _, _, rfl, by rw [put_ne nhp]; exact R.hall, by rw [put_ne ntp]; exact R.there, ?_, fun t pd dt S5 t1 t2 t3 e1 e2 e3 e4 f5 => ?_⟩
    · rw [List.length_map]; show ((List.range k).map (· + 1)).length < _; rw [List.length_map, List.length_range]; omega
    have ntt : t ≠ p := fun z => by rw [z, put_same] at t1; cases t1
    have ntd : pd ≠ p := fun z => by rw [z, put_same] at t2; cases t2
    rw [put_ne ntt] at t1
    rw [put_ne ntd] at t2
    have ep : S5 p = some (.lst (thL A k)) := by rw [f5 p ntt.symm ntd.symm nhp.symm ntp.symm, put_same]
    have R' := R.make (S' := del S5 p) rfl rfl (fun _ _ _ o ho => by cases ho) t1 t2 t3 (by rw [del_ne ntt]; exact e1) (by rw [del_ne ntd]; exact e2) (by rw [del_ne nhp]; exact e3) (by rw [del_ne ntp]; exact e4) fun b b1 b2 b3 b4 => by
      by_cases z : b = p
      · rw [z, del_same, hp4]
      · rw [del_ne z, f5 b b1 b2 b3 b4, put_ne z]
    refine ⟨del S5 p, del_same, lc_back ep, { A with t := fset A.t (k + 1) t, pd := fset A.pd (k + 1) pd, dt := fset A.dt (k + 1) dt }, rfl, rfl, rfl, rfl, ?_, R', ?_⟩
    · unfold thL
      rw [List.range_succ, List.map_append, List.map_singleton]
      show _ = (List.range k).map (fun i => D.ref (fset A.t (k + 1) t (i + 1))) ++ [D.ref (fset A.t (k + 1) t (k + 1))]
      rw [fset_same]
      congr 1
      refine List.map_congr_left fun i hi => ?_
      have := List.mem_range.mp hi
      rw [fset_ne (by omega)]
    · obtain ⟨a, b, c, d, cs, e, r⟩ := hw4
      have nwp : w ≠ p := sto_ne e hp4
      refine ⟨a, b, c, d, cs, ?_, r⟩
      rw [del_ne nwp, f5 w (sto_ne e t1) (sto_ne e t2) (fun z => by rw [z, R.hall] at e; cases e) (fun z => by rw [z, R.there] at e; cases e), put_ne nwp]
      exact e
  rintro _ S4 ⟨A, rfl, rfl, rfl, rfl, rfl, R, hw4⟩
  rw [rngD_len] at R ⊢
  clear h1 h2 h3 fr n2 n1 hw3 hw2 hw1 f1 f2
  walk_at "dl"
  refine rngOf2 (by omega) (by omega) (by omega) (by omega) ?_
  rw [show ((m : Int) + 1 - 1).toNat = m by omega]
  refine lcOfS (fun k acc S' => ∃ lp : Nat → Addr, acc = (lpD lp k).map (fun kv => D.tup [dK kv.1, kv.2]) ∧ (∀ n, 1 ≤ n → n ≤ k → S' (lp n) = some (.lst []) ∧ S4 (lp n) = none) ∧ (∀ i j, 1 ≤ i → i ≤ k → 1 ≤ j → j ≤ k → lp i = lp j → i = j) ∧ ∀ x, S4 x ≠ none → S' x = S4 x) (by rw [rngD_len]; omega) ⟨fun _ => w, rfl, fun n a b => by omega, fun i j a b => by omega, fun _ _ => rfl⟩ ?_ ?_
  · rintro p hp k d acc S5 hk hp5 ⟨lp, rfl, h1, h2, h3⟩
    obtain ⟨rfl, hkm⟩ := rngD_get hk
    walk_at "dl"
    refine freshOf fun l hn => ?_
    have nlp : l ≠ p := fun z => by rw [z, put_same] at hn; cases hn
    rw [put_ne nlp] at hn
    walk_at "dl"
    have hn4 : S4 l = none := by
      cases e : S4 l with
      | none => rfl
      | some o => rw [← h3 l (by rw [e]; exact nofun), hn] at e; cases e
    refine ⟨put S5 l (.lst []), by rw [put_ne nlp.symm]; exact hp5, put_comm nlp.symm, fset lp (k + 1) l, ?_, fun n a b => ?_, fun i j a b c d => ?_, fun x hx => ?_⟩
    · rw [lpD_succ, List.map_append, fset_same]
      congr 1
      · congr 1
        unfold lpD
        refine List.map_congr_left fun i hi => ?_
        have := List.mem_range.mp hi
        rw [fset_ne (by omega)]
      · show [D.tup [.int (1 + (k : Int)), .ref l]] = [D.tup [.int ((k + 1 : Nat) : Int), .ref l]]
        rw [show (1 + (k : Int)) = ((k + 1 : Nat) : Int) by omega]
    · by_cases z : n = k + 1
      · rw [z, fset_same, put_same]
        exact ⟨rfl, hn4⟩
      · rw [fset_ne z]
        obtain ⟨g1, g2⟩ := h1 n a (by omega)
        exact ⟨by rw [put_ne (sto_ne g1 hn)]; exact g1, g2⟩
    · by_cases z : i = k + 1
      · by_cases y : j = k + 1
        · intro _; omega
        · rw [z, fset_same, fset_ne y]
          intro x
          have := (h1 j c (by omega)).1
          rw [← x, hn] at this
          cases this
      · by_cases y : j = k + 1
        · rw [y, fset_same, fset_ne z]
          intro x
          have := (h1 i a (by omega)).1
          rw [x, hn] at this
          cases this
        · rw [fset_ne y, fset_ne z]
          exact h2 i j a (by omega) c (by omega)
    · rw [put_ne (fun z => hx (by rw [z]; exact hn4))]
      exact h3 x hx
  rintro _ S5 ⟨lp, rfl, h1, h2, h3⟩
  rw [rngD_len] at h1 h2 ⊢
  walk_at "dl"
  refine ⟨lpD lp m, rfl, fun pa npa => ?_⟩
  rw [lpD_merge]
  have npa4 : S4 pa = none := by
    cases e : S4 pa with
    | none => rfl
    | some o => rw [← h3 pa (by rw [e]; exact nofun), npa] at e; cases e
  have keep : ∀ x o, S4 x = some o → put S5 pa (.dct (lpD lp m)) x = some o := fun x o e => by rw [put_ne (sto_ne e npa4), h3 x (by rw [e]; exact nofun)]; exact e
  have B0 : Bd CT CH A m (fun _ => 0) (fun _ => []) w pa lp (put S5 pa (.dct (lpD lp m))) := by
    refine ⟨⟨keep _ _ R.hall, keep _ _ R.there, keep _ _ R.left, fun n a b => keep _ _ (R.th n a b), fun n a b => keep _ _ (R.pt n a b), R.ti, R.pi, R.tp, R.cc⟩, ⟨nwl, (sto_ne R.there npa4).symm, fun n a b => (sto_ne (R.pt n a b) npa4).symm, fun n a b z => ?_, fun n a b => (sto_ne R.left (h1 n a b).2).symm, h2⟩, ?_, put_same, fun n a b => ?_⟩
    · obtain ⟨_, _, _, _, _, e, _⟩ := hw4
      rw [← z, (h1 n a b).2] at e
      cases e
    · obtain ⟨a, b, c, d, cs, e, r⟩ := hw4
      exact ⟨a, b, c, d, cs, keep _ _ e, r⟩
    · rw [put_ne (sto_ne (h1 n a b).1 npa)]
      exact (h1 n a b).1
  generalize put S5 pa (.dct (lpD lp m)) = S6 at B0
  clear h1 h2 h3 npa npa4 keep R hw4 nwl
  walk_at "dl"
  refine needOf (methOf (x := .non) B0.r.hall rfl) ?_
  walk_at "dl"
  refine ixAt (j := 0) (.inl rfl) (thL_get (n := 1) (Nat.le_refl _) (by omega)) ?_
  walk_at "dl"
  refine B0.hold (Nat.le_refl _) (by omega) fun S7 B1 => ?_
  walk_at "dl"
  refine ⟨w, m, rfl, B1.wl, by omega, by omega, fun ls S8 hll hok hw8 f8 => ?_⟩
  have B2 := B1.other hw8 f8
  clear B0 B1 hw8 f8
  walk_at "dl"
  refine forOf (BI CT CH A m w pa lp ns) ⟨_, _, _, _, rfl, _, _, B2, rfl, fun o a b => ?_, fun n a b o ho => (by cases ho), fun o a b => (by omega), fun n => (by simp)⟩ ?_ ?_
  · rw [fset_ne (by omega), tot_nil]
    rfl
  · rintro i d δ S9 hi ⟨z6, z7, z8, z9, rfl, f, Pf, B, g1, g2, g3, g4, g5⟩
    have hi2 := (List.getElem?_eq_some_iff.mp hi).1
    rw [enumD_len] at hi2
    unfold holD at hi hi2
    rw [List.length_map] at hi2
    have hli := List.getElem?_eq_getElem hi2
    generalize ls[i] = l at hli
    rw [enumD_get (x := .list (l.map fun n : Nat => .int (n : Int))) (by rw [List.getElem?_map, hli]; rfl)] at hi
    cases hi
    obtain ⟨l1, l2, l3⟩ := hok i l hli
    walk_at "dl"
    refine forOf (BJ CT CH A m w pa lp ns i l) ⟨_, _, rfl, f, Pf, B, g1, g2, g3, g4, fun z => absurd rfl (Nat.ne_of_gt z), g5⟩ ?_ ?_
    · rintro j d δ S9 hj ⟨z8, z9, rfl, f, Pf, B, g1, g2, g3, g4, g4', g5⟩
      obtain ⟨n, hn, rfl⟩ := Option.map_eq_some_iff.mp ((List.getElem?_map (f := fun n : Nat => D.int (n : Int))) ▸ hj)
      have hjl := (List.getElem?_eq_some_iff.mp hn).1
      have nb := l3 n (List.mem_of_getElem? hn)
      have n2 : n ≤ m := by omega
      have hlp := B.hl n nb.1 n2
      have hlen := g5 n
      walk_at "dl"
      refine dgetOf B.hp rfl (lpD_get nb.1 n2) ?_
      walk_at "dl"
      refine needOf (isLOf hlp) ?_
      walk_at "dl"
      refine appOf hlp (by rw [List.length_map]; omega) ?_
      have eo : ((i : Int) + 2) = ((i + 2 : Nat) : Int) := by omega
      rw [eo, show (((Pf n).map fun n : Nat => D.int (n : Int)) ++ [D.int ((i + 2 : Nat) : Int)]) = (Pf n ++ [i + 2]).map fun n : Nat => D.int (n : Int) by rw [List.map_append]; rfl]
      have R1 := B.app nb.1 n2 (i + 2)
      have hp1 : put S9 (lp n) (.lst ((Pf n ++ [i + 2]).map fun n : Nat => .int (n : Int))) pa = some (.dct (lpD lp m)) := by rw [put_ne (fun z => by rw [← z, B.hp] at hlp; cases hlp)]; exact B.hp
      walk_at "dl"
      refine needOf (methOf (x := .non) R1.hall rfl) ?_
      walk_at "dl"
      rw [show ((n : Int) - 1) = ((n - 1 : Nat) : Int) by omega]
      refine ixAt (.inl rfl) (thL_get nb.1 n2) ?_
      walk_at "dl"
      refine dgetOf hp1 rfl (lpD_get nb.1 n2) ?_
      walk_at "dl"
      refine lenRf put_same ?_
      walk_at "dl"
      rw [show ((i : Int) + 1) = ((i + 2 - 1 : Nat) : Int) by omega]
      refine ixAt (.inl rfl) (thL_get (n := i + 2) (by omega) (by omega)) ?_
      walk_at "dl"
      rw [List.length_map, List.length_append, List.length_singleton]
      have no : A.t (i + 2) ≠ A.t n := fun z => by have := B.r.ti (i + 2) n (by omega) (by omega) nb.1 n2 z; omega
      have fpos : 0 ≤ f (i + 2) := by rw [g2 (i + 2) (by omega) (by omega)]; omega
      refine ⟨A.h, A.t n, A.dt n, A.pd n, _, _, _, _, _, _, _, _, _, _, _, rfl, hc, ⟨_, _, _, _, _, _, _, R1.hall⟩, R1.th n nb.1 n2, R1.pt n nb.1 n2, rfl, pz_new _ _, ?_, .th no (R1.th (i + 2) (by omega) (by omega)) ?_, ?_⟩
      · rw [List.length_map]; show (pz (Pf n)).length < _; rw [pz_len]; omega
      · show f (i + 2) + 1 ≠ 0; omega
      have B' := B.more nb.1 n2 (i + 2) (by omega) (by omega)
      refine ⟨_, _, rfl, _, _, B', by rw [fset_ne (by omega)]; exact g1, fun o a b => ?_, fun n' a b o ho => ?_, fun o a b => ?_, fun _ => ⟨n, nb.1, by omega, by rw [fset_same]; simp⟩, fun n' => ?_⟩
      · rw [tot_more nb.1]
        by_cases z : o = i + 2
        · subst z
          rw [fset_same, g2 (i + 2) a b, if_pos ⟨n2, rfl⟩]
          omega
        · rw [fset_ne z, g2 o a b, if_neg (fun y => z y.2)]
          rfl
      · by_cases z : n' = n
        · subst z
          rw [fset_same] at ho
          rcases List.mem_append.mp ho with ho | ho
          · exact g3 n' a b o ho
          · rw [List.mem_singleton.mp ho]; omega
        · rw [fset_ne z] at ho
          exact g3 n' a b o ho
      · obtain ⟨n', x1, x2, x3⟩ := g4 o a b
        refine ⟨n', x1, x2, ?_⟩
        by_cases z : n' = n
        · subst z; rw [fset_same]; exact List.mem_append_left _ x3
        · rw [fset_ne z]; exact x3
      · have := g5 n'
        by_cases z : n' = n
        · subst z; rw [fset_same, List.length_append, List.length_singleton]; omega
        · rw [fset_ne z]; omega
    · rintro δ S9 ⟨z8, z9, rfl, f, Pf, B, g1, g2, g3, g4, g4', g5⟩
      rw [List.length_map] at g4' g5
      refine ⟨_, _, _, _, rfl, f, Pf, B, g1, g2, g3, fun o a b => ?_, fun n => by have := g5 n; omega⟩
      by_cases z : o ≤ i + 1
      · exact g4 o a z
      · rw [show o = i + 2 by omega]
        exact g4' (List.length_pos_iff.mpr l1)
  · rintro δ S9 ⟨z6, z7, z8, z9, rfl, f, Pf, B, g1, g2, g3, g4, g5⟩
    rw [enumD_len, show (holD ls).length = ls.length by simp [holD]] at g4 g5
    walk_at "dl"
    refine needOf (methOf (x := .non) B.r.hall rfl) ?_
    walk_at "dl"
    refine B.r.goneOf ?_
    walk_at "dl"
    refine neSame (p := .list []) rfl rfl (by decide +kernel) (by decide +kernel) ?_
    walk_at "dl"
    refine needOf (methOf (x := .non) B.r.hall rfl) ?_
    walk_at "dl"
    refine B.r.thingsOf (by show ((List.range m).map (· + 1)).length ≤ _; rw [List.length_map, List.length_range]; omega) fun ys pm pw => ?_
    have ylen : ys.length = m := by
      rw [pm.length_eq, List.length_map]
      show ((List.range m).map (· + 1)).length = m
      rw [List.length_map, List.length_range]
    walk_at "dl"
    rw [List.length_map, ylen, decide_eq_true rfl]
    walk_at "dl"
    refine needOf (methOf (x := .non) B.r.hall rfl) ?_
    walk_at "dl"
    refine ixAt (j := 0) (.inl rfl) (thL_get (n := 1) (Nat.le_refl _) (by omega)) ?_
    walk_at "dl"
    refine B.hold (Nat.le_refl _) (by omega) fun S10 B1 => ?_
    walk_at "dl"
    refine needOf (methOf (x := .non) B1.r.hall rfl) ?_
    walk_at "dl"
    refine ixAt (j := 0) (.inl rfl) (thL_get (n := 1) (Nat.le_refl _) (by omega)) ?_
    walk_at "dl"
    refine B1.looseOf (Nat.le_refl _) (by omega) (by rw [fset_same, g1]; decide) fun S11 B2 => ?_
    have ef : fset (fset f 1 (f 1 + 1)) 1 (fset f 1 (f 1 + 1) 1 - 1) = f := by rw [fset_fset, fset_same, show f 1 + 1 - 1 = f 1 by omega, fset_id]
    rw [ef] at B2
    clear B B1
    walk_at "dl"
    refine needOf (methOf (x := .non) B2.r.hall rfl) ?_
    walk_at "dl"
    refine B2.r.goneOf ?_
    walk_at "dl"
    refine neSame (p := .list []) rfl rfl (by decide +kernel) (by decide +kernel) ?_
    walk_at "dl"
    refine needOf (methOf (x := .non) B2.r.hall rfl) ?_
    walk_at "dl"
    refine ixAt (j := 0) (.inl rfl) (thL_get (n := 1) (Nat.le_refl _) (by omega)) ?_
    walk_at "dl"
    have W : Wh Pf m (fset f 1 0) := ⟨⟨g3, fun o a b => g4 o a (by omega)⟩, by omega, by omega, fun o a b => by rw [fset_ne (by omega)]; exact g2 o a b, fset_same⟩
    refine .inr ⟨A, m, _, Pf, fset f 1 0, rfl, B2.r, W, rfl, g1, List.mem_map.mpr ⟨0, List.mem_range.mpr (by omega), rfl⟩, WI.start fun n => by have := g5 n; omega, fun S12 N M' r hN wi R1 hr fr => ?_⟩
    have keep : ∀ x o, S11 x = some o → x ≠ A.h → x ≠ A.th → x ≠ A.lf → (∀ n, 1 ≤ n → n ≤ m → x ≠ A.t n) → (∀ n, 1 ≤ n → n ≤ m → x ≠ A.pd n) → S12 x = some o := fun x o e a1 a2 a3 a4 a5 => by rw [fr x a1 a2 a3 (sto_ne e hr) a4 a5]; exact e
    have hp12 : S12 pa = some (.dct (lpD lp m)) := keep _ _ B2.hp (fun z => by have := B2.r.hall; rw [← z, B2.hp] at this; cases this) B2.ow.pth (fun z => by have := B2.r.left; rw [← z, B2.hp] at this; cases this) (fun n a b z => by have := B2.r.th n a b; rw [← z, B2.hp] at this; cases this) B2.ow.ppd
    have hl12 : ∀ n, 1 ≤ n → n ≤ m → S12 (lp n) = some (.lst ((Pf n).map fun n : Nat => .int (n : Int))) := fun n a b => by
      have e := B2.hl n a b
      exact keep _ _ e (fun z => by have := B2.r.hall; rw [← z, e] at this; cases this) (fun z => by have := B2.r.there; rw [← z, e] at this; cases this) (B2.ow.ll n a b) (fun i c d z => by have := B2.r.th i c d; rw [← z, e] at this; cases this) (fun i c d z => by have := B2.r.pt i c d; rw [← z, e] at this; cases this)
    obtain ⟨S13, cv, e13, _, f13⟩ := conv_lp hp12 hl12 B2.ow.li m (Nat.le_refl _)
    rw [show (lpD lp m).drop m = [] from List.drop_eq_nil_of_le (by unfold lpD; rw [List.length_map, List.length_range]; exact Nat.le_refl _), List.append_nil] at e13
    have ow := B2.ow
    have R2 : Ri CT CH { A with r := r } m M' S13 := R1.congr (f13 _ (fun z => by have := R1.hall; rw [show ({ A with r := r } : Ad).h = pa from z, hp12] at this; cases this) fun n a b z => by have := R1.hall; rw [show ({ A with r := r } : Ad).h = lp n from z, hl12 n a b] at this; cases this)
      (f13 _ ow.pth.symm fun n a b z => by have := R1.there; rw [show ({ A with r := r } : Ad).th = lp n from z, hl12 n a b] at this; cases this)
      (f13 _ (fun z => by have := R1.left; rw [show ({ A with r := r } : Ad).lf = pa from z, hp12] at this; cases this) fun n a b => (ow.ll n a b).symm)
      (fun i c d => f13 _ (fun z => by have := R1.th i c d; rw [show ({ A with r := r } : Ad).t i = pa from z, hp12] at this; cases this) fun n a b z => by have := R1.th i c d; rw [show ({ A with r := r } : Ad).t i = lp n from z, hl12 n a b] at this; cases this)
      (fun i c d => f13 _ (ow.ppd i c d).symm fun n a b z => by have := R1.pt i c d; rw [show ({ A with r := r } : Ad).pd i = lp n from z, hl12 n a b] at this; cases this)
    walk_at "dl"
    refine ⟨S13, cv, pa, m, Pf, fset f 1 0, rfl, e13, W, fun N' S14 hN' f14 => ?_⟩
    cases QM.st_one hN hN'
    have nn : ∀ {x o}, S13 x = some o → S14 x = S13 x := fun {x o} e => f14 x (by rw [e]; exact nofun)
    have R3 : Ri CT CH { A with r := r } m M' S14 := R2.congr (nn R2.hall) (nn R2.there) (nn R2.left) (fun i a b => nn (R2.th i a b)) fun i a b => nn (R2.pt i a b)
    have Rw := QM.st_row W.gr W.one W.hh N wi.le
    have etk : (QM.st Pf (fset f 1 0) N).1.take N = (QM.st Pf (fset f 1 0) N).1 := List.take_of_length_le (by omega)
    have jj := wi.j
    rw [etk] at Rw jj
    have hall := Rw.all W.gr
    have hlen : (QM.st Pf (fset f 1 0) N).1.length = m := Nat.le_antisymm Rw.le (all_le m _ hall)
    have hleft := jj.left
    have hthere : M'.there = [] := by
      cases e : M'.there with
      | nil => rfl
      | cons x rest =>
        have hx : x ∈ M'.there := by rw [e]; exact List.mem_cons_self ..
        have hb := jj.tin x hx
        exact absurd (hall x hb.1 hb.2) ((jj.there x hb.1 hb.2).mp hx)
    generalize (QM.st Pf (fset f 1 0) N).1 = ord at hlen hleft
    clear R1 R2 keep hp12 hl12 f13 f14 nn cv e13 fr
    walk_at "dl"
    rw [List.length_map, hlen, decide_eq_true rfl]
    walk_at "dl"
    refine needOf (methOf (x := .non) R3.hall rfl) ?_
    walk_at "dl"
    refine R3.goneOf ?_
    walk_at "dl"
    rw [hleft]
    refine neSame (p := .list (ord.map fun n : Nat => .int (n : Int))) rfl rfl (by simp only [D.nb, D.nbG]; exact nb_ints _) (by rw [D.deep]; have := deep_ints ord; omega) ?_
    walk_at "dl"
    refine needOf (methOf (x := .non) R3.hall rfl) ?_
    walk_at "dl"
    refine R3.thingsOf (by rw [hthere]; decide) fun ys pm pw => ?_
    rw [hthere] at pm
    rw [List.Perm.eq_nil pm]
    walk_at "dl"
    refine neSame (p := .list []) rfl rfl (by decide +kernel) (by decide +kernel) ?_
    walk_at "dl"
    refine needOf (methOf (x := .non) R3.hall rfl) ?_
    walk_at "dl"
    refine ⟨_, _, _, _, _, _, _, _, _, _, _, rfl, R3.hall, R3.there, by rw [hthere]; exact Nat.le_of_ble_eq_true rfl, fun t pd dt S15 t1 t2 t3 e1 e2 e3 e4 f5 => ?_⟩
    walk_at "dl"
    refine fldOf e1 th_number ?_
    walk_at "dl"
    refine needOf (methOf (x := .non) e3 rfl) ?_
    walk_at "dl"
    refine ⟨_, _, _, _, [(m : Int) + 1], _, _, _, _, _, rfl, e3, e4, by rw [hthere]; rfl, Nat.le_of_ble_eq_true rfl, fun ys pm pw => ?_⟩
    rw [List.perm_singleton.mp pm]
    walk_at "dl"
    exact eqSame (p := .list [.int ((m : Int) + 1)]) rfl rfl rfl (Nat.le_of_ble_eq_true rfl) (h _)
end
end K

set_option Elab.async false
set_option linter.all false
set_option maxRecDepth 100000
namespace K
open PySem L2 Evl EX
section
theorem all_mk {l : PySem.W.OpenLaw} {w : World} {K : PySem.W.Frag} {h : Heap} {mg : Str → Option Value} {fa : Addr} (X : K.In h) (G : h.Ns mainGlobals mg) (hfa : mg "law" = some (.ref fa))
    {f1 : Addr} {od1 an1 : Option Addr} {sl1 : Array (Option Value)} {oc1 kV1 dc1 pm1 cd1 ct1 : Value}
    {f2 : Addr} {od2 an2 : Option Addr} {sl2 : Array (Option Value)} {oc2 kV2 dc2 pm2 cd2 ct2 : Value}
    {f3 : Addr} {od3 an3 : Option Addr} {sl3 : Array (Option Value)} {oc3 kV3 dc3 pm3 cd3 ct3 : Value}
    {f4 : Addr} {od4 an4 : Option Addr} {sl4 : Array (Option Value)} {oc4 kV4 dc4 pm4 cd4 ct4 : Value}
    {f5 : Addr} {od5 an5 : Option Addr} {sl5 : Array (Option Value)} {oc5 kV5 dc5 pm5 cd5 ct5 : Value}
    {f6 : Addr} {od6 an6 : Option Addr} {sl6 : Array (Option Value)} {oc6 kV6 dc6 pm6 cd6 ct6 : Value}
    {f7 : Addr} {od7 an7 : Option Addr} {sl7 : Array (Option Value)} {oc7 kV7 dc7 pm7 cd7 ct7 : Value}
    {f8 : Addr} {od8 an8 : Option Addr} {sl8 : Array (Option Value)} {oc8 kV8 dc8 pm8 cd8 ct8 : Value}
    {f9 : Addr} {od9 an9 : Option Addr} {sl9 : Array (Option Value)} {oc9 kV9 dc9 pm9 cd9 ct9 : Value}
    {f10 : Addr} {od10 an10 : Option Addr} {sl10 : Array (Option Value)} {oc10 kV10 dc10 pm10 cd10 ct10 : Value}
    {f11 : Addr} {od11 an11 : Option Addr} {sl11 : Array (Option Value)} {oc11 kV11 dc11 pm11 cd11 ct11 : Value}
    {f12 : Addr} {od12 an12 : Option Addr} {sl12 : Array (Option Value)} {oc12 kV12 dc12 pm12 cd12 ct12 : Value}
    {f13 : Addr} {od13 an13 : Option Addr} {sl13 : Array (Option Value)} {oc13 kV13 dc13 pm13 cd13 ct13 : Value}
    {f14 : Addr} {od14 an14 : Option Addr} {sl14 : Array (Option Value)} {oc14 kV14 dc14 pm14 cd14 ct14 : Value}
    {f15 : Addr} {od15 an15 : Option Addr} {sl15 : Array (Option Value)} {oc15 kV15 dc15 pm15 cd15 ct15 : Value}
    {f16 : Addr} {od16 an16 : Option Addr} {sl16 : Array (Option Value)} {oc16 kV16 dc16 pm16 cd16 ct16 : Value}
    {f17 : Addr} {od17 an17 : Option Addr} {sl17 : Array (Option Value)} {oc17 kV17 dc17 pm17 cd17 ct17 : Value}
    {f18 : Addr} {od18 an18 : Option Addr} {sl18 : Array (Option Value)} {oc18 kV18 dc18 pm18 cd18 ct18 : Value}
    {f19 : Addr} {od19 an19 : Option Addr} {sl19 : Array (Option Value)} {oc19 kV19 dc19 pm19 cd19 ct19 : Value}
    {f20 : Addr} {od20 an20 : Option Addr} {sl20 : Array (Option Value)} {oc20 kV20 dc20 pm20 cd20 ct20 : Value}  {C_Thing C_Hall : Addr}
    (aC_Thing : PySem.W.nsIn K mainGlobals "Thing" = some (some (.ref C_Thing)))
    (pg_Thing : PySem.W.plainGet K C_Thing Str.empty = true)
    (hd_Thing : PySem.W.hasDictIn K C_Thing = true)
    (po_Thing : PySem.W.plainOver K C_Thing = true)
    (sa_Thing : PySem.W.findIn K (.ref C_Thing) "__setattr__" = some (some (.builtin "object.__setattr__")))
    (mk_Thing : PySem.W.makesIn K C_Thing = true)
    (kc_Thing : PySem.W.keepIn K (.ref C_Thing) = true)
    (nf_Thing_form : PySem.W.findIn K (.ref C_Thing) "form" = some none)
    (nf_Thing_number : PySem.W.findIn K (.ref C_Thing) "number" = some none)
    (nf_Thing_count : PySem.W.findIn K (.ref C_Thing) "count" = some none)
    (nf_Thing_parts : PySem.W.findIn K (.ref C_Thing) "parts" = some none)
    (nf_Thing_own : PySem.W.findIn K (.ref C_Thing) "own" = some none)
    (nf_Thing_ended : PySem.W.findIn K (.ref C_Thing) "ended" = some none)
    (nf_Thing_waits : PySem.W.findIn K (.ref C_Thing) "waits" = some none)
    (iA_Thing : PySem.W.findIn K (.ref C_Thing) "__class__" = some (some (.builtin "object.__class__")))
    (iB_Thing : PySem.W.specialIn K (.builtin "object.__class__") "__get__" = some (some (.builtin "getset_descriptor.__get__")))
    (iC_Thing : PySem.W.takesIn K (.builtin "object.__class__") = some true)
    (iD_Thing : PySem.W.mroIn K C_Thing (.type "object") = some true)
    (it0_Thing : PySem.W.kitOne K (.ref C_Thing) (.type "bool") = some false)
    (it1_Thing : PySem.W.kitOne K (.ref C_Thing) (.type "int") = some false)
    (it2_Thing : PySem.W.kitOne K (.ref C_Thing) (.type "str") = some false)
    (if0_Thing : PySem.W.kitOne K (.type "NoneType") (.ref C_Thing) = some false)
    (if1_Thing : PySem.W.kitOne K (.type "bool") (.ref C_Thing) = some false)
    (if2_Thing : PySem.W.kitOne K (.type "int") (.ref C_Thing) = some false)
    (if3_Thing : PySem.W.kitOne K (.type "str") (.ref C_Thing) = some false)
    (aC_Hall : PySem.W.nsIn K mainGlobals "Hall" = some (some (.ref C_Hall)))
    (pg_Hall : PySem.W.plainGet K C_Hall Str.empty = true)
    (hd_Hall : PySem.W.hasDictIn K C_Hall = true)
    (po_Hall : PySem.W.plainOver K C_Hall = true)
    (sa_Hall : PySem.W.findIn K (.ref C_Hall) "__setattr__" = some (some (.builtin "object.__setattr__")))
    (mk_Hall : PySem.W.makesIn K C_Hall = true)
    (kc_Hall : PySem.W.keepIn K (.ref C_Hall) = true)
    (nf_Hall_ender : PySem.W.findIn K (.ref C_Hall) "ender" = some none)
    (nf_Hall_many : PySem.W.findIn K (.ref C_Hall) "many" = some none)
    (nf_Hall_there : PySem.W.findIn K (.ref C_Hall) "there" = some none)
    (nf_Hall_left : PySem.W.findIn K (.ref C_Hall) "left" = some none)
    (nf_Hall_row : PySem.W.findIn K (.ref C_Hall) "row" = some none)
    (nf_Hall_lasts : PySem.W.findIn K (.ref C_Hall) "lasts" = some none)
    (a1 : PySem.W.findIn K (.ref C_Thing) "__init__" = some (some (.ref f1))) (i1 : PySem.W.isFn K (.ref f1) = true) (l1 : K.lookup f1 = some ⟨oc1, od1, .func (PySem.W.fnOf "__init__" "Thing.__init__" (defArgs s_Thing___init__) (defBody s_Thing___init__) (defScope s_Thing___init__) .none kV1 dc1 pm1 an1 cd1 ct1), sl1⟩) (c1 : PySem.W.codeIn K cd1 "Thing.__init__" = true) (k1 : PySem.W.keepIn K (.ref f1) = true)
    (a2 : PySem.W.findIn K (.ref C_Hall) "__init__" = some (some (.ref f2))) (i2 : PySem.W.isFn K (.ref f2) = true) (l2 : K.lookup f2 = some ⟨oc2, od2, .func (PySem.W.fnOf "__init__" "Hall.__init__" (defArgs s_Hall___init__) (defBody s_Hall___init__) (defScope s_Hall___init__) .none kV2 dc2 pm2 an2 cd2 ct2), sl2⟩) (c2 : PySem.W.codeIn K cd2 "Hall.__init__" = true) (k2 : PySem.W.keepIn K (.ref f2) = true)
    (a3 : PySem.W.findIn K (.ref C_Hall) "make" = some (some (.ref f3))) (i3 : PySem.W.isFn K (.ref f3) = true) (l3 : K.lookup f3 = some ⟨oc3, od3, .func (PySem.W.fnOf "make" "Hall.make" (defArgs s_Hall_make) (defBody s_Hall_make) (defScope s_Hall_make) .none kV3 dc3 pm3 an3 cd3 ct3), sl3⟩) (c3 : PySem.W.codeIn K cd3 "Hall.make" = true) (k3 : PySem.W.keepIn K (.ref f3) = true)
    (a4 : PySem.W.findIn K (.ref C_Hall) "hold" = some (some (.ref f4))) (i4 : PySem.W.isFn K (.ref f4) = true) (l4 : K.lookup f4 = some ⟨oc4, od4, .func (PySem.W.fnOf "hold" "Hall.hold" (defArgs s_Hall_hold) (defBody s_Hall_hold) (defScope s_Hall_hold) .none kV4 dc4 pm4 an4 cd4 ct4), sl4⟩) (c4 : PySem.W.codeIn K cd4 "Hall.hold" = true) (k4 : PySem.W.keepIn K (.ref f4) = true)
    (a5 : PySem.W.findIn K (.ref C_Hall) "loose" = some (some (.ref f5))) (i5 : PySem.W.isFn K (.ref f5) = true) (l5 : K.lookup f5 = some ⟨oc5, od5, .func (PySem.W.fnOf "loose" "Hall.loose" (defArgs s_Hall_loose) (defBody s_Hall_loose) (defScope s_Hall_loose) .none kV5 dc5 pm5 an5 cd5 ct5), sl5⟩) (c5 : PySem.W.codeIn K cd5 "Hall.loose" = true) (k5 : PySem.W.keepIn K (.ref f5) = true)
    (a6 : PySem.W.findIn K (.ref C_Hall) "put" = some (some (.ref f6))) (i6 : PySem.W.isFn K (.ref f6) = true) (l6 : K.lookup f6 = some ⟨oc6, od6, .func (PySem.W.fnOf "put" "Hall.put" (defArgs s_Hall_put) (defBody s_Hall_put) (defScope s_Hall_put) .none kV6 dc6 pm6 an6 cd6 ct6), sl6⟩) (c6 : PySem.W.codeIn K cd6 "Hall.put" = true) (k6 : PySem.W.keepIn K (.ref f6) = true)
    (a7 : PySem.W.findIn K (.ref C_Hall) "things" = some (some (.ref f7))) (i7 : PySem.W.isFn K (.ref f7) = true) (l7 : K.lookup f7 = some ⟨oc7, od7, .func (PySem.W.fnOf "things" "Hall.things" (defArgs s_Hall_things) (defBody s_Hall_things) (defScope s_Hall_things) .none kV7 dc7 pm7 an7 cd7 ct7), sl7⟩) (c7 : PySem.W.codeIn K cd7 "Hall.things" = true) (k7 : PySem.W.keepIn K (.ref f7) = true)
    (a8 : PySem.W.findIn K (.ref C_Hall) "gone" = some (some (.ref f8))) (i8 : PySem.W.isFn K (.ref f8) = true) (l8 : K.lookup f8 = some ⟨oc8, od8, .func (PySem.W.fnOf "gone" "Hall.gone" (defArgs s_Hall_gone) (defBody s_Hall_gone) (defScope s_Hall_gone) .none kV8 dc8 pm8 an8 cd8 ct8), sl8⟩) (c8 : PySem.W.codeIn K cd8 "Hall.gone" = true) (k8 : PySem.W.keepIn K (.ref f8) = true)
    (a9 : PySem.W.findIn K (.ref C_Hall) "let_go" = some (some (.ref f9))) (i9 : PySem.W.isFn K (.ref f9) = true) (l9 : K.lookup f9 = some ⟨oc9, od9, .func (PySem.W.fnOf "let_go" "Hall.let_go" (defArgs s_Hall_let_go) (defBody s_Hall_let_go) (defScope s_Hall_let_go) .none kV9 dc9 pm9 an9 cd9 ct9), sl9⟩) (c9 : PySem.W.codeIn K cd9 "Hall.let_go" = true) (k9 : PySem.W.keepIn K (.ref f9) = true)
    (a10 : PySem.W.findIn K (.ref C_Hall) "empty" = some (some (.ref f10))) (i10 : PySem.W.isFn K (.ref f10) = true) (l10 : K.lookup f10 = some ⟨oc10, od10, .func (PySem.W.fnOf "empty" "Hall.empty" (defArgs s_Hall_empty) (defBody s_Hall_empty) (defScope s_Hall_empty) .none kV10 dc10 pm10 an10 cd10 ct10), sl10⟩) (c10 : PySem.W.codeIn K cd10 "Hall.empty" = true) (k10 : PySem.W.keepIn K (.ref f10) = true)
    (a11 : PySem.W.findIn K (.ref C_Hall) "ask_last" = some (some (.ref f11))) (i11 : PySem.W.isFn K (.ref f11) = true) (l11 : K.lookup f11 = some ⟨oc11, od11, .func (PySem.W.fnOf "ask_last" "Hall.ask_last" (defArgs s_Hall_ask_last) (defBody s_Hall_ask_last) (defScope s_Hall_ask_last) .none kV11 dc11 pm11 an11 cd11 ct11), sl11⟩) (c11 : PySem.W.codeIn K cd11 "Hall.ask_last" = true) (k11 : PySem.W.keepIn K (.ref f11) = true)
    (a12 : PySem.W.findIn K (.ref C_Hall) "be_gone" = some (some (.ref f12))) (i12 : PySem.W.isFn K (.ref f12) = true) (l12 : K.lookup f12 = some ⟨oc12, od12, .func (PySem.W.fnOf "be_gone" "Hall.be_gone" (defArgs s_Hall_be_gone) (defBody s_Hall_be_gone) (defScope s_Hall_be_gone) .none kV12 dc12 pm12 an12 cd12 ct12), sl12⟩) (c12 : PySem.W.codeIn K cd12 "Hall.be_gone" = true) (k12 : PySem.W.keepIn K (.ref f12) = true)
    (a13 : PySem.W.findIn K (.ref C_Hall) "turn" = some (some (.ref f13))) (i13 : PySem.W.isFn K (.ref f13) = true) (l13 : K.lookup f13 = some ⟨oc13, od13, .func (PySem.W.fnOf "turn" "Hall.turn" (defArgs s_Hall_turn) (defBody s_Hall_turn) (defScope s_Hall_turn) .none kV13 dc13 pm13 an13 cd13 ct13), sl13⟩) (c13 : PySem.W.codeIn K cd13 "Hall.turn" = true) (k13 : PySem.W.keepIn K (.ref f13) = true)
    (a14 : PySem.W.findIn K (.ref C_Hall) "work" = some (some (.ref f14))) (i14 : PySem.W.isFn K (.ref f14) = true) (l14 : K.lookup f14 = some ⟨oc14, od14, .func (PySem.W.fnOf "work" "Hall.work" (defArgs s_Hall_work) (defBody s_Hall_work) (defScope s_Hall_work) .none kV14 dc14 pm14 an14 cd14 ct14), sl14⟩) (c14 : PySem.W.codeIn K cd14 "Hall.work" = true) (k14 : PySem.W.keepIn K (.ref f14) = true)
    (a15 : PySem.W.nsIn K mainGlobals "_law_mixed" = some (some (.ref f15))) (l15 : K.lookup f15 = some ⟨oc15, od15, .func (PySem.W.fnOf "_law_mixed" "_law_mixed" (defArgs s__law_mixed) (defBody s__law_mixed) (defScope s__law_mixed) .none kV15 dc15 pm15 an15 cd15 ct15), sl15⟩) (c15 : PySem.W.codeIn K cd15 "_law_mixed" = true) (k15 : PySem.W.keepIn K (.ref f15) = true)
    (a16 : PySem.W.nsIn K mainGlobals "_law_well" = some (some (.ref f16))) (l16 : K.lookup f16 = some ⟨oc16, od16, .func (PySem.W.fnOf "_law_well" "_law_well" (defArgs s__law_well) (defBody s__law_well) (defScope s__law_well) .none kV16 dc16 pm16 an16 cd16 ct16), sl16⟩) (c16 : PySem.W.codeIn K cd16 "_law_well" = true) (k16 : PySem.W.keepIn K (.ref f16) = true)
    (a17 : PySem.W.nsIn K mainGlobals "_law_dig" = some (some (.ref f17))) (l17 : K.lookup f17 = some ⟨oc17, od17, .func (PySem.W.fnOf "_law_dig" "_law_dig" (defArgs s__law_dig) (defBody s__law_dig) (defScope s__law_dig) .none kV17 dc17 pm17 an17 cd17 ct17), sl17⟩) (c17 : PySem.W.codeIn K cd17 "_law_dig" = true) (k17 : PySem.W.keepIn K (.ref f17) = true)
    (a18 : PySem.W.nsIn K mainGlobals "_law_holders" = some (some (.ref f18))) (l18 : K.lookup f18 = some ⟨oc18, od18, .func (PySem.W.fnOf "_law_holders" "_law_holders" (defArgs s__law_holders) (defBody s__law_holders) (defScope s__law_holders) .none kV18 dc18 pm18 an18 cd18 ct18), sl18⟩) (c18 : PySem.W.codeIn K cd18 "_law_holders" = true) (k18 : PySem.W.keepIn K (.ref f18) = true)
    (a19 : PySem.W.nsIn K mainGlobals "_law_order" = some (some (.ref f19))) (l19 : K.lookup f19 = some ⟨oc19, od19, .func (PySem.W.fnOf "_law_order" "_law_order" (defArgs s__law_order) (defBody s__law_order) (defScope s__law_order) .none kV19 dc19 pm19 an19 cd19 ct19), sl19⟩) (c19 : PySem.W.codeIn K cd19 "_law_order" = true) (k19 : PySem.W.keepIn K (.ref f19) = true)
    (a20 : PySem.W.nsIn K mainGlobals "law" = some (some (.ref f20))) (l20 : K.lookup f20 = some ⟨oc20, od20, .func (PySem.W.fnOf "law" "law" (defArgs s_law) (defBody s_law) (defScope s_law) .none kV20 dc20 pm20 an20 cd20 ct20), sl20⟩) (c20 : PySem.W.codeIn K cd20 "law" = true) (k20 : PySem.W.keepIn K (.ref f20) = true)
    (z1 : PySem.W.nsIn K mainGlobals "len" = some none)
    (z2 : PySem.W.nsIn K mainGlobals "int" = some none)
    (z3 : PySem.W.nsIn K mainGlobals "range" = some none)
    (z4 : PySem.W.nsIn K mainGlobals "str" = some none)
    (z5 : PySem.W.nsIn K mainGlobals "isinstance" = some none)
    (z6 : PySem.W.nsIn K mainGlobals "bool" = some none)
    (z7 : PySem.W.nsIn K mainGlobals "sorted" = some none)
    (z8 : PySem.W.nsIn K mainGlobals "list" = some none)
    (z9 : PySem.W.nsIn K mainGlobals "enumerate" = some none)
    (z10 : PySem.W.nsIn K mainGlobals "dict" = some none)
    (z11 : PySem.W.nsIn K mainGlobals "min" = some none)
    (z12 : PySem.W.nsIn K mainGlobals "abs" = some none)
    (nCC : C_Thing ≠ C_Hall) :
    ∃ fd : FuncData, (∀ (s : Shared) (v : Value), BindsTo s fd ⟨[v], []⟩ [("_law_script", v)]) ∧ ∀ base : Heap, K.In base → base.Ns mainGlobals mg → FnOk l.prog w K mg base CX0 8 fa fd ["_law_script"] (spLaw K) := by
  have e := hfa.symm.trans (PySem.W.mg_of X G a20)
  cases e
  have T : Txt K mg C_Thing C_Hall := ⟨PySem.W.mg_none_of X G z1, PySem.W.mg_none_of X G z2, PySem.W.mg_none_of X G z3, PySem.W.mg_none_of X G z4, PySem.W.mg_none_of X G z5, PySem.W.mg_none_of X G z6, PySem.W.mg_none_of X G z7, PySem.W.mg_none_of X G z8, PySem.W.mg_none_of X G z9, PySem.W.mg_none_of X G z10, PySem.W.mg_none_of X G z11, ⟨.ref C_Thing, _, PySem.W.mg_of X G aC_Thing, rfl, fun _ => .ref _⟩, ⟨⟨pg_Thing, hd_Thing, po_Thing, sa_Thing⟩, DL.nF_cons nf_Thing_form (DL.nF_cons nf_Thing_number (DL.nF_cons nf_Thing_count (DL.nF_cons nf_Thing_parts (DL.nF_cons nf_Thing_own (DL.nF_cons nf_Thing_ended (DL.nF_cons nf_Thing_waits (DL.nF_nil)))))))⟩, ⟨⟨pg_Hall, hd_Hall, po_Hall, sa_Hall⟩, DL.nF_cons nf_Hall_ender (DL.nF_cons nf_Hall_many (DL.nF_cons nf_Hall_there (DL.nF_cons nf_Hall_left (DL.nF_cons nf_Hall_row (DL.nF_cons nf_Hall_lasts (DL.nF_nil))))))⟩, ⟨⟨pg_Thing, hd_Thing, po_Thing, sa_Thing⟩, iA_Thing, iB_Thing, iC_Thing, iD_Thing, it0_Thing, it1_Thing, it2_Thing, if0_Thing, if1_Thing, if2_Thing, if3_Thing⟩⟩
  have F1 := fun_mk (st := s_Thing___init__) l1 c1 k1
  have b1 := F1.binds (ps := ["self", "form", "number", "own"]) fun _ _ _ _ _ _ us hl => match us, hl with | [_, _, _, _], _ => rfl
  have F2 := fun_mk (st := s_Hall___init__) l2 c2 k2
  have b2 := F2.binds (ps := ["self", "ender"]) fun _ _ _ _ _ _ us hl => match us, hl with | [_, _], _ => rfl
  have F3 := fun_mk (st := s_Hall_make) l3 c3 k3
  have b3 := F3.binds (ps := ["self", "form", "own"]) fun _ _ _ _ _ _ us hl => match us, hl with | [_, _, _], _ => rfl
  have F4 := fun_mk (st := s_Hall_hold) l4 c4 k4
  have b4 := F4.binds (ps := ["self", "value"]) fun _ _ _ _ _ _ us hl => match us, hl with | [_, _], _ => rfl
  have F5 := fun_mk (st := s_Hall_loose) l5 c5 k5
  have b5 := F5.binds (ps := ["self", "value"]) fun _ _ _ _ _ _ us hl => match us, hl with | [_, _], _ => rfl
  have F6 := fun_mk (st := s_Hall_put) l6 c6 k6
  have b6 := F6.binds (ps := ["self", "thing", "key", "value"]) fun _ _ _ _ _ _ us hl => match us, hl with | [_, _, _, _], _ => rfl
  have F7 := fun_mk (st := s_Hall_things) l7 c7 k7
  have b7 := F7.binds (ps := ["self"]) fun _ _ _ _ _ _ us hl => match us, hl with | [_], _ => rfl
  have F8 := fun_mk (st := s_Hall_gone) l8 c8 k8
  have b8 := F8.binds (ps := ["self"]) fun _ _ _ _ _ _ us hl => match us, hl with | [_], _ => rfl
  have F9 := fun_mk (st := s_Hall_let_go) l9 c9 k9
  have b9 := F9.binds (ps := ["self", "thing"]) fun _ _ _ _ _ _ us hl => match us, hl with | [_, _], _ => rfl
  have F10 := fun_mk (st := s_Hall_empty) l10 c10 k10
  have b10 := F10.binds (ps := ["self", "thing"]) fun _ _ _ _ _ _ us hl => match us, hl with | [_, _], _ => rfl
  have F11 := fun_mk (st := s_Hall_ask_last) l11 c11 k11
  have b11 := F11.binds (ps := ["self", "thing"]) fun _ _ _ _ _ _ us hl => match us, hl with | [_, _], _ => rfl
  have F12 := fun_mk (st := s_Hall_be_gone) l12 c12 k12
  have b12 := F12.binds (ps := ["self", "thing"]) fun _ _ _ _ _ _ us hl => match us, hl with | [_, _], _ => rfl
  have F13 := fun_mk (st := s_Hall_turn) l13 c13 k13
  have b13 := F13.binds (ps := ["self", "thing"]) fun _ _ _ _ _ _ us hl => match us, hl with | [_, _], _ => rfl
  have F14 := fun_mk (st := s_Hall_work) l14 c14 k14
  have b14 := F14.binds (ps := ["self"]) fun _ _ _ _ _ _ us hl => match us, hl with | [_], _ => rfl
  have F15 := fun_mk (st := s__law_mixed) l15 c15 k15
  have b15 := F15.binds (ps := ["_law_number", "_law_k"]) fun _ _ _ _ _ _ us hl => match us, hl with | [_, _], _ => rfl
  have F16 := fun_mk (st := s__law_well) l16 c16 k16
  have b16 := F16.binds (ps := ["_law_script", "_law_first"]) fun _ _ _ _ _ _ us hl => match us, hl with | [_, _], _ => rfl
  have F17 := fun_mk (st := s__law_dig) l17 c17 k17
  have b17 := F17.binds (ps := ["_law_well_here", "_law_most"]) fun _ _ _ _ _ _ us hl => match us, hl with | [_, _], _ => rfl
  have F18 := fun_mk (st := s__law_holders) l18 c18 k18
  have b18 := F18.binds (ps := ["_law_well_here", "_law_many"]) fun _ _ _ _ _ _ us hl => match us, hl with | [_, _], _ => rfl
  have F19 := fun_mk (st := s__law_order) l19 c19 k19
  have b19 := F19.binds (ps := ["_law_parts", "_law_many"]) fun _ _ _ _ _ _ us hl => match us, hl with | [_, _], _ => rfl
  have F20 := fun_mk (st := s_law) l20 c20 k20
  refine ⟨PySem.W.fnOf "law" "law" (defArgs s_law) (defBody s_law) (defScope s_law) .none kV20 dc20 pm20 an20 cd20 ct20, fun s v => .of_eq rfl, fun base _ _ => ?_⟩
  have G_mk_Thing : DL.MkDef l.prog w K mg base _ "Thing" C_Thing ["self", "form", "number", "own"] _ := ⟨f1, _, ⟨mk_Thing, a1, i1, kc_Thing⟩, ok_thinit F1 T, PySem.W.mg_of X G aC_Thing, b1⟩
  have G_mk_Hall : DL.MkDef l.prog w K mg base _ "Hall" C_Hall ["self", "ender"] _ := ⟨f2, _, ⟨mk_Hall, a2, i2, kc_Hall⟩, ok_hainit F2 T, PySem.W.mg_of X G aC_Hall, b2⟩
  have G_Hall_make : DL.MDef l.prog w K mg base _ C_Hall "make" ["self", "form", "own"] _ := ⟨f3, _, ok_make F3 T G_mk_Thing, ⟨a3, i3, k3⟩, b3⟩
  have G_Hall_hold : DL.MDef l.prog w K mg base _ C_Hall "hold" ["self", "value"] _ := ⟨f4, _, ok_hold F4 T, ⟨a4, i4, k4⟩, b4⟩
  have G_Hall_loose : DL.MDef l.prog w K mg base _ C_Hall "loose" ["self", "value"] _ := ⟨f5, _, ok_loose F5 T, ⟨a5, i5, k5⟩, b5⟩
  have G_Hall_put : DL.MDef l.prog w K mg base _ C_Hall "put" ["self", "thing", "key", "value"] _ := ⟨f6, _, ok_put F6 T G_Hall_hold G_Hall_loose, ⟨a6, i6, k6⟩, b6⟩
  have G_Hall_things : DL.MDef l.prog w K mg base _ C_Hall "things" ["self"] _ := ⟨f7, _, ok_things F7 T, ⟨a7, i7, k7⟩, b7⟩
  have G_Hall_gone : DL.MDef l.prog w K mg base _ C_Hall "gone" ["self"] _ := ⟨f8, _, ok_gone F8 T, ⟨a8, i8, k8⟩, b8⟩
  have G_Hall_let_go : DL.MDef l.prog w K mg base _ C_Hall "let_go" ["self", "thing"] _ := ⟨f9, _, ok_let_in F9 T, ⟨a9, i9, k9⟩, b9⟩
  have G_loose_in : DL.MDef l.prog w K mg base _ C_Hall "loose" ["self", "value"] _ := ⟨f5, _, ok_loose_in F5 T G_Hall_let_go, ⟨a5, i5, k5⟩, b5⟩
  have G_Hall_empty : DL.MDef l.prog w K mg base _ C_Hall "empty" ["self", "thing"] _ := ⟨f10, _, ok_empty F10 T G_loose_in, ⟨a10, i10, k10⟩, b10⟩
  have G_Hall_ask_last : DL.MDef l.prog w K mg base _ C_Hall "ask_last" ["self", "thing"] _ := ⟨f11, _, ok_ask_last F11 T, ⟨a11, i11, k11⟩, b11⟩
  have G_Hall_be_gone : DL.MDef l.prog w K mg base _ C_Hall "be_gone" ["self", "thing"] _ := ⟨f12, _, ok_be_gone F12 T, ⟨a12, i12, k12⟩, b12⟩
  have G_Hall_turn : DL.MDef l.prog w K mg base _ C_Hall "turn" ["self", "thing"] _ := ⟨f13, _, ok_turn F13 T G_Hall_ask_last G_Hall_be_gone G_Hall_empty, ⟨a13, i13, k13⟩, b13⟩
  have G_Hall_work : DL.MDef l.prog w K mg base _ C_Hall "work" ["self"] _ := ⟨f14, _, ok_work F14 T G_Hall_turn, ⟨a14, i14, k14⟩, b14⟩
  have G_let_out : DL.MDef l.prog w K mg base _ C_Hall "let_go" ["self", "thing"] _ := ⟨f9, _, ok_let_out F9 T G_Hall_work, ⟨a9, i9, k9⟩, b9⟩
  have G_loose_all : DL.MDef l.prog w K mg base _ C_Hall "loose" ["self", "value"] _ := ⟨f5, _, DL.or_sp ((ok_loose F5 T).mono (by decide)) (ok_loose_out F5 T G_let_out), ⟨a5, i5, k5⟩, b5⟩
  have G__law_mixed : Def l.prog w K mg base _ "_law_mixed" ["_law_number", "_law_k"] _ := ⟨f15, _, ok_mixed F15, PySem.W.mg_of X G a15, k15, b15⟩
  have G__law_well : Def l.prog w K mg base _ "_law_well" ["_law_script", "_law_first"] _ := ⟨f16, _, ok_well F16 ⟨PySem.W.mg_none_of X G z1, PySem.W.mg_none_of X G z12⟩, PySem.W.mg_of X G a16, k16, b16⟩
  have G__law_dig : Def l.prog w K mg base _ "_law_dig" ["_law_well_here", "_law_most"] _ := ⟨f17, _, ok_dig F17 ⟨PySem.W.mg_none_of X G z1, PySem.W.mg_none_of X G z12⟩ G__law_mixed, PySem.W.mg_of X G a17, k17, b17⟩
  have G__law_holders : Def l.prog w K mg base _ "_law_holders" ["_law_well_here", "_law_many"] _ := ⟨f18, _, ok_holders F18 T G__law_dig, PySem.W.mg_of X G a18, k18, b18⟩
  have G__law_order : Def l.prog w K mg base _ "_law_order" ["_law_parts", "_law_many"] _ := ⟨f19, _, DL.conv_sp (ok_order F19 T), PySem.W.mg_of X G a19, k19, b19⟩
  exact law_of (ok_law F20 T nCC G_mk_Hall G_Hall_make G_Hall_hold G_Hall_put G_loose_all G_Hall_things G_Hall_gone G__law_well G__law_dig G__law_holders G__law_order)
theorem walk {l : PySem.W.OpenLaw} {q : Program} {loose : List Str} {XP : (Str → Option Value) → Heap → Prop} {YP : World → Heap → Prop} {d : DefRec} {K : Params → PySem.W.Frag} (hn : l.most = some 63) (hdf : d.params.defaults = [])
    (hY : ∀ (w : World) (h : Heap), YP w h → (K w.params).In h)
    (F : ∀ (w : World) (mg : Str → Option Value) (fa : Addr) (h : Heap), (K w.params).In h → h.Ns mainGlobals mg → mg d.name = some (.ref fa) →
      ∃ fd : FuncData, (∀ (s : Shared) (u : Value), BindsTo s fd ⟨[u], []⟩ [("_law_script", u)]) ∧ ∀ base : Heap, (K w.params).In base → base.Ns mainGlobals mg → FnOk l.prog w (K w.params) mg base CX0 8 fa fd ["_law_script"] (spLaw (K w.params))) :
    PySem.W.WalkO q loose XP YP l.row.toRowW d [] (fun f vs => PySem.call f vs) :=
  L2.walk_of (n := 63) (k := 8) (x := "_law_script") (CX := fun _ => CX0) (sp := fun w => spLaw (K w.params)) hn (by decide) hdf ⟨rfl, by decide, by decide⟩ hY F (fun _ _ a ns hl _ hS => ⟨a, ns, rfl, hS, hl, fun _ => rfl⟩) fun _ _ _ _ _ z => z
end
end K
open PySem PySem.W PyProof.Rows
set_option maxRecDepth 100000 in
set_option maxHeartbeats 0 in
theorem PySem.Challenge.cw_snakehall_k25_long_rows_holds : PySem.Challenge.rw_snakehall_k25_long_rows.Holds := by
  w_on; o_law; k_head; (case hw => w_witness2)
  k_fill
  refine K.walk (l := PySem.Challenge.rw_snakehall_k25_long_rows) rfl rfl (fun w h Y => PySem.W.kIn_of Y) ?F
  case F =>
    intro w mg fa h KX G hmg
    refine' K.all_mk KX G hmg ?aC_Thing ?pg_Thing ?hd_Thing ?po_Thing ?sa_Thing ?mk_Thing ?kc_Thing ?nf_Thing_form ?nf_Thing_number ?nf_Thing_count ?nf_Thing_parts ?nf_Thing_own ?nf_Thing_ended ?nf_Thing_waits ?iA_Thing ?iB_Thing ?iC_Thing ?iD_Thing ?it0_Thing ?it1_Thing ?it2_Thing ?if0_Thing ?if1_Thing ?if2_Thing ?if3_Thing ?aC_Hall ?pg_Hall ?hd_Hall ?po_Hall ?sa_Hall ?mk_Hall ?kc_Hall ?nf_Hall_ender ?nf_Hall_many ?nf_Hall_there ?nf_Hall_left ?nf_Hall_row ?nf_Hall_lasts ?a1 ?i1 ?l1 ?c1 ?k1 ?a2 ?i2 ?l2 ?c2 ?k2 ?a3 ?i3 ?l3 ?c3 ?k3 ?a4 ?i4 ?l4 ?c4 ?k4 ?a5 ?i5 ?l5 ?c5 ?k5 ?a6 ?i6 ?l6 ?c6 ?k6 ?a7 ?i7 ?l7 ?c7 ?k7 ?a8 ?i8 ?l8 ?c8 ?k8 ?a9 ?i9 ?l9 ?c9 ?k9 ?a10 ?i10 ?l10 ?c10 ?k10 ?a11 ?i11 ?l11 ?c11 ?k11 ?a12 ?i12 ?l12 ?c12 ?k12 ?a13 ?i13 ?l13 ?c13 ?k13 ?a14 ?i14 ?l14 ?c14 ?k14 ?a15 ?l15 ?c15 ?k15 ?a16 ?l16 ?c16 ?k16 ?a17 ?l17 ?c17 ?k17 ?a18 ?l18 ?c18 ?k18 ?a19 ?l19 ?c19 ?k19 ?a20 ?l20 ?c20 ?k20 ?z1 ?z2 ?z3 ?z4 ?z5 ?z6 ?z7 ?z8 ?z9 ?z10 ?z11 ?z12 ?nCC
    (case aC_Thing => k_is)
    (case pg_Thing => k_is)
    (case hd_Thing => k_is)
    (case po_Thing => k_is)
    (case sa_Thing => k_is)
    (case mk_Thing => k_is)
    (case kc_Thing => k_is)
    (case nf_Thing_form => k_is)
    (case nf_Thing_number => k_is)
    (case nf_Thing_count => k_is)
    (case nf_Thing_parts => k_is)
    (case nf_Thing_own => k_is)
    (case nf_Thing_ended => k_is)
    (case nf_Thing_waits => k_is)
    (case iA_Thing => k_is)
    (case iB_Thing => k_is)
    (case iC_Thing => k_is)
    (case iD_Thing => k_is)
    (case it0_Thing => kit_is)
    (case it1_Thing => kit_is)
    (case it2_Thing => kit_is)
    (case if0_Thing => kit_is)
    (case if1_Thing => kit_is)
    (case if2_Thing => kit_is)
    (case if3_Thing => kit_is)
    (case aC_Hall => k_is)
    (case pg_Hall => k_is)
    (case hd_Hall => k_is)
    (case po_Hall => k_is)
    (case sa_Hall => k_is)
    (case mk_Hall => k_is)
    (case kc_Hall => k_is)
    (case nf_Hall_ender => k_is)
    (case nf_Hall_many => k_is)
    (case nf_Hall_there => k_is)
    (case nf_Hall_left => k_is)
    (case nf_Hall_row => k_is)
    (case nf_Hall_lasts => k_is)
    (case a1 => k_is)
    (case i1 => k_is)
    (case l1 => k_is)
    (case c1 => k_is)
    (case k1 => k_is)
    (case a2 => k_is)
    (case i2 => k_is)
    (case l2 => k_is)
    (case c2 => k_is)
    (case k2 => k_is)
    (case a3 => k_is)
    (case i3 => k_is)
    (case l3 => k_is)
    (case c3 => k_is)
    (case k3 => k_is)
    (case a4 => k_is)
    (case i4 => k_is)
    (case l4 => k_is)
    (case c4 => k_is)
    (case k4 => k_is)
    (case a5 => k_is)
    (case i5 => k_is)
    (case l5 => k_is)
    (case c5 => k_is)
    (case k5 => k_is)
    (case a6 => k_is)
    (case i6 => k_is)
    (case l6 => k_is)
    (case c6 => k_is)
    (case k6 => k_is)
    (case a7 => k_is)
    (case i7 => k_is)
    (case l7 => k_is)
    (case c7 => k_is)
    (case k7 => k_is)
    (case a8 => k_is)
    (case i8 => k_is)
    (case l8 => k_is)
    (case c8 => k_is)
    (case k8 => k_is)
    (case a9 => k_is)
    (case i9 => k_is)
    (case l9 => k_is)
    (case c9 => k_is)
    (case k9 => k_is)
    (case a10 => k_is)
    (case i10 => k_is)
    (case l10 => k_is)
    (case c10 => k_is)
    (case k10 => k_is)
    (case a11 => k_is)
    (case i11 => k_is)
    (case l11 => k_is)
    (case c11 => k_is)
    (case k11 => k_is)
    (case a12 => k_is)
    (case i12 => k_is)
    (case l12 => k_is)
    (case c12 => k_is)
    (case k12 => k_is)
    (case a13 => k_is)
    (case i13 => k_is)
    (case l13 => k_is)
    (case c13 => k_is)
    (case k13 => k_is)
    (case a14 => k_is)
    (case i14 => k_is)
    (case l14 => k_is)
    (case c14 => k_is)
    (case k14 => k_is)
    (case a15 => k_is)
    (case l15 => k_is)
    (case c15 => k_is)
    (case k15 => k_is)
    (case a16 => k_is)
    (case l16 => k_is)
    (case c16 => k_is)
    (case k16 => k_is)
    (case a17 => k_is)
    (case l17 => k_is)
    (case c17 => k_is)
    (case k17 => k_is)
    (case a18 => k_is)
    (case l18 => k_is)
    (case c18 => k_is)
    (case k18 => k_is)
    (case a19 => k_is)
    (case l19 => k_is)
    (case c19 => k_is)
    (case k19 => k_is)
    (case a20 => k_is)
    (case l20 => k_is)
    (case c20 => k_is)
    (case k20 => k_is)
    (case z1 => k_is)
    (case z2 => k_is)
    (case z3 => k_is)
    (case z4 => k_is)
    (case z5 => k_is)
    (case z6 => k_is)
    (case z7 => k_is)
    (case z8 => k_is)
    (case z9 => k_is)
    (case z10 => k_is)
    (case z11 => k_is)
    (case z12 => k_is)
    (case nCC => decide)
