import PyProof.Rows.All
import Wide.All
import OpenK.AllK
import Wide.FinOn
import HandS.ForMost
import HandS.Strs
import HandS.Evl
import HandS.Deep
import HandS.More
import HandS.Rev
import HandS.IsInst
import HandS.ListItems
import PySem.Challenge.RW_snakehall_k19_orders_of_elders
set_option linter.all false
namespace EM
section
variable {α : Type} [DecidableEq α]

/-- t stands in no list behind its first place -/
def free (ls : List (List α)) (t : α) : Bool := !(ls.any fun o => decide (t ∈ o.tail))
def heads (ls : List (List α)) : List α := ls.filterMap List.head?
def nextT (ls : List (List α)) : Option α := (heads ls).find? (free ls)
def dropH (t : α) (l : List α) : List α := if l.head? = some t then l.tail else l
def live (ls : List (List α)) : List (List α) := ls.filter fun l => !l.isEmpty
def tot (ls : List (List α)) : Nat := (ls.map List.length).sum
def mrg : Nat → List (List α) → Option (List α)
  | 0, _ => some []
  | n + 1, ls => if live ls = [] then some [] else match nextT ls with
    | none => none
    | some t => (mrg n (ls.map (dropH t))).map (t :: ·)
def merge (ls : List (List α)) : Option (List α) := mrg (tot ls) ls

theorem tot_cons (l : List α) (ls : List (List α)) : tot (l :: ls) = l.length + tot ls := by
  simp [tot]
theorem tot_nil : tot ([] : List (List α)) = 0 := rfl

theorem dropH_len (t : α) (l : List α) : (dropH t l).length ≤ l.length := by
  unfold dropH
  split
  · cases l <;> simp
  · exact Nat.le_refl _

theorem tot_drop_le (t : α) : ∀ ls : List (List α), tot (ls.map (dropH t)) ≤ tot ls
  | [] => Nat.le_refl _
  | l :: ls => by
    rw [List.map_cons, tot_cons, tot_cons]
    have h1 := dropH_len t l
    have h2 := tot_drop_le t ls
    omega

theorem mem_heads {t : α} {ls : List (List α)} : t ∈ heads ls ↔ ∃ l ∈ ls, l.head? = some t := by
  unfold heads
  rw [List.mem_filterMap]

theorem tot_drop_lt (t : α) : ∀ ls : List (List α), t ∈ heads ls → tot (ls.map (dropH t)) < tot ls
  | [], h => by simp [heads] at h
  | l :: ls, h => by
    rw [List.map_cons, tot_cons, tot_cons]
    obtain ⟨x, hx, hh⟩ := mem_heads.mp h
    rcases List.mem_cons.mp hx with e | hx
    · subst e
      have h2 := tot_drop_le t ls
      have h1 : (dropH t x).length + 1 = x.length := by
        unfold dropH
        rw [if_pos hh]
        cases x with
        | nil => simp at hh
        | cons a r => simp
      omega
    · have h1 := dropH_len t l
      have h2 := tot_drop_lt t ls (mem_heads.mpr ⟨x, hx, hh⟩)
      omega

theorem nextT_mem {ls : List (List α)} {t : α} (h : nextT ls = some t) : t ∈ heads ls := List.mem_of_find?_eq_some h
theorem nextT_free {ls : List (List α)} {t : α} (h : nextT ls = some t) : free ls t = true := List.find?_some h

theorem live_nil_of_tot {ls : List (List α)} (h : tot ls = 0) : live ls = [] := by
  induction ls with
  | nil => rfl
  | cons l ls ih =>
    rw [tot_cons] at h
    have hl : l = [] := List.length_eq_zero_iff.mp (by omega)
    subst hl
    unfold live at ih ⊢
    rw [List.filter_cons]
    simp
    have := ih (by omega)
    simpa using this

theorem mrg_two : ∀ (n m : Nat) (ls : List (List α)), tot ls ≤ n → tot ls ≤ m → mrg n ls = mrg m ls
  | 0, 0, _, _, _ => rfl
  | 0, m + 1, ls, h, _ => by
    show some [] = (if live ls = [] then some [] else _)
    rw [if_pos (live_nil_of_tot (by omega))]
  | n + 1, 0, ls, _, h => by
    show (if live ls = [] then some [] else _) = some []
    rw [if_pos (live_nil_of_tot (by omega))]
  | n + 1, m + 1, ls, h1, h2 => by
    show (if live ls = [] then some [] else match nextT ls with
        | none => none
        | some t => (mrg n (ls.map (dropH t))).map (t :: ·)) = (if live ls = [] then some [] else match nextT ls with
        | none => none
        | some t => (mrg m (ls.map (dropH t))).map (t :: ·))
    split
    · rfl
    · cases hn : nextT ls with
      | none => rfl
      | some t =>
        have hl := tot_drop_lt t ls (nextT_mem hn)
        dsimp only
        rw [mrg_two n m _ (by omega) (by omega)]

theorem merge_done {ls : List (List α)} (h : live ls = []) : merge ls = some [] := by
  unfold merge
  cases tot ls with
  | zero => rfl
  | succ n =>
    show (if live ls = [] then some [] else _) = _
    rw [if_pos h]
theorem tot_pos {ls : List (List α)} (h : live ls ≠ []) : 0 < tot ls := by
  cases hm : tot ls with
  | zero => exact absurd (live_nil_of_tot hm) h
  | succ n => omega
theorem merge_none {ls : List (List α)} (h : live ls ≠ []) (hn : nextT ls = none) : merge ls = none := by
  have hp := tot_pos h
  unfold merge
  cases hm : tot ls with
  | zero => omega
  | succ n =>
    show (if live ls = [] then some [] else _) = _
    rw [if_neg h, hn]
theorem merge_step {ls : List (List α)} {t : α} (hn : nextT ls = some t) : merge ls = (merge (ls.map (dropH t))).map (t :: ·) := by
  have hl := tot_drop_lt t ls (nextT_mem hn)
  have h : live ls ≠ [] := by
    intro h
    obtain ⟨x, hx, hh⟩ := mem_heads.mp (nextT_mem hn)
    have : x ∈ live ls := List.mem_filter.mpr ⟨hx, by cases x with | nil => simp at hh | cons a r => rfl⟩
    rw [h] at this
    cases this
  unfold merge
  cases hm : tot ls with
  | zero => omega
  | succ n =>
    show (if live ls = [] then some [] else _) = _
    rw [if_neg h, hn]
    dsimp only
    rw [mrg_two n (tot (ls.map (dropH t))) _ (by omega) (Nat.le_refl _)]

/-! ### lists that are empty count for nothing -/
theorem heads_live (ls : List (List α)) : heads (live ls) = heads ls := by
  unfold heads live
  induction ls with
  | nil => rfl
  | cons l ls ih =>
    cases l with
    | nil =>
      rw [List.filterMap_cons]
      exact ih
    | cons a r => simpa [List.filterMap_cons] using ih
theorem free_live (ls : List (List α)) (t : α) : free (live ls) t = free ls t := by
  unfold free live
  induction ls with
  | nil => rfl
  | cons l ls ih =>
    cases l with
    | nil => simpa using ih
    | cons a r =>
      simp only [List.filter_cons, List.isEmpty_cons, Bool.not_false, if_true, List.any_cons, Bool.not_or]
      rw [ih]
theorem nextT_live (ls : List (List α)) : nextT (live ls) = nextT ls := by
  unfold nextT
  rw [heads_live]
  congr 1
  funext t
  exact free_live ls t
theorem live_drop (t : α) (ls : List (List α)) : live ((live ls).map (dropH t)) = live (ls.map (dropH t)) := by
  unfold live
  induction ls with
  | nil => rfl
  | cons l ls ih =>
    cases l with
    | nil => simpa [dropH] using ih
    | cons a r =>
      simp only [List.filter_cons, List.isEmpty_cons, Bool.not_false, if_true, List.map_cons]
      rw [ih]
theorem live_of_ne {ls : List (List α)} (h : ∀ l ∈ ls, l ≠ []) : live ls = ls := by
  unfold live
  rw [List.filter_eq_self]
  intro l hl
  cases l with
  | nil => exact absurd rfl (h _ hl)
  | cons a r => rfl
theorem live_live (ls : List (List α)) : live (live ls) = live ls := by
  unfold live
  rw [List.filter_filter]
  congr 1
  funext l
  simp
theorem tot_live (ls : List (List α)) : tot (live ls) = tot ls := by
  unfold live
  induction ls with
  | nil => rfl
  | cons l ls ih =>
    cases l with
    | nil => simpa [tot_cons] using ih
    | cons a r =>
      simp only [List.filter_cons, List.isEmpty_cons, Bool.not_false, if_true, tot_cons]
      rw [ih]
theorem merge_congr : ∀ (n : Nat) (ls ms : List (List α)), tot ls ≤ n → live ls = live ms → merge ls = merge ms := by
  intro n
  induction n with
  | zero =>
    intro ls ms h e
    have h1 := live_nil_of_tot (show tot ls = 0 by omega)
    rw [merge_done h1, merge_done (e ▸ h1)]
  | succ n ih =>
    intro ls ms h e
    by_cases hl : live ls = []
    · rw [merge_done hl, merge_done (e ▸ hl)]
    · have hn : nextT ls = nextT ms := by rw [← nextT_live ls, e, nextT_live]
      cases hx : nextT ls with
      | none => rw [merge_none hl hx, merge_none (e ▸ hl) (hn ▸ hx)]
      | some t =>
        rw [merge_step (ls := ls) hx, merge_step (ls := ms) (hn ▸ hx)]
        rw [ih _ (ms.map (dropH t)) (by have := tot_drop_lt t ls (nextT_mem hx); omega) (by rw [← live_drop t ls, e, live_drop])]
theorem merge_live (ls : List (List α)) : merge (live ls) = merge ls := merge_congr _ _ _ (Nat.le_refl _) (live_live ls)

theorem nextT_no {ls : List (List α)} (hp : ∀ l ∈ ls, ∀ t, l.head? = some t → free ls t = false) : nextT ls = none := by
  unfold nextT
  rw [List.find?_eq_none]
  intro t ht
  obtain ⟨l, hl, hh⟩ := mem_heads.mp ht
  rw [hp l hl t hh]
  exact Bool.false_ne_true
theorem nextT_at {ls : List (List α)} {i : Nat} {l : List α} {t : α} (h : ls[i]? = some l) (hh : l.head? = some t) (hf : free ls t = true) (hp : ∀ l ∈ ls.take i, ∀ t, l.head? = some t → free ls t = false) : nextT ls = some t := by
  have e : ls = ls.take i ++ l :: ls.drop (i + 1) := by
    have hi := (List.getElem?_eq_some_iff.mp h).1
    have hv := (List.getElem?_eq_some_iff.mp h).2
    rw [← hv, ← List.drop_eq_getElem_cons hi, List.take_append_drop]
  have e2 : heads ls = heads (ls.take i) ++ t :: heads (ls.drop (i + 1)) := by
    have : heads ls = heads (ls.take i ++ l :: ls.drop (i + 1)) := congrArg heads e
    rw [this]
    unfold heads
    rw [List.filterMap_append, List.filterMap_cons, hh]
  unfold nextT
  rw [e2, List.find?_append]
  have : (heads (ls.take i)).find? (free ls) = none := by
    rw [List.find?_eq_none]
    intro x hx
    obtain ⟨l', hl', hh'⟩ := mem_heads.mp hx
    rw [hp l' hl' x hh']
    exact Bool.false_ne_true
  rw [this, List.find?_cons, hf]
  rfl
/-! ### what a merge has -/
theorem mem_dropH {t a : α} {l : List α} (h : a ∈ l) : a = t ∨ a ∈ dropH t l := by
  unfold dropH
  split
  · rename_i hh
    cases l with
    | nil => cases h
    | cons x r =>
      simp at hh
      subst hh
      rcases List.mem_cons.mp h with e | h
      · exact .inl e
      · exact .inr h
  · exact .inr h
theorem dropH_sub {t a : α} {l : List α} (h : a ∈ dropH t l) : a ∈ l := by
  unfold dropH at h
  split at h
  · exact List.mem_of_mem_tail h
  · exact h
theorem dropH_nd {t : α} {l : List α} (h : l.Nodup) : (dropH t l).Nodup := by
  unfold dropH
  split
  · exact h.sublist (List.tail_sublist l)
  · exact h
theorem gone_dropH {t : α} {l : List α} (h : l.Nodup) (hf : t ∉ l.tail) : t ∉ dropH t l := by
  unfold dropH
  split
  · exact hf
  · rename_i hh
    cases l with
    | nil => simp
    | cons x r =>
      simp at hh
      intro hm
      rcases List.mem_cons.mp hm with e | hm
      · exact hh e.symm
      · exact hf hm
theorem free_iff {ls : List (List α)} {t : α} : free ls t = true ↔ ∀ o ∈ ls, t ∉ o.tail := by
  unfold free
  simp
theorem merge_has : ∀ (n : Nat) (ls : List (List α)) (l : List α), tot ls ≤ n → merge ls = some l → (∀ o ∈ ls, o.Nodup) → l.Nodup ∧ ∀ a, a ∈ l ↔ ∃ o ∈ ls, a ∈ o := by
  intro n
  induction n with
  | zero =>
    intro ls l h e _
    have h1 := live_nil_of_tot (show tot ls = 0 by omega)
    rw [merge_done h1] at e
    cases e
    refine ⟨List.nodup_nil, fun a => ⟨fun h => (nomatch h), fun ⟨o, ho, ha⟩ => ?_⟩⟩
    have : o ∈ live ls := List.mem_filter.mpr ⟨ho, by cases o with | nil => cases ha | cons _ _ => rfl⟩
    rw [h1] at this
    cases this
  | succ n ih =>
    intro ls l h e nd
    by_cases hl : live ls = []
    · rw [merge_done hl] at e
      cases e
      refine ⟨List.nodup_nil, fun a => ⟨fun h => (nomatch h), fun ⟨o, ho, ha⟩ => ?_⟩⟩
      have : o ∈ live ls := List.mem_filter.mpr ⟨ho, by cases o with | nil => cases ha | cons _ _ => rfl⟩
      rw [hl] at this
      cases this
    · cases hx : nextT ls with
      | none =>
        rw [merge_none hl hx] at e
        cases e
      | some t =>
        rw [merge_step hx] at e
        cases hm : merge (ls.map (dropH t)) with
        | none =>
          rw [hm] at e
          cases e
        | some r =>
          rw [hm] at e
          cases e
          have hf := free_iff.mp (nextT_free hx)
          obtain ⟨h1, h2⟩ := ih _ r (by have := tot_drop_lt t ls (nextT_mem hx); omega) hm (fun o ho => by
            obtain ⟨o', ho', rfl⟩ := List.mem_map.mp ho
            exact dropH_nd (nd o' ho'))
          refine ⟨List.nodup_cons.mpr ⟨fun hc => ?_, h1⟩, fun a => ?_⟩
          · obtain ⟨o, ho, ha⟩ := (h2 t).mp hc
            obtain ⟨o', ho', rfl⟩ := List.mem_map.mp ho
            exact gone_dropH (nd o' ho') (hf o' ho') ha
          · constructor
            · intro ha
              rcases List.mem_cons.mp ha with e | ha
              · subst e
                obtain ⟨x, hx', hh⟩ := mem_heads.mp (nextT_mem hx)
                exact ⟨x, hx', List.mem_of_mem_head? hh⟩
              · obtain ⟨o, ho, ha⟩ := (h2 a).mp ha
                obtain ⟨o', ho', rfl⟩ := List.mem_map.mp ho
                exact ⟨o', ho', dropH_sub ha⟩
            · rintro ⟨o, ho, ha⟩
              rcases mem_dropH (t := t) ha with e | ha
              · exact List.mem_cons.mpr (.inl e)
              · exact List.mem_cons.mpr (.inr ((h2 a).mpr ⟨_, List.mem_map.mpr ⟨o, ho, rfl⟩, ha⟩))

theorem merge_len : ∀ (n : Nat) (ls : List (List α)) (l : List α), tot ls ≤ n → merge ls = some l → l.length ≤ tot ls := by
  intro n
  induction n with
  | zero =>
    intro ls l h e
    rw [merge_done (live_nil_of_tot (show tot ls = 0 by omega))] at e
    cases e
    exact Nat.zero_le _
  | succ n ih =>
    intro ls l h e
    by_cases hl : live ls = []
    · rw [merge_done hl] at e
      cases e
      exact Nat.zero_le _
    · cases hx : nextT ls with
      | none =>
        rw [merge_none hl hx] at e
        cases e
      | some t =>
        rw [merge_step hx] at e
        cases hm : merge (ls.map (dropH t)) with
        | none =>
          rw [hm] at e
          cases e
        | some r =>
          rw [hm] at e
          cases e
          have h1 := tot_drop_lt t ls (nextT_mem hx)
          have h2 := ih _ r (by omega) hm
          rw [List.length_cons]
          omega
/-! ### orders -/
def orderBy (t : α) (es : List α) (f : α → Option (List α)) : Option (List α) :=
  if es.Nodup then (es.mapM f).bind fun ls => (merge (ls ++ [es])).map (t :: ·) else none

theorem orderBy_congr {t : α} {es : List α} {f g : α → Option (List α)} (h : ∀ e ∈ es, f e = g e) : orderBy t es f = orderBy t es g := by
  unfold orderBy
  have : es.mapM f = es.mapM g := by
    clear t
    induction es with
    | nil => rfl
    | cons a r ih =>
      rw [List.mapM_cons, List.mapM_cons, h a (List.mem_cons_self), ih fun e he => h e (List.mem_cons_of_mem _ he)]
  rw [this]
def ord (E : α → List α) : Nat → α → Option (List α)
  | 0, _ => none
  | n + 1, t => orderBy t (E t) (ord E n)
theorem ord_stable {E : α → List α} {r : α → Nat} (hr : ∀ t, ∀ e ∈ E t, r e < r t) : ∀ (n m : Nat) (t : α), r t < n → r t < m → ord E n t = ord E m t := by
  intro n
  induction n with
  | zero => intro m t h; omega
  | succ n ih =>
    intro m t h1 h2
    cases m with
    | zero => omega
    | succ m =>
      show orderBy t (E t) (ord E n) = orderBy t (E t) (ord E m)
      exact orderBy_congr fun e he => ih m e (by have := hr t e he; omega) (by have := hr t e he; omega)
/-- the order of a title, by a rank that falls to elders -/
def O (E : α → List α) (r : α → Nat) (t : α) : Option (List α) := ord E (r t + 1) t
theorem O_eq {E : α → List α} {r : α → Nat} (hr : ∀ t, ∀ e ∈ E t, r e < r t) (t : α) : O E r t = orderBy t (E t) (O E r) := by
  show orderBy t (E t) (ord E (r t)) = _
  exact orderBy_congr fun e he => ord_stable hr _ _ e (hr t e he) (Nat.lt_succ_self _)

theorem mapM_some {f : α → Option (List α)} : ∀ {es : List α} {ls : List (List α)}, es.mapM f = some ls → ls.length = es.length ∧ ∀ o ∈ ls, ∃ e ∈ es, f e = some o
  | [], ls, h => by
    simp at h
    subst h
    exact ⟨rfl, fun o ho => nomatch ho⟩
  | e :: es, ls, h => by
    rw [List.mapM_cons] at h
    cases he : f e with
    | none => rw [he] at h; cases h
    | some o =>
      cases hm : es.mapM f with
      | none => rw [he, hm] at h; cases h
      | some r =>
        rw [he, hm] at h
        cases h
        obtain ⟨h1, h2⟩ := mapM_some hm
        refine ⟨by simp [h1], fun x hx => ?_⟩
        rcases List.mem_cons.mp hx with q | q
        · subst q; exact ⟨e, List.mem_cons_self, he⟩
        · obtain ⟨e', he', q'⟩ := h2 x q
          exact ⟨e', List.mem_cons_of_mem _ he', q'⟩
theorem nodup_len {U : List α} : ∀ {l : List α}, l.Nodup → (∀ a ∈ l, a ∈ U) → l.length ≤ U.length := by
  induction U with
  | nil =>
    intro l _ h
    cases l with
    | nil => exact Nat.le_refl _
    | cons a r => exact nomatch h a List.mem_cons_self
  | cons u U ih =>
    intro l nd h
    by_cases hu : u ∈ l
    · have h1 : (l.erase u).length + 1 = l.length := by
        have := List.length_erase_of_mem hu
        have hp : 0 < l.length := List.length_pos_of_mem hu
        omega
      have h2 := ih (l := l.erase u) (nd.erase u) fun a ha => by
        have ha' : a ∈ l ∧ a ≠ u := by
          rw [nd.mem_erase_iff] at ha
          exact ⟨ha.2, ha.1⟩
        rcases List.mem_cons.mp (h a ha'.1) with e | e
        · exact absurd e ha'.2
        · exact e
      rw [List.length_cons]
      omega
    · have h2 := ih nd fun a ha => by
        rcases List.mem_cons.mp (h a ha) with e | e
        · subst e; exact absurd ha hu
        · exact e
      rw [List.length_cons]
      omega
/-- titles of one universe: an order has no title twice and none but of it -/
theorem O_has {E : α → List α} {r : α → Nat} {U : List α} (hr : ∀ t, ∀ e ∈ E t, r e < r t) (hU : ∀ t ∈ U, ∀ e ∈ E t, e ∈ U) :
    ∀ (n : Nat) (t : α), r t ≤ n → t ∈ U → ∀ l, O E r t = some l → l.Nodup ∧ (∀ a ∈ l, a ∈ U ∧ r a ≤ r t) := by
  intro n
  induction n with
  | zero =>
    intro t ht hu l hl
    have hE : E t = [] := by
      cases he : E t with
      | nil => rfl
      | cons e es => have := hr t e (by rw [he]; exact List.mem_cons_self); omega
    rw [O_eq hr, hE] at hl
    have hl' : some [t] = some l := hl
    cases hl'
    exact ⟨by simp, fun a ha => by simp at ha; subst ha; exact ⟨hu, Nat.le_refl _⟩⟩
  | succ n ih =>
    intro t ht hu l hl
    rw [O_eq hr] at hl
    unfold orderBy at hl
    split at hl
    · rename_i nd
      cases hm : (E t).mapM (O E r) with
      | none => rw [hm] at hl; cases hl
      | some ls =>
        rw [hm] at hl
        simp only [Option.bind_some] at hl
        cases hg : merge (ls ++ [E t]) with
        | none => rw [hg] at hl; cases hl
        | some b =>
          rw [hg] at hl
          cases hl
          obtain ⟨_, h2⟩ := mapM_some hm
          have key : ∀ o ∈ ls ++ [E t], o.Nodup ∧ ∀ a ∈ o, a ∈ U ∧ r a < r t := by
            intro o ho
            rcases List.mem_append.mp ho with q | q
            · obtain ⟨e, he, q'⟩ := h2 o q
              have hre := hr t e he
              obtain ⟨z1, z2⟩ := ih e (by omega) (hU t hu e he) o q'
              exact ⟨z1, fun a ha => ⟨(z2 a ha).1, by have := (z2 a ha).2; omega⟩⟩
            · simp at q
              subst q
              exact ⟨nd, fun a ha => ⟨hU t hu a ha, hr t a ha⟩⟩
          obtain ⟨m1, m2⟩ := merge_has _ _ _ (Nat.le_refl _) hg fun o ho => (key o ho).1
          refine ⟨List.nodup_cons.mpr ⟨fun hc => ?_, m1⟩, fun a ha => ?_⟩
          · obtain ⟨o, ho, ha⟩ := (m2 t).mp hc
            have := ((key o ho).2 t ha).2
            omega
          · rcases List.mem_cons.mp ha with q | q
            · subst q; exact ⟨hu, Nat.le_refl _⟩
            · obtain ⟨o, ho, ha⟩ := (m2 a).mp q
              exact ⟨((key o ho).2 a ha).1, Nat.le_of_lt ((key o ho).2 a ha).2⟩
    · cases hl
theorem O_len {E : α → List α} {r : α → Nat} {U : List α} (hr : ∀ t, ∀ e ∈ E t, r e < r t) (hU : ∀ t ∈ U, ∀ e ∈ E t, e ∈ U) {t : α} (ht : t ∈ U) {l : List α} (hl : O E r t = some l) : l.length ≤ U.length :=
  let ⟨a, b⟩ := O_has hr hU _ t (Nat.le_refl _) ht l hl
  nodup_len a fun x hx => (b x hx).1

/-! ### the stack of order_of -/
def lack (E : α → List α) (ks : List α) (t : α) : List α := (E t).filter fun e => !decide (e ∈ ks)
def addK (ks : List α) (t : α) : List α := if t ∈ ks then ks else ks ++ [t]
theorem mem_addK {ks : List α} {t a : α} : a ∈ addK ks t ↔ a ∈ ks ∨ a = t := by
  unfold addK
  split
  · rename_i h
    exact ⟨fun q => .inl q, fun q => q.elim id fun e => e ▸ h⟩
  · simp
/-- m steps from here on the stack (its top at the end) is empty; B: its height's bound; ks: what is known; P: what holds then -/
inductive Runs (E : α → List α) (B : Nat) (P : List α → Prop) : Nat → List α → List α → Prop
  | done {ks} (h : P ks) : Runs E B P 0 [] ks
  | push {m w t ks} (hb : (w ++ [t]).length ≤ B) (hl : lack E ks t ≠ []) (h : Runs E B P m (w ++ [t] ++ lack E ks t) ks) : Runs E B P (m + 1) (w ++ [t]) ks
  | pop {m w t ks} (hb : (w ++ [t]).length ≤ B) (hl : lack E ks t = []) (h : Runs E B P m w (addK ks t)) : Runs E B P (m + 1) (w ++ [t]) ks
theorem lack_nil {E : α → List α} {ks : List α} {t : α} (h : lack E ks t = []) : ∀ e ∈ E t, e ∈ ks := by
  intro e he
  unfold lack at h
  have := List.filter_eq_nil_iff.mp h e he
  simpa using this
theorem lack_of {E : α → List α} {ks : List α} {t : α} (h : ∀ e ∈ E t, e ∈ ks) : lack E ks t = [] :=
  List.filter_eq_nil_iff.mpr fun e he => by simpa using h e he
theorem runs_list {E : α → List α} {B : Nat} {P : List α → Prop} {T : α → Prop} {c : Nat}
    (one : ∀ t, T t → ∀ w ks, w.length + 1 + c ≤ B → (∀ ks', (∀ a ∈ ks, a ∈ ks') → t ∈ ks' → ∃ m, Runs E B P m w ks') → ∃ m, Runs E B P m (w ++ [t]) ks) :
    ∀ (q : List α), (∀ t ∈ q, T t) → ∀ w ks, w.length + q.length + c ≤ B → (∀ ks', (∀ a ∈ ks, a ∈ ks') → (∀ t ∈ q, t ∈ ks') → ∃ m, Runs E B P m w ks') → ∃ m, Runs E B P m (w ++ q.reverse) ks
  | [], _, w, ks, _, k => by
    have := k ks (fun _ h => h) (fun _ h => nomatch h)
    simpa using this
  | t :: q, hT, w, ks, hb, k => by
    rw [List.reverse_cons, ← List.append_assoc]
    rw [List.length_cons] at hb
    refine one t (hT t List.mem_cons_self) (w ++ q.reverse) ks (by simp; omega) fun ks1 h1 h2 => ?_
    refine runs_list one q (fun x hx => hT x (List.mem_cons_of_mem _ hx)) w ks1 (by omega) fun ks2 h3 h4 => ?_
    refine k ks2 (fun a ha => h3 a (h1 a ha)) fun x hx => ?_
    rcases List.mem_cons.mp hx with e | e
    · subst e; exact h3 _ h2
    · exact h4 x e
theorem runs_one {E : α → List α} {r : α → Nat} {B L : Nat} {P : List α → Prop} (hr : ∀ t, ∀ e ∈ E t, r e < r t) (hL : ∀ t, (E t).length ≤ L) :
    ∀ (n : Nat) (t : α), r t ≤ n → ∀ w ks, w.length + 1 + L * n ≤ B → (∀ ks', (∀ a ∈ ks, a ∈ ks') → t ∈ ks' → ∃ m, Runs E B P m w ks') → ∃ m, Runs E B P m (w ++ [t]) ks := by
  intro n
  induction n with
  | zero =>
    intro t ht w ks hb k
    have hE : E t = [] := by
      cases he : E t with
      | nil => rfl
      | cons e es => have := hr t e (by rw [he]; exact List.mem_cons_self); omega
    obtain ⟨m, hm⟩ := k (addK ks t) (fun a ha => mem_addK.mpr (.inl ha)) (mem_addK.mpr (.inr rfl))
    exact ⟨m + 1, .pop (by simp; omega) (lack_of (by rw [hE]; intro e he; cases he)) hm⟩
  | succ n ih =>
    intro t ht w ks hb k
    have fin : ∀ ks', (∀ a ∈ ks, a ∈ ks') → (∀ e ∈ E t, e ∈ ks') → ∃ m, Runs E B P m (w ++ [t]) ks' := fun ks' h1 h2 => by
      obtain ⟨m, hm⟩ := k (addK ks' t) (fun a ha => mem_addK.mpr (.inl (h1 a ha))) (mem_addK.mpr (.inr rfl))
      exact ⟨m + 1, .pop (by simp; omega) (lack_of h2) hm⟩
    by_cases hl : lack E ks t = []
    · exact fin ks (fun _ h => h) (lack_nil hl)
    · have hlen : (lack E ks t).length ≤ L := Nat.le_trans (List.length_filter_le _ _) (hL t)
      have hmul : L * (n + 1) = L * n + L := by rw [Nat.mul_succ]
      obtain ⟨m, hm⟩ := runs_list (T := fun x => r x ≤ n) (c := L * n) (fun x hx w' ks' hb' k' => ih x hx w' ks' hb' k') (lack E ks t).reverse (fun x hx => by
          have hx' : x ∈ E t := (List.mem_filter.mp (List.mem_reverse.mp hx)).1
          have := hr t x hx'
          omega) (w ++ [t]) ks (by simp; omega) fun ks' h1 h2 => fin ks' h1 fun e he => by
            by_cases hk : e ∈ ks
            · exact h1 e hk
            · exact h2 e (List.mem_reverse.mpr (List.mem_filter.mpr ⟨he, by simpa using hk⟩))
      rw [List.reverse_reverse] at hm
      exact ⟨m + 1, .push (by simp; omega) hl hm⟩
theorem runs_all {E : α → List α} {r : α → Nat} {L : Nat} (hr : ∀ t, ∀ e ∈ E t, r e < r t) (hL : ∀ t, (E t).length ≤ L) (t : α) : ∃ m, Runs E (1 + L * r t) (fun ks => t ∈ ks) m [t] [] := by
  have := runs_one (B := 1 + L * r t) (P := fun ks => t ∈ ks) hr hL (r t) t (Nat.le_refl _) [] [] (by simp) fun ks' _ h => ⟨0, .done h⟩
  simpa using this
end
end EM

set_option linter.all false
namespace EM
section
variable {α : Type} [DecidableEq α]
/-- the place of a title -/
def rk : List α → α → Nat
  | [], _ => 0
  | a :: l, x => if a = x then 0 else rk l x + 1
theorem rk_lt : ∀ {l : List α} {j : Nat} {x : α}, x ∈ l.take j → rk l x < j
  | [], j, x, h => by simp at h
  | a :: l, 0, x, h => by simp at h
  | a :: l, j + 1, x, h => by
    unfold rk
    split
    · omega
    · rename_i q
      rw [List.take_succ_cons] at h
      rcases List.mem_cons.mp h with z | z
      · exact absurd z.symm q
      · have := rk_lt z
        omega
theorem rk_at : ∀ {l : List α} (_ : l.Nodup) {j : Nat} {x : α}, l[j]? = some x → rk l x = j
  | [], _, j, x, h => by simp at h
  | a :: l, nd, 0, x, h => by
    simp at h
    subst h
    simp [rk]
  | a :: l, nd, j + 1, x, h => by
    have h' : l[j]? = some x := by simpa using h
    have hx : x ∈ l := List.mem_of_getElem? h'
    have hne : ¬ a = x := fun z => (List.nodup_cons.mp nd).1 (z ▸ hx)
    unfold rk
    rw [if_neg hne, rk_at (List.nodup_cons.mp nd).2 h']
theorem rk_out : ∀ {l : List α} {x : α}, x ∉ l → rk l x = l.length
  | [], _, _ => rfl
  | a :: l, x, h => by
    have h1 : ¬ a = x := fun z => h (z ▸ List.mem_cons_self)
    unfold rk
    rw [if_neg h1, rk_out fun z => h (List.mem_cons_of_mem _ z), List.length_cons]
theorem rk_le (l : List α) (x : α) : rk l x ≤ l.length := by
  by_cases h : x ∈ l
  · have := rk_lt (l := l) (j := l.length) (x := x) (by rwa [List.take_length])
    omega
  · rw [rk_out h]
    exact Nat.le_refl _
/-- titles and their elders' lists, each of titles ahead -/
structure Sch (ts : List α) (es : List (List α)) : Prop where
  len : es.length = ts.length
  nd : ts.Nodup
  ahead : ∀ (j : Nat) (l : List α), es[j]? = some l → ∀ e ∈ l, e ∈ ts.take j
def EF (ts : List α) (es : List (List α)) (x : α) : List α := es.getD (rk ts x) []
theorem EF_at {ts : List α} {es : List (List α)} (S : Sch ts es) {j : Nat} {x : α} {l : List α} (h : ts[j]? = some x) (hl : es[j]? = some l) : EF ts es x = l := by
  unfold EF
  rw [rk_at S.nd h, List.getD_eq_getElem?_getD, hl]
  rfl
theorem EF_get {ts : List α} {es : List (List α)} (S : Sch ts es) {x e : α} (h : e ∈ EF ts es x) : ∃ l, es[rk ts x]? = some l ∧ EF ts es x = l := by
  unfold EF at h ⊢
  rw [List.getD_eq_getElem?_getD] at h ⊢
  cases hq : es[rk ts x]? with
  | none => rw [hq] at h; simp at h
  | some l => exact ⟨l, rfl, rfl⟩
theorem EF_rank {ts : List α} {es : List (List α)} (S : Sch ts es) (x : α) : ∀ e ∈ EF ts es x, rk ts e < rk ts x := by
  intro e he
  obtain ⟨l, h1, h2⟩ := EF_get S he
  rw [h2] at he
  exact rk_lt (S.ahead _ l h1 e he)
theorem EF_sub {ts : List α} {es : List (List α)} (S : Sch ts es) (x : α) : ∀ e ∈ EF ts es x, e ∈ ts := by
  intro e he
  obtain ⟨l, h1, h2⟩ := EF_get S he
  rw [h2] at he
  exact List.mem_of_mem_take (S.ahead _ l h1 e he)
theorem Sch.snoc {ts : List α} {es : List (List α)} (S : Sch ts es) {x : α} {l : List α} (hx : x ∉ ts) (hl : ∀ e ∈ l, e ∈ ts) : Sch (ts ++ [x]) (es ++ [l]) := by
  refine ⟨by simp [S.len], ?_, fun j m hm e he => ?_⟩
  · rw [List.nodup_append]
    exact ⟨S.nd, by simp, fun a ha b hb => by simp at hb; subst hb; exact fun z => hx (z ▸ ha)⟩
  · by_cases hj : j < es.length
    · rw [List.getElem?_append_left hj] at hm
      have := S.ahead j m hm e he
      rw [List.take_append_of_le_length (by rw [← S.len]; omega)]
      exact this
    · rw [List.getElem?_append_right (by omega)] at hm
      have h0 : j - es.length = 0 := by
        cases hz : j - es.length with
        | zero => rfl
        | succ n => rw [hz] at hm; simp at hm
      rw [h0] at hm
      simp at hm
      subst hm
      have hj' : j = ts.length := by rw [← S.len]; omega
      rw [List.take_append_of_le_length (by omega), hj', List.take_length]
      exact hl e he
theorem Sch.nil : Sch ([] : List α) [] := ⟨rfl, List.nodup_nil, fun j l h => by simp at h⟩
end
end EM

set_option linter.all false
namespace EM
section
variable {α : Type} [DecidableEq α]
theorem sub_tail {a : α} {L o : List α} (nd : (a :: L).Nodup) (h : o.Sublist (a :: L)) : a ∉ o.tail ∧ (dropH a o).Sublist L := by
  have ha := (List.nodup_cons.mp nd).1
  cases h with
  | cons _ h =>
    have h1 : a ∉ o := fun q => ha (h.subset q)
    refine ⟨fun q => h1 (List.mem_of_mem_tail q), ?_⟩
    unfold dropH
    split
    · rename_i hh
      exact absurd (List.mem_of_mem_head? hh) h1
    · exact h
  | cons_cons _ h =>
    refine ⟨fun q => ha (h.subset q), ?_⟩
    unfold dropH
    rw [if_pos (by rfl)]
    exact h
theorem merge_first : ∀ (L : List α) (os : List (List α)), L.Nodup → (∀ o ∈ os, o.Sublist L) → merge (L :: os) = some L
  | [], os, _, h => by
    refine merge_done ?_
    unfold live
    rw [List.filter_eq_nil_iff]
    intro o ho
    rcases List.mem_cons.mp ho with q | q
    · rw [q]; simp
    · rw [List.sublist_nil.mp (h o q)]; simp
  | a :: L, os, nd, h => by
    have hf : free ((a :: L) :: os) a = true := free_iff.mpr fun o ho => by
      rcases List.mem_cons.mp ho with q | q
      · rw [q]
        exact (List.nodup_cons.mp nd).1
      · exact (sub_tail nd (h o q)).1
    have hn : nextT ((a :: L) :: os) = some a := nextT_at (i := 0) (l := a :: L) rfl rfl hf (fun l hl => by simp at hl)
    rw [merge_step hn]
    have hd : dropH a (a :: L) = L := by
      unfold dropH
      rw [if_pos (by rfl)]
      rfl
    rw [List.map_cons, hd, merge_first L (os.map (dropH a)) (List.nodup_cons.mp nd).2 fun o ho => by
      obtain ⟨o', h', rfl⟩ := List.mem_map.mp ho
      exact (sub_tail nd (h o' h')).2]
    rfl
/-- the elders of the k-th of a row: the one ahead, maybe one of the first two behind it -/
def Chain (ts : List α) (k : Nat) (l : List α) : Prop := (k = 0 ∧ l = []) ∨ ∃ a, 0 < k ∧ ts[k - 1]? = some a ∧ (l = [a] ∨ ∃ b j, 3 ≤ k ∧ j < 2 ∧ ts[j]? = some b ∧ l = [a, b])
theorem mem_take_of {ts : List α} {j k : Nat} {b : α} (h : ts[j]? = some b) (hj : j < k) : b ∈ ts.take k := by
  have : (ts.take k)[j]? = some b := by rw [List.getElem?_take, if_pos hj]; exact h
  exact List.mem_of_getElem? this
theorem chain_sch {ts : List α} {es : List (List α)} (nd : ts.Nodup) (hl : es.length = ts.length) (hc : ∀ (k : Nat) l, es[k]? = some l → Chain ts k l) : Sch ts es := by
  refine ⟨hl, nd, fun j l h e he => ?_⟩
  rcases hc j l h with ⟨_, rfl⟩ | ⟨a, hk, ha, q⟩
  · cases he
  · rcases q with rfl | ⟨b, i, h3, hi, hb, rfl⟩
    · rw [List.mem_singleton.mp he]
      exact mem_take_of ha (by omega)
    · rcases List.mem_cons.mp he with q | q
      · rw [q]
        exact mem_take_of ha (by omega)
      · rw [List.mem_singleton.mp q]
        exact mem_take_of hb (by omega)
theorem nodup_rev : ∀ {l : List α}, l.Nodup → l.reverse.Nodup
  | [], _ => List.nodup_nil
  | a :: l, h => by
    rw [List.reverse_cons, List.nodup_append]
    exact ⟨nodup_rev (List.nodup_cons.mp h).2, by simp, fun x hx y hy => by
      simp at hy
      subst hy
      exact fun z => (List.nodup_cons.mp h).1 (z ▸ List.mem_reverse.mp hx)⟩
theorem take_rev {ts : List α} {k : Nat} {x : α} (h : ts[k]? = some x) : (ts.take (k + 1)).reverse = x :: (ts.take k).reverse := by
  rw [List.take_add_one, h]
  simp
theorem long_O {ts : List α} {es : List (List α)} (nd : ts.Nodup) (hl : es.length = ts.length) (hc : ∀ (k : Nat) l, es[k]? = some l → Chain ts k l) :
    ∀ (n k : Nat) (x : α), k ≤ n → ts[k]? = some x → O (EF ts es) (rk ts) x = some (ts.take (k + 1)).reverse := by
  have S := chain_sch nd hl hc
  intro n
  induction n with
  | zero =>
    intro k x hk hx
    have h0 : k = 0 := by omega
    subst h0
    have hk' : 0 < ts.length := (List.getElem?_eq_some_iff.mp hx).1
    have he : es[0]? = some es[0] := List.getElem?_eq_getElem (by omega)
    rw [O_eq (EF_rank S), EF_at S hx he]
    rcases hc 0 _ he with ⟨_, h⟩ | ⟨a, h, _⟩
    · rw [h, take_rev hx]
      simp [orderBy, merge_done, live]
    · omega
  | succ n ih =>
    intro k x hk hx
    by_cases hkn : k ≤ n
    · exact ih k x hkn hx
    · have hk' : k < ts.length := (List.getElem?_eq_some_iff.mp hx).1
      have he : es[k]? = some es[k] := List.getElem?_eq_getElem (by omega)
      rw [O_eq (EF_rank S), EF_at S hx he, take_rev hx]
      have ndr : ((ts.take k).reverse).Nodup := nodup_rev (nd.sublist (List.take_sublist k ts))
      rcases hc k _ he with ⟨h, _⟩ | ⟨a, h0, ha, q⟩
      · omega
      · have hOa : O (EF ts es) (rk ts) a = some (ts.take k).reverse := by
          have := ih (k - 1) a (by omega) ha
          rwa [Nat.sub_add_cancel h0] at this
        have ham : a ∈ (ts.take k).reverse := List.mem_reverse.mpr (mem_take_of ha (by omega))
        rcases q with h | ⟨b, j, h3, hj, hb, h⟩
        · rw [h]
          unfold orderBy
          rw [if_pos (by simp)]
          have hm : [a].mapM (O (EF ts es) (rk ts)) = some [(ts.take k).reverse] := by
            rw [List.mapM_cons, hOa]
            rfl
          rw [hm]
          simp only [Option.bind_some]
          rw [show [(ts.take k).reverse] ++ [[a]] = (ts.take k).reverse :: [[a]] from rfl, merge_first _ _ ndr fun o ho => by
            rw [List.mem_singleton.mp ho]
            exact List.singleton_sublist.mpr ham]
          rfl
        · rw [h]
          have hab : a ≠ b := fun z => by
            have h1 := rk_at nd ha
            have h2 := rk_at nd hb
            rw [z, h2] at h1
            omega
          have hOb : O (EF ts es) (rk ts) b = some (ts.take (j + 1)).reverse := ih j b (by omega) hb
          unfold orderBy
          rw [if_pos (by simp [hab])]
          have hm : [a, b].mapM (O (EF ts es) (rk ts)) = some [(ts.take k).reverse, (ts.take (j + 1)).reverse] := by
            rw [List.mapM_cons, hOa, List.mapM_cons, hOb]
            rfl
          rw [hm]
          simp only [Option.bind_some]
          have hk1 : k = (k - 1) + 1 := by omega
          have hrk : (ts.take k).reverse = a :: (ts.take (k - 1)).reverse := by
            conv => lhs; rw [hk1]
            exact take_rev ha
          rw [show [(ts.take k).reverse, (ts.take (j + 1)).reverse] ++ [[a, b]] = (ts.take k).reverse :: [(ts.take (j + 1)).reverse, [a, b]] from rfl, merge_first _ _ ndr fun o ho => by
            rcases List.mem_cons.mp ho with q | q
            · rw [q]
              refine List.reverse_sublist.mpr ?_
              have : ts.take (j + 1) = (ts.take k).take (j + 1) := by rw [List.take_take, Nat.min_eq_left (by omega)]
              rw [this]
              exact List.take_sublist _ _
            · rw [List.mem_singleton.mp q, hrk]
              refine List.Sublist.cons_cons _ (List.singleton_sublist.mpr (List.mem_reverse.mpr (mem_take_of hb (by omega))))]
          rfl
end
end EM

set_option linter.all false
/-! what merged orders keep; orders as titles are added -/
namespace EM
section
variable {α : Type} [DecidableEq α]
theorem dropH_sublist {t : α} {l o : List α} (h : (dropH t l).Sublist o) : l.Sublist (t :: o) := by
  unfold dropH at h
  split at h
  · rename_i hh
    cases l with
    | nil => cases hh
    | cons a r =>
      cases hh
      exact List.Sublist.cons_cons _ h
  · exact List.Sublist.cons _ h
/-- each merged list stands in the order as it stood -/
theorem merge_sub : ∀ (n : Nat) (ls : List (List α)) (o : List α), tot ls ≤ n → merge ls = some o → ∀ l ∈ ls, l.Sublist o := by
  intro n
  induction n with
  | zero =>
    intro ls o ht hm l hl
    have hlv := live_nil_of_tot (Nat.le_zero.mp ht)
    have : l = [] := by
      unfold live at hlv
      rw [List.filter_eq_nil_iff] at hlv
      have := hlv l hl
      cases l with
      | nil => rfl
      | cons _ _ => simp at this
    rw [this]
    exact List.nil_sublist _
  | succ n ih =>
    intro ls o ht hm l hl
    cases hx : nextT ls with
    | none =>
      by_cases hv : live ls = []
      · have : l = [] := by
          unfold live at hv
          rw [List.filter_eq_nil_iff] at hv
          have := hv l hl
          cases l with
          | nil => rfl
          | cons _ _ => simp at this
        rw [this]
        exact List.nil_sublist _
      · rw [merge_none hv hx] at hm
        cases hm
    | some t =>
      rw [merge_step hx] at hm
      cases hr : merge (ls.map (dropH t)) with
      | none => rw [hr] at hm; cases hm
      | some r =>
        rw [hr] at hm
        cases hm
        have h1 := tot_drop_lt t ls (nextT_mem hx)
        exact dropH_sublist (ih _ r (by omega) hr _ (List.mem_map.mpr ⟨l, hl, rfl⟩))
/-- two that stand the other way round in two lists can not be merged -/
theorem merge_clash {ls : List (List α)} {l m : List α} {a b : α} (hl : l ∈ ls) (hm : m ∈ ls) (h1 : [a, b].Sublist l) (h2 : [b, a].Sublist m) (nd : ∀ o ∈ ls, o.Nodup) : merge ls = none := by
  cases h : merge ls with
  | none => rfl
  | some o =>
    exfalso
    have hn := (merge_has _ ls o (Nat.le_refl _) h nd).1
    have s1 := h1.trans (merge_sub _ ls o (Nat.le_refl _) h l hl)
    have s2 := h2.trans (merge_sub _ ls o (Nat.le_refl _) h m hm)
    have key : ∀ o : List α, o.Nodup → [a, b].Sublist o → [b, a].Sublist o → False := by
      intro o
      induction o with
      | nil => intro _ s1; cases s1
      | cons x r ih =>
        intro hn s1 s2
        have hx := (List.nodup_cons.mp hn).1
        cases s1 with
        | cons _ s1 =>
          cases s2 with
          | cons _ s2 => exact ih (List.nodup_cons.mp hn).2 s1 s2
          | cons_cons _ s2 => exact hx (s1.subset (by simp))
        | cons_cons _ s1 =>
          cases s2 with
          | cons _ s2 => exact hx (s2.subset (by simp))
          | cons_cons _ s2 => exact hx (s1.subset (by simp))
    exact key o hn s1 s2
theorem mapM_mem {f : α → Option (List α)} : ∀ {es : List α} {ls : List (List α)}, es.mapM f = some ls → ∀ e ∈ es, ∃ o ∈ ls, f e = some o
  | [], _, _, e, he => nomatch he
  | a :: es, ls, h, e, he => by
    rw [List.mapM_cons] at h
    cases ha : f a with
    | none => rw [ha] at h; cases h
    | some o =>
      cases hm : es.mapM f with
      | none => rw [ha, hm] at h; cases h
      | some r =>
        rw [ha, hm] at h
        cases h
        rcases List.mem_cons.mp he with q | q
        · subst q
          exact ⟨o, List.mem_cons_self, ha⟩
        · obtain ⟨o', h1, h2⟩ := mapM_mem hm e q
          exact ⟨o', List.mem_cons_of_mem _ h1, h2⟩
theorem orderBy_lack {t e : α} {es : List α} {f : α → Option (List α)} (he : e ∈ es) (hf : f e = none) : orderBy t es f = none := by
  unfold orderBy
  split
  · cases hm : es.mapM f with
    | none => rfl
    | some ls =>
      obtain ⟨o, _, h⟩ := mapM_mem hm e he
      rw [hf] at h
      cases h
  · rfl
theorem orderBy_twice {t : α} {es : List α} {f : α → Option (List α)} (h : ¬ es.Nodup) : orderBy t es f = none := by
  unfold orderBy
  rw [if_neg h]
/-- the elders' orders, or the elders' list itself, stand against one another -/
theorem orderBy_clash {t a b : α} {es l m : List α} {f : α → Option (List α)} (hl : l = es ∨ ∃ e ∈ es, f e = some l) (hm : m = es ∨ ∃ e ∈ es, f e = some m) (h1 : [a, b].Sublist l) (h2 : [b, a].Sublist m) (nd : ∀ e ∈ es, ∀ o, f e = some o → o.Nodup) : orderBy t es f = none := by
  unfold orderBy
  split
  · rename_i hnd
    cases hx : es.mapM f with
    | none => rfl
    | some ls =>
      have key : ∀ l, (l = es ∨ ∃ e ∈ es, f e = some l) → l ∈ ls ++ [es] := fun l h => by
        rcases h with h | ⟨e, he, hf⟩
        · rw [h]; simp
        · obtain ⟨o, h1, h2⟩ := mapM_mem hx e he
          rw [hf] at h2
          cases h2
          exact List.mem_append_left _ h1
      rw [Option.bind_some, merge_clash (key l hl) (key m hm) h1 h2 fun o ho => ?_]
      · rfl
      · rcases List.mem_append.mp ho with q | q
        · obtain ⟨e, he, hf⟩ := (mapM_some hx).2 o q
          exact nd e he o hf
        · rw [List.mem_singleton.mp q]
          exact hnd
  · rfl
/-- one elder alone -/
theorem orderBy_one {t e : α} {f : α → Option (List α)} {r : List α} (hf : f e = some (e :: r)) (nd : (e :: r).Nodup) : orderBy t [e] f = some (t :: e :: r) := by
  unfold orderBy
  rw [if_pos (by simp)]
  have : ([e] : List α).mapM f = some [e :: r] := by
    rw [List.mapM_cons, hf]
    rfl
  rw [this, Option.bind_some]
  show (merge [e :: r, [e]]).map _ = _
  rw [merge_first (e :: r) [[e]] nd fun o ho => by
    rw [List.mem_singleton.mp ho]
    exact List.Sublist.cons_cons _ (List.nil_sublist _)]
  rfl
theorem orderBy_nil {t : α} {f : α → Option (List α)} : orderBy t [] f = some [t] := by
  unfold orderBy
  rw [if_pos (by simp)]
  show (merge ([[]] : List (List α))).map _ = _
  rw [merge_done (by rfl)]
  rfl
/-! ### orders as titles are added -/
def OO (ts : List α) (es : List (List α)) : α → Option (List α) := O (EF ts es) (rk ts)
theorem OO_eq {ts : List α} {es : List (List α)} (S : Sch ts es) (x : α) : OO ts es x = orderBy x (EF ts es x) (OO ts es) := O_eq (EF_rank S) x
theorem rk_snoc {x y : α} : ∀ {ts : List α}, y ∈ ts → rk (ts ++ [x]) y = rk ts y
  | [], h => nomatch h
  | a :: ts, h => by
    show (if a = y then 0 else rk (ts ++ [x]) y + 1) = (if a = y then 0 else rk ts y + 1)
    by_cases e : a = y
    · rw [if_pos e, if_pos e]
    · rw [if_neg e, if_neg e, rk_snoc ((List.mem_cons.mp h).resolve_left (fun z => e z.symm))]
theorem rk_mem_lt {y : α} : ∀ {ts : List α}, y ∈ ts → rk ts y < ts.length
  | [], h => nomatch h
  | a :: ts, h => by
    show (if a = y then 0 else rk ts y + 1) < ts.length + 1
    by_cases e : a = y
    · rw [if_pos e]; omega
    · rw [if_neg e]
      have := rk_mem_lt ((List.mem_cons.mp h).resolve_left (fun z => e z.symm))
      omega
theorem EF_snoc {ts : List α} {es : List (List α)} (S : Sch ts es) {x y : α} {l : List α} (hy : y ∈ ts) : EF (ts ++ [x]) (es ++ [l]) y = EF ts es y := by
  unfold EF
  rw [rk_snoc hy, List.getD_eq_getElem?_getD, List.getD_eq_getElem?_getD, List.getElem?_append_left (by rw [S.len]; exact rk_mem_lt hy)]
theorem OO_old {ts : List α} {es : List (List α)} (S : Sch ts es) {x : α} {l : List α} (hx : x ∉ ts) (hl : ∀ e ∈ l, e ∈ ts) : ∀ (n : Nat) (y : α), rk ts y ≤ n → y ∈ ts → OO (ts ++ [x]) (es ++ [l]) y = OO ts es y := by
  intro n
  induction n with
  | zero =>
    intro y hn hy
    rw [OO_eq (S.snoc hx hl) y, OO_eq S y, EF_snoc S hy]
    refine orderBy_congr fun e he => ?_
    have := EF_rank S y e he
    omega
  | succ n ih =>
    intro y hn hy
    rw [OO_eq (S.snoc hx hl) y, OO_eq S y, EF_snoc S hy]
    refine orderBy_congr fun e he => ih e ?_ (EF_sub S y e he)
    have := EF_rank S y e he
    omega
theorem OO_new {ts : List α} {es : List (List α)} (S : Sch ts es) {x : α} {l : List α} (hx : x ∉ ts) (hl : ∀ e ∈ l, e ∈ ts) : OO (ts ++ [x]) (es ++ [l]) x = orderBy x l (OO ts es) := by
  rw [OO_eq (S.snoc hx hl) x, EF_at (S.snoc hx hl) (j := ts.length) (l := l) (by simp) (by rw [← S.len]; simp)]
  exact orderBy_congr fun e he => OO_old S hx hl _ e (Nat.le_refl _) (hl e he)
theorem OO_nd {ts : List α} {es : List (List α)} (S : Sch ts es) {x : α} (hx : x ∈ ts) {l : List α} (h : OO ts es x = some l) : l.Nodup ∧ l.head? = some x := by
  refine ⟨(O_has (U := ts) (EF_rank S) (fun t _ => EF_sub S t) _ x (Nat.le_refl _) hx l h).1, ?_⟩
  have := OO_eq S x
  rw [h] at this
  unfold orderBy at this
  split at this
  · cases hm : (EF ts es x).mapM (OO ts es) with
    | none => rw [hm] at this; cases this
    | some ls =>
      rw [hm, Option.bind_some] at this
      cases hr : merge (ls ++ [EF ts es x]) with
      | none => rw [hr] at this; cases this
      | some r =>
        rw [hr] at this
        cases this
        rfl
  · cases this
/-- titles of at most one elder each have orders -/
theorem OO_chain {ts : List α} {es : List (List α)} (S : Sch ts es) (h1 : ∀ l ∈ es, l.length ≤ 1) : ∀ (n : Nat) (y : α), rk ts y ≤ n → y ∈ ts → ∃ o, OO ts es y = some o := by
  intro n
  induction n with
  | zero =>
    intro y hn hy
    rw [OO_eq S y]
    have : EF ts es y = [] := by
      cases he : EF ts es y with
      | nil => rfl
      | cons a r =>
        have := EF_rank S y a (by rw [he]; exact List.mem_cons_self)
        omega
    rw [this]
    exact ⟨_, orderBy_nil⟩
  | succ n ih =>
    intro y hn hy
    rw [OO_eq S y]
    cases he : EF ts es y with
    | nil => exact ⟨_, orderBy_nil⟩
    | cons a r =>
      have hr : r = [] := by
        obtain ⟨l, hl, h2⟩ := EF_get S (x := y) (e := a) (by rw [he]; exact List.mem_cons_self)
        have := h1 l (List.mem_of_getElem? hl)
        rw [← h2, he] at this
        cases r with
        | nil => rfl
        | cons _ _ => simp at this
      subst hr
      have ha : a ∈ ts := EF_sub S y a (by rw [he]; exact List.mem_cons_self)
      have hra := EF_rank S y a (by rw [he]; exact List.mem_cons_self)
      obtain ⟨o, ho⟩ := ih a (by omega) ha
      obtain ⟨nd, hh⟩ := OO_nd S ha ho
      cases o with
      | nil => cases hh
      | cons b r =>
        cases hh
        exact ⟨_, orderBy_one ho nd⟩
end
end EM

set_option linter.all false
/-! what an order keeps of all orders below it; places -/
namespace EM
section
variable {α : Type} [DecidableEq α]
theorem orderBy_some {t : α} {es l : List α} {f : α → Option (List α)} (h : orderBy t es f = some l) : es.Nodup ∧ ∃ ls r, es.mapM f = some ls ∧ merge (ls ++ [es]) = some r ∧ l = t :: r := by
  unfold orderBy at h
  split at h
  · rename_i nd
    refine ⟨nd, ?_⟩
    cases hm : es.mapM f with
    | none => rw [hm] at h; cases h
    | some ls =>
      rw [hm, Option.bind_some] at h
      cases hr : merge (ls ++ [es]) with
      | none => rw [hr] at h; cases h
      | some r =>
        rw [hr] at h
        cases h
        exact ⟨ls, r, rfl, hr, rfl⟩
  · cases h
/-- the same of what was merged: each of the order's titles has its elders, its own order and itself ahead of them in it -/
theorem OO_keeps {ts : List α} {es : List (List α)} (S : Sch ts es) : ∀ (n : Nat) (x : α), rk ts x ≤ n → x ∈ ts → ∀ l, OO ts es x = some l →
    ∀ y ∈ l, y ∈ ts ∧ (EF ts es y).Sublist l ∧ (∃ m, OO ts es y = some m ∧ m.Sublist l) ∧ (∀ e ∈ EF ts es y, [y, e].Sublist l) ∧ ∀ C : List α, x ∈ C → (∀ z ∈ C, ∀ e ∈ EF ts es z, e ∈ C) → y ∈ C := by
  intro n
  induction n with
  | zero =>
    intro x hn hx l hl y hy
    have he : EF ts es x = [] := by
      cases he : EF ts es x with
      | nil => rfl
      | cons a r =>
        have := EF_rank S x a (by rw [he]; exact List.mem_cons_self)
        omega
    have hl' := hl
    rw [OO_eq S x, he, orderBy_nil] at hl'
    cases hl'
    rw [List.mem_singleton.mp hy]
    refine ⟨hx, by rw [he]; exact List.nil_sublist _, ⟨_, hl, List.Sublist.refl _⟩, fun e h => ?_, fun C h _ => h⟩
    rw [he] at h
    cases h
  | succ n ih =>
    intro x hn hx l hl y hy
    have hl' := hl
    rw [OO_eq S x] at hl'
    obtain ⟨nd, ls, r, hm, hr, rfl⟩ := orderBy_some hl'
    have sub := merge_sub _ _ r (Nat.le_refl _) hr
    have hE : (EF ts es x).Sublist r := sub _ (by simp)
    have hls : ∀ o ∈ ls, ∃ e ∈ EF ts es x, OO ts es e = some o := (mapM_some hm).2
    have ndl : ∀ o ∈ ls ++ [EF ts es x], o.Nodup := fun o ho => by
      rcases List.mem_append.mp ho with q | q
      · obtain ⟨e, he, h⟩ := hls o q
        exact (OO_nd S (EF_sub S x e he) h).1
      · rw [List.mem_singleton.mp q]
        exact nd
    rcases List.mem_cons.mp hy with q | q
    · subst q
      exact ⟨hx, List.Sublist.cons _ hE, ⟨_, hl, List.Sublist.refl _⟩, fun e he => List.Sublist.cons_cons _ (List.singleton_sublist.mpr (hE.subset he)), fun C h _ => h⟩
    · have key : ∀ o ∈ ls, y ∈ o → y ∈ ts ∧ (EF ts es y).Sublist (x :: r) ∧ (∃ m, OO ts es y = some m ∧ m.Sublist (x :: r)) ∧ (∀ e ∈ EF ts es y, [y, e].Sublist (x :: r)) ∧ ∀ C : List α, x ∈ C → (∀ z ∈ C, ∀ e ∈ EF ts es z, e ∈ C) → y ∈ C := fun o ho hyo => by
        obtain ⟨e, he, h⟩ := hls o ho
        have hrk := EF_rank S x e he
        obtain ⟨a, b, ⟨m, c1, c2⟩, d, f⟩ := ih e (by omega) (EF_sub S x e he) o h y hyo
        have ho' : o.Sublist (x :: r) := List.Sublist.cons _ (sub o (List.mem_append_left _ ho))
        exact ⟨a, b.trans ho', ⟨m, c1, c2.trans ho'⟩, fun e h => (d e h).trans ho', fun C hC h => f C (h x hC e he) h⟩
      obtain ⟨o, ho, hyo⟩ := ((merge_has _ _ r (Nat.le_refl _) hr ndl).2 y).mp q
      rcases List.mem_append.mp ho with z | z
      · exact key o z hyo
      · rw [List.mem_singleton.mp z] at hyo
        obtain ⟨m, hmm, hf⟩ := mapM_mem hm y hyo
        have := (OO_nd S (EF_sub S x y hyo) hf).2
        exact key m hmm (List.mem_of_mem_head? this)
theorem OO_self {ts : List α} {es : List (List α)} (S : Sch ts es) {x : α} (hx : x ∈ ts) {l : List α} (h : OO ts es x = some l) : x ∈ l := List.mem_of_mem_head? (OO_nd S hx h).2
/-! ### places -/
theorem rk_get : ∀ {l : List α} {x : α}, x ∈ l → l[rk l x]? = some x
  | [], _, h => nomatch h
  | a :: l, x, h => by
    show (a :: l)[if a = x then 0 else rk l x + 1]? = some x
    by_cases e : a = x
    · rw [if_pos e, e]
      rfl
    · rw [if_neg e]
      exact rk_get ((List.mem_cons.mp h).resolve_left (fun z => e z.symm))
theorem rk_first {l : List α} {x : α} {m : Nat} {y : α} (h : m < rk l x) (hy : l[m]? = some y) : y ≠ x := by
  induction l generalizing m with
  | nil => cases h
  | cons a l ih =>
    have h' : m < if a = x then 0 else rk l x + 1 := h
    by_cases e : a = x
    · rw [if_pos e] at h'
      omega
    · rw [if_neg e] at h'
      cases m with
      | zero =>
        cases hy
        exact e
      | succ m => exact ih (m := m) (by omega) hy
theorem map_rk {l : List α} (nd : l.Nodup) : l.map (rk l) = List.range l.length := by
  apply List.ext_getElem?
  intro j
  by_cases h : j < l.length
  · rw [List.getElem?_map, List.getElem?_range h, List.getElem?_eq_getElem h]
    exact congrArg some (rk_at nd (List.getElem?_eq_getElem h))
  · rw [List.getElem?_eq_none (by simp; omega), List.getElem?_eq_none (by simp; omega)]
theorem rk_sub {l r : List α} (nd : l.Nodup) (h : r.Sublist l) : (r.map (rk l)).Pairwise (· < ·) := by
  have h1 := h.map (rk l)
  rw [map_rk nd] at h1
  exact List.pairwise_lt_range.sublist h1
theorem rk_two {l : List α} (nd : l.Nodup) {a b : α} (h : [a, b].Sublist l) : rk l a < rk l b := by
  have := rk_sub nd h
  simpa using this
end
end EM

set_option Elab.async false
set_option linter.all false
set_option maxRecDepth 100000
/-! len(set(xs)), xs a list of texts, any of them alike -/
namespace ST
open PySem PySem.Spec PyProof.Rows
section
variable {κ : Type} [DecidableEq κ]
/-- how many unlike ones are among the first i -/
def cnt (ks : List κ) : Nat → Nat
  | 0 => 0
  | i + 1 => match ks[i]? with
    | none => cnt ks i
    | some k => if k ∈ ks.take i then cnt ks i else cnt ks i + 1
theorem cnt_le (ks : List κ) : ∀ i, cnt ks i ≤ i
  | 0 => Nat.le_refl _
  | i + 1 => by
    have h := cnt_le ks i
    unfold cnt
    split
    · omega
    · split <;> omega
theorem cnt_full (ks : List κ) : ∀ i, i ≤ ks.length → (cnt ks i = i ↔ (ks.take i).Nodup)
  | 0, _ => by simp [cnt]
  | i + 1, h => by
    have ih := cnt_full ks i (by omega)
    have hl := cnt_le ks i
    have hk : ks[i]? = some ks[i] := List.getElem?_eq_getElem (by omega)
    have ht : ks.take (i + 1) = ks.take i ++ [ks[i]] := by rw [List.take_add_one, hk]; rfl
    have hc : cnt ks (i + 1) = if ks[i] ∈ ks.take i then cnt ks i else cnt ks i + 1 := by
      show (match ks[i]? with | none => cnt ks i | some k => if k ∈ ks.take i then cnt ks i else cnt ks i + 1) = _
      rw [hk]
    rw [hc, ht, List.nodup_append]
    by_cases hm : ks[i] ∈ ks.take i
    · rw [if_pos hm]
      constructor
      · intro e; omega
      · rintro ⟨_, _, q⟩
        exact absurd rfl (q _ hm _ (List.mem_singleton.mpr rfl))
    · rw [if_neg hm]
      constructor
      · intro e
        refine ⟨ih.mp (by omega), by simp, fun a ha b hb => ?_⟩
        rw [List.mem_singleton] at hb
        subst hb
        exact fun q => hm (q ▸ ha)
      · rintro ⟨q, _, _⟩
        have := ih.mpr q
        omega
end
section
variable {prog : Program} {w : World} {A : Around} {R : Result → Shared → Prop} {I S : Addr} {fp wr : List Addr} {G : Array GenState → Array GenState → Prop} {n : Nat} {P : Nat → Value → Prop} {St : Nat → Shared → Prop}
  {κ : Type} [DecidableEq κ] {knd : PySem.KeyKind prog w κ}
theorem setOf_kept {h h' : Heap} {f : κ → Bool} {m : Nat} (x : h.SetOf knd S f m) (k : ∀ o, h.get? S = some o → h'.get? S = some o) : h'.SetOf knd S f m :=
  let ⟨o, es, ep, t, ho, r⟩ := x
  ⟨o, es, ep, t, k o ho, r⟩
theorem fill (W : WalksS prog w A.in1 I fp wr G n P St) (ks : List κ) (hout : S ∉ fp) (hn : ks.length = n) (hroom : n + 1 < scanBound)
    (hval : ∀ i v, P i v → ∃ k, ks[i]? = some k ∧ knd.is k v = true ∧ v.scannable = true) :
    ∀ (d i : Nat) (s : Shared), i + d = n → St i s → s.heap.SetOf knd S (fun k => decide (k ∈ ks.take i)) (cnt ks i) →
      (∀ s', Moved (S :: wr) G s s' → s'.heap.SetOf knd S (fun k => decide (k ∈ ks.take n)) (cnt ks n) → R (.ok (.ret .none)) s') →
      codeAny (model prog w) A (.builtin "set.update.loop" ⟨[.ref S, .ref I], []⟩) R s
  | 0, i, s, hd, hst, hS, hR => by
    obtain rfl : i = n := hd
    have hw : S ∉ wr := fun q => hout (W.sub S q)
    refine codeAny_builtin PyProof.Rows.F.entry_set_update_loop ?_
    rw [Around.under_plainId PyProof.Rows.F.plain_set_update_loop]
    refine wpAny_bind (W.done s _ _ hst fun s' hm => wpAny_pure (hR s' ?_ (setOf_kept hS fun o e => hm.heap S o hw e)))
    exact hm.mono fun b q => List.mem_cons_of_mem S q
  | d + 1, i, s, hd, hst, hS, hR => by
    have hw : S ∉ wr := fun q => hout (W.sub S q)
    have hc := cnt_le ks i
    refine codeAny_builtin PyProof.Rows.F.entry_set_update_loop ?_
    rw [Around.under_plainId PyProof.Rows.F.plain_set_update_loop]
    refine wpAny_bind (W.item i s _ _ (by omega) hst fun v s' hP hst' hm => ?_)
    obtain ⟨k, hk, his, hsc⟩ := hval i v hP
    have hS' := setOf_kept (h' := s'.heap) hS fun o e => hm.heap S o hw e
    refine wpAny_bind (wpAny_holding ?_)
    unfold setAdd
    refine wpAny_holding (wpAny_bind (knd.pyHash his ?_))
    refine wpAny_setAddHashed_of (s := { s' with toks := s'.toks + 1 }) his hsc hS' (by omega) fun h' same new => ?_
    have e1 : ks.take (i + 1) = ks.take i ++ [k] := by rw [List.take_add_one, hk]; rfl
    have e2 : cnt ks (i + 1) = if k ∈ ks.take i then cnt ks i else cnt ks i + 1 := by
      show (match ks[i]? with | none => cnt ks i | some k => if k ∈ ks.take i then cnt ks i else cnt ks i + 1) = _
      rw [hk]
    have new' : h'.SetOf knd S (fun j => decide (j ∈ ks.take (i + 1))) (cnt ks (i + 1)) := by
      have ef : (fun j => decide (j ∈ ks.take i) || decide (j = k)) = fun j => decide (j ∈ ks.take (i + 1)) := by
        funext j
        rw [e1]
        simp [List.mem_append, Bool.decide_or]
      have en : (if decide (k ∈ ks.take i) = true then cnt ks i else cnt ks i + 1) = cnt ks (i + 1) := by
        rw [e2]
        by_cases q : k ∈ ks.take i
        · simp [q]
        · simp [q]
      rw [← ef, ← en]
      exact new
    have away : ∀ b, b ≠ S → ∀ o, s'.heap.get? b = some o → h'.get? b = some o := fun b hb o e => by rw [same.2 b hb]; exact e
    refine wpAny_pure ⟨plainId_quiet PyProof.Rows.F.plain_set_update_loop _, fill W ks hout hn hroom hval d (i + 1) _ (by omega) (W.frame _ s' _ _ hst' (Nat.le_succ _) fun b hb o e => away b (fun q => hout (q ▸ hb)) o e) new' fun s2 hm2 hS2 => hR s2 ?_ hS2⟩
    refine Moved.trans W.gtrans ((hm.mono fun b q => List.mem_cons_of_mem S q).then_heap (Nat.le_succ _) fun b o hb e => away b (fun q => hb (q ▸ List.mem_cons_self)) o e) hm2
end
section
variable {prog : Program} {w : World} {A : Around} {E : Value → Shared → Prop} {s : Shared}
/-- T(..) by its new and its init, the init's own look given -/
theorem made_by {T nw ini : String} {Bi : Builtin} {vs : List Value} {Q Q1 : Value → Shared → Prop} (tc : TypeCalled T nw ini) (look : checkTypeCall T ⟨vs, []⟩ = pure ()) (en : entryFor table ini = some Bi)
    (new : codeAny (model prog w) A.in1 (.call (.builtin nw) ⟨.type T :: vs, []⟩) (wants Q1 E) s)
    (then_ : ∀ x s1, Q1 x s1 → s1.TypeIs x T ∧
      wpAny (model prog w) A.in1.in1 (checkBuiltinCall ini ⟨x :: vs, []⟩) (fun _ s1' => wpAny (model prog w) A.in1.in1 (Bi ⟨x :: vs, []⟩)
        (fun fin s' => match fin with | .done f => wants (fun r s2 => r = .none ∧ Q x s2) E (.ok f) s' | .again c => c.quiet = true ∧ codeAny (model prog w) A.in1 c (wants (fun r s2 => r = .none ∧ Q x s2) E) s')
        (fun e s' => wants (fun r s2 => r = .none ∧ Q x s2) E (.error e) s') s1') (fun e s' => wants (fun r s2 => r = .none ∧ Q x s2) E (.error e) s') s1) :
    wpAny (model prog w) A (call (.type T) vs) Q E s := by
  have a1 := tc.made
  have a2 := tc.sub
  have a3 := tc.notType
  have a4 := tc.canCreate
  obtain ⟨_, _, a5⟩ := tc.mro
  refine wpAny_call (codeAny_of_tree (show wpAny _ _ (callAny (.type T) _) _ _ _ from wpAny_pure ⟨Code.quiet_builtin _ (by decide +kernel), codeAny_builtin PySem.F.entry_type_call ?_⟩))
  rw [Around.under_plain (weight_type_call_type T vs []) rfl]
  repeat (any_goals (first | assumption | wp_step))
  refine codeAny_mono new fun r s1 hr => ?_
  match r, hr with
  | .error e, hr => exact hr
  | .ok (.ret x), hr =>
    obtain ⟨hT, hi⟩ := then_ x s1 hr
    have b1 := tc.init.lookup
    have b2 := tc.init.bind x
    repeat (any_goals (first | assumption | wp_step))
    refine codeAny_mono (codeAny_call_builtin tc.init.plain en hi) fun r2 s2 hr2 => ?_
    match r2, hr2 with
    | .error e, hr2 => exact hr2
    | .ok (.ret y), hr2 =>
      obtain ⟨rfl, q⟩ := hr2
      repeat (any_goals (first | assumption | wp_step))
theorem isList_at {h h' : Heap} {l : Addr} {items : Array Value} (x : h.IsList l items) (k : ∀ o, h.get? l = some o → h'.get? l = some o) : h'.IsList l items :=
  let ⟨o, e, r⟩ := x
  ⟨o, k o e, r⟩
/-- the set of a list's texts -/
theorem set_texts {l : Addr} {items : Array Value} {xs : List Str} {Q : Value → Shared → Prop} (hh : A.handled = none) (hl : s.heap.IsList l items) (hi : StrsAre items.toList xs) (hroom : xs.length + 1 < scanBound)
    (h : ∀ (h' : Heap) (tk : Nat), h'.SetOf (PySem.strKind prog w) s.heap.objs.size (fun k => decide (k ∈ xs.take items.size)) (cnt xs items.size) → (∀ b o, s.heap.get? b = some o → h'.get? b = some o) →
      Q (.ref s.heap.objs.size) { s with heap := h', toks := tk }) : wpAny (model prog w) A (call (.type "set") [.ref l]) Q E s := by
  refine made_by (Q1 := fun x s1 => ∃ led : Bool, x = .ref s.heap.objs.size ∧ s1 = { s with heap := s.heap.push { cls := .type "set", dict := none, data := .set #[] 0 (.fresh 0 0 led) } })
    PySem.F.called_set (PySem.F.typeCall_set_1 (.ref l)) PySem.F.entry_set_init (code_set_new_1 (.ref l) fun led => ⟨led, rfl, rfl⟩) ?_
  rintro x s1 ⟨led, rfl, rfl⟩
  have n1 : (s.heap.push { cls := .type "set", dict := none, data := .set #[] 0 (.fresh 0 0 led) }).get? s.heap.objs.size = some { cls := .type "set", dict := none, data := .set #[] 0 (.fresh 0 0 led) } := Heap.get?_push_size _ rfl
  have ty : Shared.TypeIs { s with heap := s.heap.push { cls := .type "set", dict := none, data := .set #[] 0 (.fresh 0 0 led) } } (.ref s.heap.objs.size) "set" := ⟨_, n1, rfl⟩
  refine ⟨ty, check_set_init_1 ty ?_⟩
  have hl1 : (s.heap.push { cls := .type "set", dict := none, data := .set #[] 0 (.fresh 0 0 led) }).IsList l items := isList_at hl fun o e => Heap.get?_push_of_some _ e
  have hlt : l < s.heap.objs.size := let ⟨o, e, _⟩ := hl; Heap.lt_size e
  have hsz : xs.length = items.size := by rw [← StrsAre.len_eq hi, Array.length_toList]
  obtain ⟨ol, hol, hcl, nl, hdl⟩ := id hl1
  obtain ⟨c1, c2, c3, c4⟩ := ol
  simp only at hcl hdl
  subst hcl
  subst hdl
  have f1 := PySem.F.sub_list_set
  have f2 := PySem.F.sub_list_frozenset
  have f3 : (Value.type "list" == Value.type "dict") = false := by decide
  unfold Builtin.«set.__init__» noKeywords Builtin.Frozenset.updateFrom
  generalize hit : pyIter = it
  wp_walk
  subst hit
  refine wpAny_pyIter_list hl1 (wpAny_bind (wpAny_runValue ?_))
  have hne : l ≠ (s.heap.push { cls := .type "set", dict := none, data := .set #[] 0 (.fresh 0 0 led) }).objs.size := by rw [Heap.size_push]; exact Nat.ne_of_lt (Nat.lt_succ_of_lt hlt)
  have hout : s.heap.objs.size ∉ [(s.heap.push { cls := .type "set", dict := none, data := .set #[] 0 (.fresh 0 0 led) }).objs.size, l] := by
    rw [Heap.size_push]
    intro q
    rcases List.mem_cons.mp q with q | q
    · exact absurd q (Nat.ne_of_lt (Nat.lt_succ_self _))
    · exact absurd (List.mem_singleton.mp q) (Nat.ne_of_gt hlt)
  refine fill (knd := PySem.strKind prog w) ((Walks.list (by simp [hh]) _ l hne items).toS) xs hout hsz (by omega) (fun i v hv => ?_) items.size 0 _ (Nat.zero_add _) ⟨⟨_, Heap.get?_push_size _ rfl, rfl, rfl⟩, hl1.push _⟩ ?_ ?_
  · obtain ⟨t, rfl⟩ := SS.strs_at hi i v (by rw [Array.getElem?_toList]; exact hv)
    have hilt : i < xs.length := by rw [hsz]; exact (Array.getElem?_eq_some_iff.mp hv).1
    refine ⟨xs.getD i Str.empty, ?_, strKind_is _ _ _ _, rfl⟩
    rw [List.getD_eq_getElem?_getD, List.getElem?_eq_getElem hilt]
    rfl
  · have e0 : (fun k => decide (k ∈ xs.take 0)) = (fun _ => false : Str → Bool) := by funext k; simp
    rw [e0]
    exact (PyProof.Rows.setObjOf_fresh (knd := PySem.strKind prog w) led).setOf (Heap.get?_push_of_some _ n1) (by unfold scanBound; omega)
  · rintro ⟨h', g', d', tk', os'⟩ hm hS'
    have z1 : g' = s.gens := hm.gens
    have z2 : d' = s.drawn := hm.drawn
    have z3 : os' = s.os := hm.os
    subst z1 z2 z3
    refine wpAny_pure (wpAny_pure ⟨rfl, h h' tk' hS' fun b o e => ?_⟩)
    have hb := Heap.lt_size e
    refine hm.heap b o (fun q => ?_) (Heap.get?_push_of_some _ (Heap.get?_push_of_some _ e))
    rcases List.mem_cons.mp q with q | q
    · exact absurd q (Nat.ne_of_lt hb)
    · rw [List.mem_singleton, Heap.size_push] at q
      exact absurd q (Nat.ne_of_lt (Nat.lt_succ_of_lt hb))
end
end ST
namespace L2
open PySem PySem.Spec PyProof.Rows
/-- len(set(xs)), xs a list of texts -/
def tLenSetS (K : PySem.W.Frag) (ta : TE) : TE := fun σ H Q => ta σ H fun x H1 => ∃ (l : Addr) (xs : List Str), x = .ref l ∧ SqL K H1 l (xs.map V.str) ∧ xs.length ≤ 1000 ∧ ∀ n : Nat, n ≤ xs.length → (n = xs.length ↔ xs.Nodup) → Q (.int n) H1
theorem pe_lenSetS {X : Cx} {K : PySem.W.Frag} {a : Expr} {ta : TE} {p p2 q pos : Pos} (hc : X.calm = true) (hg : Gl X "len") (hm : X.mg "len" = none) (hg2 : Gl X "set") (hm2 : X.mg "set" = none) (ha : PE X a ta)
    (na : starEach [a] X.env = (false, eval a X.env) :: starEach [] X.env := by rfl) (hK : X.K = K := by rfl) : PE X (.Call (.Name "len" p) [.Call (.Name "set" p2) [a] [] q] [] pos) (tLenSetS K ta) := by
  subst hK
  refine ⟨fun pins s σ H Q I h => Call_ (ld_blt I hg hm boot_len (PyProof.Rows.callWith_builtin1 (PyProof.Rows.args_cons (Call_ (ld_blt I hg2 hm2 boot_set ?_)) rfl) rfl rfl))⟩
  refine PyProof.Rows.callWith_type1 (PyProof.Rows.args_cons (thn (ha.run pins s σ H _ I h) fun v s1 ⟨x, H1, I1, r1, l, xs, ex, hS, hz, k⟩ => PyProof.Rows.args_nil ?_) na) na rfl
  subst ex
  cases r1
  obtain ⟨its, r, pl, _⟩ := I1.list hS
  have hlen : its.toArray.size = xs.length := by rw [List.size_toArray, ← r.length, List.length_map]
  refine ST.set_texts (I1.ok.hd hc) pl.isList (by simpa using strsAre_of r) (by unfold scanBound; omega) fun h' tk hS' hk => PyProof.Rows.args_nil ?_
  rw [hlen] at hS'
  obtain ⟨o, es, ep, t, ho, hex, hd, _, _, _, hf, hn⟩ := hS'
  have I2 : Inv X pins σ H1 { s1 with heap := h', toks := tk } := I1.kept hk
  have hle := ST.cnt_le xs xs.length
  refine call_len_set ho hex hd hf (by rw [hn]; omega) ⟨.int (ST.cnt xs xs.length : Nat), H1, I2.tok _, ⟨_, by rw [hn]⟩, k _ hle ?_⟩
  have := ST.cnt_full xs xs.length (Nat.le_refl _)
  rwa [List.take_of_length_le (Nat.le_refl _)] at this
end L2

set_option Elab.async false
set_option linter.all false
set_option maxRecDepth 100000
namespace EX
open PySem L2 Evl

/-! ### a def with its promise, ready to be called -/
structure Def (P : Program) (w : World) (K : PySem.W.Frag) (mg : Str → Option Value) (base : Heap) (k : Nat) (x : Str) (ps : List Str) (sp : Sp) : Prop where
  ex : ∃ (f : Addr) (fd : FuncData), FnOk P w K mg base CX0 k f fd ps sp ∧ mg x = some (.ref f) ∧ PySem.W.keepIn K (.ref f) = true ∧ Binds K fd ps []
theorem pe_def {X : Cx} {k : Nat} {x : Str} {ps : List Str} {sp : Sp} {p pos : Pos} {e : Expr} {es : List Expr} {t : TA} (h : Def X.prog X.w X.K X.mg X.base k x ps sp) (hr : Room k X.A) (hg : Gl X x) (ha : PA X (e :: es) t)
    (hdb : (x == ("__debug__" : Str)) = false := by decide) (he : starEach (e :: es) X.env = (false, eval e X.env) :: starEach es X.env := by rfl) (hpl : (backTo pos (starEach es X.env)).any (·.1) = false := by rfl) :
    PE X (.Call (.Name x p) (e :: es) [] pos) (tCall sp [] E0 t) := by
  obtain ⟨f, fd, F, m, kp, b⟩ := h.ex
  exact pe_call F hr hg m kp b .nil pass0 ha hdb he hpl
theorem pe_def0 {X : Cx} {k : Nat} {x : Str} {ps : List Str} {sp : Sp} {p pos : Pos} (h : Def X.prog X.w X.K X.mg X.base k x ps sp) (hr : Room k X.A) (hg : Gl X x)
    (hdb : (x == ("__debug__" : Str)) = false := by decide) : PE X (.Call (.Name x p) [] [] pos) (tCall sp [] E0 tNil) := by
  obtain ⟨f, fd, F, m, kp, b⟩ := h.ex
  exact pe_call0 F hr hg m kp b .nil pass0 hdb

/-! ### rules with the written part named -/
section
variable {X : Cx} {K : PySem.W.Frag}
theorem ixL (h : X.K = K := by rfl) : IxR X (rIxL K) := h ▸ ix_list
theorem ixT (h : X.K = K := by rfl) : IxR X (rIxT K) := h ▸ ix_tup
theorem slL (h : X.K = K := by rfl) : SlR X (rSlL K) := h ▸ sl_list
theorem slT (h : X.K = K := by rfl) : SlR X (rSlT K) := h ▸ sl_tup
theorem opIn (h : X.K = K := by rfl) : OpR X (compareOp .In) (rIn K false) := h ▸ op_in_seq
theorem opNin (h : X.K = K := by rfl) : OpR X (compareOp .NotIn) (rIn K true) := h ▸ op_notIn_seq
theorem opEqD (hu : X.A.units + 64 < cLine) (h : X.K = K := by rfl) : OpR X (compareOp .Eq) (rEqD K) := h ▸ op_eqD hu
theorem opNeD (hu : X.A.units + 64 < cLine) (h : X.K = K := by rfl) : OpR X (compareOp .NotEq) (rNeD K) := h ▸ op_neD hu
theorem opInD (hu : X.A.units + 65 < cLine) (h : X.K = K := by rfl) : OpR X (compareOp .In) (rInD K) := h ▸ op_inD hu
theorem opNinD (hu : X.A.units + 65 < cLine) (h : X.K = K := by rfl) : OpR X (compareOp .NotIn) (rNotInD K) := h ▸ op_notInD hu
theorem crAny (hc : X.calm = true := by rfl) (h : X.K = K := by rfl) : CallR X (.builtin "any") (rAny K) := h ▸ cr_any hc
theorem crAll (hc : X.calm = true := by rfl) (h : X.K = K := by rfl) : CallR X (.builtin "all") (rAll K) := h ▸ cr_all hc
theorem clLen (h : X.K = K := by rfl) : CallR X (.builtin "len") (rLenS K) := h ▸ call_len_seq
theorem clList (h : X.K = K := by rfl) : CallR X (.type "list") (rListS K) := h ▸ call_list_of
def rDictP (K : PySem.W.Frag) : List V → Hp → VK → Prop := fun xs H Q => ∃ (a : Addr) (ps : List Addr) (kvs : List (Key × V)), xs = [.ref a] ∧ SqL K H a (ps.map V.ref) ∧ Paired (fun p kv => SqT K H p [kV kv.1, kv.2]) ps kvs ∧ ∀ p, H p = none → Q (.ref p) (upd H p (.dK (mergeK [] kvs)))
theorem clDictP (hc : X.calm = true := by rfl) (h : X.K = K := by rfl) : CallR X (.type "dict") (rDictP K) := h ▸ call_dictP hc
theorem piL {tg l : Expr} {tl : TE} (hl : PE X l tl) (h : X.K = K := by rfl) : PI X tg l (iList K tl) := h ▸ pi_list hl
theorem piT {tg l : Expr} {tl : TE} (hl : PE X l tl) (h : X.K = K := by rfl) : PI X tg l (iTup K tl) := h ▸ pi_tup hl
theorem peBm {o e : Expr} {es : List Expr} {to : TE} {t : TA} {name : Str} {apos cpos : Pos} {T id : String} {r : V → List V → Hp → VK → Prop} (pa : PlainAttrs T) (slot : Slot T name id) (hty : typeOf (.builtin id) = pure (.type "method_descriptor")) (hm : MtR X id r) (ho : PE X o to) (ha : PA X (e :: es) t)
    (hbase : attributeBase o name X.env (eval o X.env) = eval o X.env := by rfl)
    (hfew : ((backTo cpos (starEach (e :: es) X.env)).all (fun x => !x.1) && (backToKw cpos (keywordEach [] X.env)).all (fun x => x.1.isSome)
      && decide ((e :: es).length + ([] : List Keyword).length + (if ([] : List Keyword).isEmpty then 0 else 1) < 30)) = true := by rfl)
    (hline : (apos.endLine == cpos.line) = true := by rfl) (hs : starEach (e :: es) X.env = (false, eval e X.env) :: starEach es X.env := by rfl) (hplain : (backTo cpos (starEach es X.env)).any (·.1) = false := by rfl) (h : X.K = K := by rfl) :
    PE X (.Call (.Attribute o name apos) (e :: es) [] cpos) (tBM K T r to t) := h ▸ pe_bm pa slot hty hm ho ha hbase hfew hline hs hplain
end
section
variable {X : Cx} {K : PySem.W.Frag}
theorem hu65 {k : Nat} {A : Around} (hr : Room k A) : A.units + 65 < cLine := by have := hr.un; omega
theorem piEnum {e : Expr} {ta : TA} {p pos tpos : Pos} {elts : List Expr} {kk : Nat} (hg : Gl X "enumerate") (hm : X.mg "enumerate" = none) (ha : PA X [e] ta) (hs : starEach [e] X.env = [(false, eval e X.env)] := by rfl) (h : X.K = K := by rfl) :
    PI X (.Tuple elts kk tpos) (.Call (.Name "enumerate" p) [e] [] pos) (iEnum K ta) := h ▸ pi_enum hg hm ha hs
theorem piRev {tg e : Expr} {ta : TA} {p pos : Pos} (hg : Gl X "reversed") (hm : X.mg "reversed" = none) (ha : PA X [e] ta) (hs : starEach [e] X.env = [(false, eval e X.env)] := by rfl) (h : X.K = K := by rfl) :
    PI X tg (.Call (.Name "reversed" p) [e] [] pos) (iRev K ta) := h ▸ pi_reversed hg hm ha hs
end
/-! ### texts among values -/
theorem inV_str (t : Str) : ∀ l : List Str, inV (.str t) (l.map V.str) = decide (t ∈ l)
  | [] => rfl
  | a :: l => by
    have ih := inV_str t l
    unfold inV at ih ⊢
    rw [List.map_cons, List.any_cons, ih]
    show ((a == t) || decide (t ∈ l)) = decide (t ∈ a :: l)
    by_cases e : a = t
    · subst e; simp
    · have h1 : (a == t) = false := by simpa [beq_iff_eq] using e
      have h2 : ¬ t = a := fun q => e q.symm
      rw [h1, Bool.false_or]
      simp [List.mem_cons, h2]
theorem flat_str (l : List Str) : (l.map V.str).all flatV = true := by
  induction l with
  | nil => rfl
  | cons a l ih => rw [List.map_cons, List.all_cons, ih]; rfl
theorem at0 {α : Type} {x : α} {r : List α} : atI (x :: r) 0 = some x := atI_nat (j := 0) rfl
def optS : Option Str → V
  | none => .non
  | some t => .str t
theorem cut1 {xs : List V} : cutV xs (some 1) none = xs.tail := by
  unfold cutV
  rw [HT.sIx_none]
  have h1 : HT.sIx xs.length 0 (some 1) = min 1 xs.length := HT.sIx_nat xs.length 0 1
  rw [h1]
  cases xs with
  | nil => rfl
  | cons a r =>
    have h2 : min 1 (a :: r).length = 1 := by simp
    rw [h2]
    simp
/-! ### readings that evaluate -/
section
variable {K : PySem.W.Frag} {σ : L2.St} {H H' : Hp} {ta tb te : TE}
theorem ev_any {bs : List Bool} (h : EvL te σ H (bs.map V.bl)) : Ev (tCB (rAny K) (tCons te tNil)) σ H (.bl (bs.any id)) := fun H1 e Q q =>
  h H1 e _ fun p H2 _ e2 hp => ⟨p, bs, rfl, sq_of hp, q H2 e2⟩
theorem ev_all {bs : List Bool} (h : EvL te σ H (bs.map V.bl)) : Ev (tCB (rAll K) (tCons te tNil)) σ H (.bl (bs.all id)) := fun H1 e Q q =>
  h H1 e _ fun p H2 _ e2 hp => ⟨p, bs, rfl, sq_of hp, q H2 e2⟩
end
section
variable {K : PySem.W.Frag} {σ : L2.St} {H H' : Hp} {ta tb te : TE} {D : Ends} {x : V}
theorem rv_isN : RV (fun x y H Q => y = .non ∧ Q (.bl (decide (x = .non))) H) x .non H (.bl (decide (x = .non))) := fun H1 _ _ q => ⟨rfl, q H1 (Ex.refl H1)⟩
theorem rv_notN : RV (fun x y H Q => y = .non ∧ Q (.bl (!decide (x = .non))) H) x .non H (.bl (!decide (x = .non))) := fun H1 _ _ q => ⟨rfl, q H1 (Ex.refl H1)⟩
/-- xs.pop(0) as a statement -/
theorem s_pop0 {l : Addr} {y : V} {xs : List V} (hl : H l = some (.lst (y :: xs))) (ha : Ev ta σ H (.ref l)) (h : Ev te σ H (.int 0)) (k : ∀ H1, Ex H H1 → D.nx σ (upd H1 l (.lst xs))) : tDrop (tBM K "list" rPopAt ta (tCons te tNil)) D σ H :=
  ha H (Ex.refl H) _ fun H1 e1 => ⟨Or.inl ⟨rfl, _, sq_of (e1 l _ hl)⟩, h H1 e1 _ fun H2 e2 => ⟨l, y :: xs, 0, 0, y, rfl, rfl, e2 l _ (e1 l _ hl), by decide, by decide, by simp [seqIndex?], rfl, k H2 (e1.trans e2)⟩⟩
end
/-- lists of texts at the addresses that a list holds -/
def Rows (K : PySem.W.Frag) (H : Hp) (ps : List V) (ls : List (List Str)) : Prop :=
  ps.length = ls.length ∧ ∀ (i : Nat) (l : List Str), ls[i]? = some l → ∃ p, ps[i]? = some (.ref p) ∧ SqL K H p (l.map V.str)
theorem Rows.mono {K : PySem.W.Frag} {H H' : Hp} {ps : List V} {ls : List (List Str)} (r : Rows K H ps ls) (e : Ex H H') : Rows K H' ps ls :=
  ⟨r.1, fun i l h => let ⟨p, h1, h2⟩ := r.2 i l h; ⟨p, h1, ex_l e h2⟩⟩
theorem Rows.at {K : PySem.W.Frag} {H : Hp} {ps : List V} {ls : List (List Str)} (r : Rows K H ps ls) {i : Nat} {x : V} (h : ps[i]? = some x) : ∃ p l, x = .ref p ∧ ls[i]? = some l ∧ SqL K H p (l.map V.str) := by
  have hi : i < ls.length := by rw [← r.1]; exact (List.getElem?_eq_some_iff.mp h).1
  obtain ⟨p, h1, h2⟩ := r.2 i ls[i] (List.getElem?_eq_getElem hi)
  rw [h] at h1
  exact ⟨p, ls[i], Option.some.inj h1, List.getElem?_eq_getElem hi, h2⟩
/-! ### more of comprehensions -/
theorem range_getD {α : Type} (rs : List α) (d : α) : (List.range rs.length).map (fun i => rs.getD i d) = rs := by
  apply List.ext_getElem?
  intro j
  by_cases h : j < rs.length
  · rw [List.getElem?_map, List.getElem?_range h, List.getElem?_eq_getElem h]
    show some (rs.getD j d) = _
    rw [List.getD_eq_getElem?_getD, List.getElem?_eq_getElem h]
    rfl
  · rw [List.getElem?_eq_none (by simp; omega), List.getElem?_eq_none (by omega)]
theorem range_filter {α β : Type} (rs : List α) (d : α) (p : α → Bool) (f : α → β) : ((List.range rs.length).filter fun i => p (rs.getD i d)).map (fun i => f (rs.getD i d)) = (rs.filter p).map f := by
  conv => rhs; rw [← range_getD rs d]
  rw [List.filter_map, List.map_map]
  rfl
theorem given_filter {α : Type} (rs : List α) (d : α) (p : α → Bool) (f : α → V) : given rs.length (fun i => p (rs.getD i d)) (fun i => f (rs.getD i d)) = (rs.filter p).map f := range_filter rs d p f
theorem given_map {α : Type} (rs : List α) (d : α) (f : α → V) : given rs.length (fun _ => true) (fun i => f (rs.getD i d)) = rs.map f := by
  have := given_filter rs d (fun _ => true) f
  rwa [List.filter_eq_self.mpr (fun _ _ => rfl)] at this
theorem getD_of {α : Type} {rs : List α} {j : Nat} {x d : α} (h : rs[j]? = some x) : rs.getD j d = x := by
  rw [List.getD_eq_getElem?_getD, h]
  rfl
/-- lists at addresses -/
def LAt (H : Hp) (qs : List Addr) (ls : List (List V)) : Prop := qs.length = ls.length ∧ ∀ (i : Nat) (l : List V), ls[i]? = some l → ∃ q, qs[i]? = some q ∧ H q = some (.lst l)
theorem LAt.mono {H H' : Hp} {qs : List Addr} {ls : List (List V)} (r : LAt H qs ls) (e : ∀ q ∈ qs, ∀ o, H q = some o → H' q = some o) : LAt H' qs ls :=
  ⟨r.1, fun i l h => let ⟨q, h1, h2⟩ := r.2 i l h; ⟨q, h1, e q (List.mem_of_getElem? h1) _ h2⟩⟩
theorem LAt.all {H : Hp} {qs : List Addr} {ls : List (List V)} (r : LAt H qs ls) {q : Addr} (h : q ∈ qs) : ∃ l, H q = some (.lst l) := by
  obtain ⟨i, hi, e⟩ := List.getElem_of_mem h
  have hl : i < ls.length := by rw [← r.1]; exact hi
  obtain ⟨q', h1, h2⟩ := r.2 i ls[i] (List.getElem?_eq_getElem hl)
  rw [List.getElem?_eq_getElem hi, e] at h1
  cases h1
  exact ⟨_, h2⟩
theorem LAt.snoc {H : Hp} {qs : List Addr} {ls : List (List V)} {p : Addr} {l : List V} (r : LAt H qs ls) (h : H p = some (.lst l)) : LAt H (qs ++ [p]) (ls ++ [l]) := by
  refine ⟨by simp [r.1], fun i x hx => ?_⟩
  by_cases hi : i < ls.length
  · rw [List.getElem?_append_left hi] at hx
    obtain ⟨q, h1, h2⟩ := r.2 i x hx
    exact ⟨q, by rw [List.getElem?_append_left (by rw [r.1]; exact hi)]; exact h1, h2⟩
  · rw [List.getElem?_append_right (by omega)] at hx
    have h0 : i - ls.length = 0 := by
      cases hz : i - ls.length with
      | zero => rfl
      | succ n => rw [hz] at hx; simp at hx
    rw [h0] at hx
    simp at hx
    subst hx
    refine ⟨p, ?_, h⟩
    rw [List.getElem?_append_right (by rw [r.1]; omega), r.1, h0]
    rfl
def givenL (n : Nat) (f : Nat → Bool) (v : Nat → List V) : List (List V) := ((List.range n).filter f).map v
theorem givenL_yes {n : Nat} {f : Nat → Bool} {v : Nat → List V} (h : f n = true) : givenL (n + 1) f v = givenL n f v ++ [v n] := by
  unfold givenL
  rw [List.range_succ, List.filter_append, List.map_append, List.filter_cons, if_pos h]
  rfl
theorem givenL_no {n : Nat} {f : Nat → Bool} {v : Nat → List V} (h : f n = false) : givenL (n + 1) f v = givenL n f v := by
  unfold givenL
  rw [List.range_succ, List.filter_append, List.map_append, List.filter_cons, if_neg (by rw [h]; decide)]
  simp
theorem givenL_len (n : Nat) (f : Nat → Bool) (v : Nat → List V) : (givenL n f v).length ≤ n := by
  unfold givenL
  rw [List.length_map]
  have h := List.length_filter_le f (List.range n)
  rwa [List.length_range] at h
/-- new lists, all apart, in a new list -/
structure NewL (H H' : Hp) (D : Addr) (qs : List Addr) (ls : List (List V)) : Prop where
  nD : H D = none
  ex : Ex H H'
  at_ : H' D = some (.lst (qs.map V.ref))
  out : D ∉ qs
  nd : qs.Nodup
  new : ∀ q ∈ qs, H q = none
  rows : LAt H' qs ls
theorem nodup_snoc {α : Type} {l : List α} {a : α} (h : l.Nodup) (ha : a ∉ l) : (l ++ [a]).Nodup := by
  rw [List.nodup_append]
  exact ⟨h, by simp, fun x hx y hy => by simp at hy; subst hy; exact fun e => ha (e ▸ hx)⟩
section
variable {K : PySem.W.Frag} {σ : L2.St} {H : Hp} {te tl : TE} {t : TT}
theorem newL_turn {H0 H' : Hp} {D : Addr} {qs : List Addr} {n : Nat} {f : Nat → Bool} {v : Nat → List V} {σ2 : L2.St} (r : NewL H0 H' D qs (givenL n f v)) (hn : n < 50000) (ht : EvT t σ2 H0 (f n)) (he : f n = true → EvL te σ2 H0 (v n)) :
    t σ2 H' fun b H3 => if b = true then te σ2 H3 fun y H4 => ∃ acc, H4 D = some (.lst acc) ∧ acc.length < sizeLine ∧ (∃ qs', NewL H0 (upd H4 D (.lst (acc ++ [y]))) D qs' (givenL (n + 1) f v)) else ∃ qs', NewL H0 H3 D qs' (givenL (n + 1) f v) := by
  refine ht H' r.ex _ fun H3 e3 => ?_
  have rows3 := r.rows.mono (H' := H3) fun q _ o e => e3 q o e
  cases hf : f n with
  | false =>
    show ∃ qs', NewL H0 H3 D qs' (givenL (n + 1) f v)
    rw [givenL_no hf]
    exact ⟨qs, r.nD, r.ex.trans e3, e3 _ _ r.at_, r.out, r.nd, r.new, rows3⟩
  | true =>
    show te σ2 H3 _
    refine he hf H3 (r.ex.trans e3) _ fun p H4 hp e4 hp4 => ?_
    have hl : qs.length ≤ n := by rw [r.rows.1]; exact givenL_len n f v
    have hD3 : H3 D = some (.lst (qs.map V.ref)) := e3 _ _ r.at_
    have hpD : p ≠ D := fun q => by rw [q, hD3] at hp; cases hp
    have hpq : p ∉ qs := fun q => by
      obtain ⟨l, hl⟩ := rows3.all q
      rw [hl] at hp
      cases hp
    refine ⟨qs.map V.ref, e4 _ _ hD3, sz_lt (by rw [List.length_map]; omega), qs ++ [p], r.nD, Ex.mut ((r.ex.trans e3).trans e4) r.nD, ?_, ?_, nodup_snoc r.nd hpq, ?_, ?_⟩
    · rw [upd_same, List.map_append]
      rfl
    · intro q
      rcases List.mem_append.mp q with q | q
      · exact r.out q
      · exact hpD (List.mem_singleton.mp q).symm
    · intro q hq
      rcases List.mem_append.mp hq with hq | hq
      · exact r.new q hq
      · rw [List.mem_singleton.mp hq]
        exact fresh_back (r.ex.trans e3) hp
    · rw [givenL_yes hf]
      refine LAt.snoc (rows3.mono fun q hq o e => ?_) ?_
      · have hqD : q ≠ D := fun z => r.out (by rw [← z]; exact hq)
        rw [upd_ne hqD]
        exact e4 _ _ e
      · rw [upd_ne hpD]
        exact hp4
theorem lcNew {a : Addr} {xs : List V} {j : Nat} {vs : List Nat} (f : Nat → Bool) (v : Nat → List V) (h : Ev tl σ H (.ref a)) (hx : SqL K H a xs) (hz : xs.length ≤ 40000) (hw : ∀ x, wipe ((wipe σ vs).set j (some x)) vs = wipe σ vs)
    (ht : ∀ (i : Nat) (x : V) H1, Ex H H1 → xs[i]? = some x → EvT t ((wipe σ vs).set j (some x)) H1 (f i)) (he : ∀ (i : Nat) (x : V) H1, Ex H H1 → xs[i]? = some x → f i = true → EvL te ((wipe σ vs).set j (some x)) H1 (v i))
    {Q : VK} (q : ∀ Dl qs H', NewL H H' Dl qs (givenL xs.length f v) → Q (.ref Dl) H') : tLc (iList K tl) (gName j) t te vs σ H Q :=
  h H (Ex.refl H) _ fun H1 e1 => ⟨a, rfl, ⟨xs, ex_l e1 hx⟩, fun Dl hD =>
    lc_list (xs := xs) (fun i H' => ∃ qs, NewL H1 H' Dl qs (givenL i f v)) ⟨[], hD, Ex.new hD, upd_same, by simp, List.nodup_nil, (fun q hq => nomatch hq), rfl, (fun i l hl => by simp [givenL] at hl)⟩
      (fun i H' _ ⟨qs, r⟩ => ex_l (e1.trans r.ex) hx)
      (fun i x H' hi ⟨qs, r⟩ => ⟨hw x, newL_turn r (by have := (List.getElem?_eq_some_iff.mp hi).1; omega) (ht i x H1 e1 hi) (fun hf => he i x H1 e1 hi hf)⟩)
      (fun H' ⟨qs, r⟩ => q Dl qs H' ⟨fresh_back e1 r.nD, e1.trans r.ex, r.at_, r.out, r.nd, (fun a ha => fresh_back e1 (r.new a ha)), r.rows⟩)⟩
theorem q_lcNew {D : Ends} {tz : TS} {i : Nat} {a : Addr} {xs : List V} {j : Nat} {vs : List Nat} (f : Nat → Bool) (v : Nat → List V) (h : Ev tl σ H (.ref a)) (hx : SqL K H a xs) (hz : xs.length ≤ 40000) (hw : ∀ x, wipe ((wipe σ vs).set j (some x)) vs = wipe σ vs)
    (ht : ∀ (i : Nat) (x : V) H1, Ex H H1 → xs[i]? = some x → EvT t ((wipe σ vs).set j (some x)) H1 (f i)) (he : ∀ (i : Nat) (x : V) H1, Ex H H1 → xs[i]? = some x → f i = true → EvL te ((wipe σ vs).set j (some x)) H1 (v i))
    (k : ∀ Dl qs H', NewL H H' Dl qs (givenL xs.length f v) → tz D (σ.set i (some (.ref Dl))) H') : tSeq (tAsg (tLc (iList K tl) (gName j) t te vs) (gName i)) tz D σ H :=
  lcNew (Q := fun x H1 => gName i x σ H1 (tz D)) f v h hx hz hw ht he k
end
/-! ### data: lists of texts, or none -/
def dS (l : List Str) : PyData := .list (l.map .str)
def dO : Option (List Str) → PyData
  | none => .none
  | some l => dS l
def Oks (l : List Str) : Prop := ∀ x ∈ l, PyData.strOk x = true
theorem canLayAll_strs : ∀ {l : List Str}, Oks l → PyData.canLayAll0 (l.map .str) = true
  | [], _ => rfl
  | a :: l, h => by
    show (PyData.strOk a && PyData.canLayAll0 (l.map .str)) = true
    rw [h a List.mem_cons_self, canLayAll_strs fun x hx => h x (List.mem_cons_of_mem _ hx)]
    rfl
theorem depthAll_strs : ∀ l : List Str, PyData.depthAll (l.map .str) = 0
  | [] => by simp [PyData.depthAll]
  | a :: l => by
    have := depthAll_strs l
    simp [PyData.depthAll, PyData.depth, this]
theorem depth_dS (l : List Str) : (dS l).depth = 1 := by
  unfold dS
  simp [PyData.depth, depthAll_strs]
theorem shaped_dS {l : List Str} (h : Oks l) : SeqAt.shaped (dS l) = true := by
  unfold SeqAt.shaped
  rw [depth_dS]
  show (PyData.canLayAll0 (l.map .str) && _) = true
  rw [canLayAll_strs h]
  rfl
theorem shaped_none : SeqAt.shaped .none = true := by
  unfold SeqAt.shaped
  simp [PyData.canLay0, PyData.depth]
theorem shaped_str {x : Str} (h : PyData.strOk x = true) : SeqAt.shaped (.str x) = true := by
  unfold SeqAt.shaped
  simp [PyData.canLay0, PyData.depth, h]
def OksO (r : Option (List Str)) : Prop := ∀ l, r = some l → Oks l
theorem shaped_dO {r : Option (List Str)} (h : OksO r) : SeqAt.shaped (dO r) = true := by
  cases r with
  | none => exact shaped_none
  | some l => exact shaped_dS (h l rfl)
theorem depth_dO (r : Option (List Str)) : (dO r).depth ≤ 1 := by
  cases r with
  | none => simp [dO, PyData.depth]
  | some l => rw [show dO (some l) = dS l from rfl, depth_dS]; exact Nat.le_refl _
theorem shaped_dOs {rs : List (Option (List Str))} (h : ∀ r ∈ rs, OksO r) : SeqAt.shaped (.list (rs.map dO)) = true := by
  have h1 : PyData.canLayAll0 (rs.map dO) = true ∧ PyData.depthAll (rs.map dO) ≤ 1 := by
    induction rs with
    | nil => exact ⟨rfl, by simp [PyData.depthAll]⟩
    | cons r rs ih =>
      obtain ⟨a, b⟩ := ih fun x hx => h x (List.mem_cons_of_mem _ hx)
      have c := shaped_dO (h r List.mem_cons_self)
      have d := depth_dO r
      refine ⟨?_, ?_⟩
      · show (PyData.canLay0 (dO r) && PyData.canLayAll0 (rs.map dO)) = true
        rw [SeqAt.canLay_of_shaped c, a]
        rfl
      · rw [List.map_cons]
        simp only [PyData.depthAll]
        omega
  unfold SeqAt.shaped
  show (PyData.canLayAll0 (rs.map dO) && decide (PyData.depth (.list (rs.map dO)) ≤ 64)) = true
  rw [h1.1]
  have : PyData.depth (.list (rs.map dO)) ≤ 64 := by
    simp only [PyData.depth]
    omega
  simp [this]
theorem eqv_strs : ∀ a b : List Str, PyData.eqvAll (a.map .str) (b.map .str) = decide (a = b)
  | [], [] => by simp [PyData.eqvAll]
  | [], _ :: _ => by simp [PyData.eqvAll]
  | _ :: _, [] => by simp [PyData.eqvAll]
  | x :: a, y :: b => by
    rw [List.map_cons, List.map_cons]
    simp only [PyData.eqvAll, PyData.eqv, eqv_strs a b]
    by_cases h : x = y
    · subst h; simp
    · simp [h]
theorem eqv_dS (a b : List Str) : PyData.eqv (dS a) (dS b) = decide (a = b) := by
  unfold dS
  simp only [PyData.eqv]
  exact eqv_strs a b
theorem eqv_dO (a b : Option (List Str)) : PyData.eqv (dO a) (dO b) = decide (a = b) := by
  cases a with
  | none =>
    cases b with
    | none => simp [dO, PyData.eqv]
    | some l => simp [dO, dS, PyData.eqv]
  | some k =>
    cases b with
    | none => simp [dO, dS, PyData.eqv]
    | some l =>
      show PyData.eqv (dS k) (dS l) = _
      rw [eqv_dS]
      simp
theorem any_none (rs : List (Option (List Str))) : ((rs.map dO).any fun z => PyData.eqv z .none) = rs.any (·.isNone) := by
  rw [List.any_map]
  congr 1
  funext r
  show PyData.eqv (dO r) (dO none) = _
  rw [eqv_dO]
  cases r <;> simp
section
variable {K : PySem.W.Frag} {H : Hp}
theorem dp_all_strs : ∀ l : List Str, DpAll K H (l.map V.str) (l.map .str)
  | [] => .nil
  | a :: l => .cons (.str a) (dp_all_strs l)
theorem dp_S {p : Addr} {l : List Str} (h : SqL K H p (l.map V.str)) : Dp K H (.ref p) (dS l) := .lst h (dp_all_strs l)
/-- a value that is none or a list of texts -/
def ValO (K : PySem.W.Frag) (H : Hp) (v : V) (r : Option (List Str)) : Prop := match r with
  | none => v = .non
  | some l => ∃ p, v = .ref p ∧ SqL K H p (l.map V.str)
theorem ValO.mono {H' : Hp} {v : V} {r : Option (List Str)} (h : ValO K H v r) (e : Ex H H') : ValO K H' v r := by
  cases r with
  | none => exact h
  | some l =>
    obtain ⟨p, a, b⟩ := h
    exact ⟨p, a, ex_l e b⟩
theorem dp_O {v : V} {r : Option (List Str)} (h : ValO K H v r) : Dp K H v (dO r) := by
  cases r with
  | none =>
    have : v = .non := h
    subst this
    exact .non
  | some l =>
    obtain ⟨p, rfl, b⟩ := h
    exact dp_S b
theorem dp_Os : ∀ {vs : List V} {rs : List (Option (List Str))}, vs.length = rs.length → (∀ (i : Nat) v r, vs[i]? = some v → rs[i]? = some r → ValO K H v r) → DpAll K H vs (rs.map dO)
  | [], [], _, _ => .nil
  | v :: vs, r :: rs, hl, h => .cons (dp_O (h 0 v r rfl rfl)) (dp_Os (by simpa using hl) fun i a b ha hb => h (i + 1) a b (by simpa using ha) (by simpa using hb))
  | [], _ :: _, hl, _ => by simp at hl
  | _ :: _, [], hl, _ => by simp at hl
end
/-! ### dicts, lists: what evaluates -/
section
variable {K : PySem.W.Frag} {σ : L2.St} {H : Hp} {ta tb te td ty : TE} {D : Ends} {tz : TS} {x v : V}
theorem dget_of {d : Addr} {kvs : List (Key × V)} {k : Key} (hd : Rd H d (.dK kvs)) : DGet H d (kV k) (valV kvs k) := .inl ⟨kvs, k, hd, rfl, rfl⟩
theorem ev_dget {d : Addr} {kvs : List (Key × V)} {k : Key} (h1 : Ev td σ H (.ref d)) (h2 : Ev ty σ H (kV k)) (hd : Rd H d (.dK kvs)) (hv : valV kvs k = some v) : Ev (tDGet td ty) σ H v := fun H1 e Q q =>
  h1 H1 e _ fun H2 e2 => h2 H2 (e.trans e2) _ fun H3 e3 => ⟨d, v, rfl, by rw [← hv]; exact dget_of (ex_rd ((e.trans e2).trans e3) hd), q H3 (e2.trans e3)⟩
theorem ev_din {d : Addr} {kvs : List (Key × V)} {k : Key} (h2 : Ev ty σ H (kV k)) (h1 : Ev td σ H (.ref d)) (hd : Rd H d (.dK kvs)) : Ev (tDIn ty td) σ H (.bl (valV kvs k).isSome) := fun H1 e Q q =>
  h2 H1 e _ fun H2 e2 => h1 H2 (e.trans e2) _ fun H3 e3 => ⟨d, _, rfl, dget_of (ex_rd ((e.trans e2).trans e3) hd), q H3 (e2.trans e3)⟩
theorem ev_dnin {d : Addr} {kvs : List (Key × V)} {k : Key} (h2 : Ev ty σ H (kV k)) (h1 : Ev td σ H (.ref d)) (hd : Rd H d (.dK kvs)) : Ev (tDNotIn ty td) σ H (.bl (!(valV kvs k).isSome)) := fun H1 e Q q =>
  h2 H1 e _ fun H2 e2 => h1 H2 (e.trans e2) _ fun H3 e3 => ⟨d, _, rfl, dget_of (ex_rd ((e.trans e2).trans e3) hd), q H3 (e2.trans e3)⟩
/-- xs + [..] -/
theorem el_cat {l : Addr} {xs ys : List V} (ha : Ev ta σ H (.ref l)) (hl : H l = some (.lst xs)) (hb : EvL tb σ H ys) (hz : xs.length + ys.length ≤ 100000) : EvL (tOp rCat ta tb) σ H (xs ++ ys) := fun H1 e Q q =>
  ha H1 e _ fun H2 e2 => hb H2 (e.trans e2) _ fun b H3 _ e3 hb3 => ⟨l, b, xs, ys, rfl, rfl, ((e.trans e2).trans e3) _ _ hl, hb3, sz_of hz, fun p hp => q p _ (fresh_back (e2.trans e3) hp) ((e2.trans e3).trans (Ex.new hp)) upd_same⟩
/-- [..] + xs -/
theorem el_cat1 {b : Addr} {xs ys : List V} (ha : EvL ta σ H xs) (hb : Ev tb σ H (.ref b)) (hl : H b = some (.lst ys)) (hz : xs.length + ys.length ≤ 100000) : EvL (tOp rCat ta tb) σ H (xs ++ ys) := fun H1 e Q q =>
  ha H1 e _ fun a H2 _ e2 ha2 => hb H2 (e.trans e2) _ fun H3 e3 => ⟨a, b, xs, ys, rfl, rfl, e3 _ _ ha2, ((e.trans e2).trans e3) _ _ hl, sz_of hz, fun p hp => q p _ (fresh_back (e2.trans e3) hp) ((e2.trans e3).trans (Ex.new hp)) upd_same⟩
/-- [..] + [..] -/
theorem el_cat2 {xs ys : List V} (ha : EvL ta σ H xs) (hb : EvL tb σ H ys) (hz : xs.length + ys.length ≤ 100000) : EvL (tOp rCat ta tb) σ H (xs ++ ys) := fun H1 e Q q =>
  ha H1 e _ fun a H2 _ e2 ha2 => hb H2 (e.trans e2) _ fun b H3 _ e3 hb3 => ⟨a, b, xs, ys, rfl, rfl, e3 _ _ ha2, hb3, sz_of hz, fun p hp => q p _ (fresh_back (e2.trans e3) hp) ((e2.trans e3).trans (Ex.new hp)) upd_same⟩
/-- None in a list of such values; d: its data -/
theorem rv_inD {a : Addr} {d : PyData} {ds : List PyData} (h1 : Dp K H x d) (h2 : Dp K H (.ref a) (.list ds)) (s1 : SeqAt.shaped d = true) (s2 : SeqAt.shaped (.list ds) = true) (hm : ∀ H1, Ex H H1 → Dp K H1 x d ∧ Dp K H1 (.ref a) (.list ds)) :
    RV (rInD K) x (.ref a) H (.bl (ds.any fun z => PyData.eqv z d)) := fun H1 e _ q => ⟨d, ds, (hm H1 e).1, (hm H1 e).2, s1, s2, q H1 (Ex.refl H1)⟩
/-- len(set(xs)) < len(xs) -/
theorem et_lenSet {l : Addr} {xs : List Str} (h : Ev ta σ H (.ref l)) (hS : SqL K H l (xs.map V.str)) (hz : xs.length ≤ 1000) : EvT (tTest (tOp (rI0 fun i j => .bl (decide (i < j))) (tLenSetS K ta) (tCB (rLenS K) (tCons ta tNil)))) σ H (!decide xs.Nodup) := fun H1 e Q q =>
  h H1 e _ fun H2 e2 => ⟨l, xs, rfl, ex_l (e.trans e2) hS, hz, fun n hn hi => ev_len (K := K) h hS H2 (e.trans e2) _ fun H3 e3 => ⟨n, (xs.map V.str).length, rfl, rfl, _, rfl, by
    have hb : decide ((n : Int) < ((xs.map V.str).length : Nat)) = !decide xs.Nodup := by
      rw [List.length_map]
      by_cases nd : xs.Nodup
      · have := hi.mpr nd
        simp [nd, this]
      · have : n ≠ xs.length := fun z => nd (hi.mp z)
        simp [nd]
        omega
    rw [hb]
    exact q H3 (e2.trans e3)⟩⟩
/-- xs.extend(ys) -/
theorem s_ext {l b : Addr} {xs ys : List V} (hl : H l = some (.lst xs)) (hb : H b = some (.lst ys)) (ha : Ev ta σ H (.ref l)) (h : Ev te σ H (.ref b)) (hz : xs.length + ys.length ≤ 100000) (k : ∀ H1, Ex H H1 → D.nx σ (upd H1 l (.lst (xs ++ ys)))) :
    tDrop (tBM K "list" rExtend ta (tCons te tNil)) D σ H := ha H (Ex.refl H) _ fun H1 e1 =>
  ⟨Or.inl ⟨rfl, xs, sq_of (e1 l _ hl)⟩, h H1 e1 _ fun H2 e2 => ⟨l, b, xs, ys, rfl, rfl, e2 l _ (e1 l _ hl), e2 b _ (e1 b _ hb), sz_of hz, k H2 (e1.trans e2)⟩⟩
/-- d[k] = v, v told by what holds of it -/
theorem s_dputG {d : Addr} {k : Key} {tv : TE} (G : V → Hp → Prop) (hv : ∀ Q : VK, (∀ v H1, G v H1 → Q v H1) → tv σ H Q)
    (h : ∀ v H1, G v H1 → ∃ kvs, H1 d = some (.dK kvs) ∧ kvs.length < 100000 ∧ Ev td σ H1 (.ref d) ∧ Ev ty σ H1 (kV k) ∧ ∀ H2, Ex H1 H2 → D.nx σ (upd H2 d (.dK (putK kvs k v)))) : sDPut td ty tv D σ H :=
  hv _ fun v H1 g => by
    obtain ⟨kvs, a, b, c, c', n⟩ := h v H1 g
    exact c H1 (Ex.refl H1) _ fun H2 e2 => c' H2 e2 _ fun H3 e3 => ⟨d, _, rfl, DPut.k ((e2.trans e3) _ _ a) (sz_lt b), n H3 (e2.trans e3)⟩
/-- xs.pop() -/
theorem q_pop {l : Addr} {xs : List V} {y : V} (hl : H l = some (.lst (xs ++ [y]))) (ha : Ev ta σ H (.ref l)) (k : ∀ H1, Ex H H1 → tz D σ (upd H1 l (.lst xs))) :
    tSeq (tDrop (tBM0 K "list" rPop ta)) tz D σ H := ha H (Ex.refl H) _ fun H1 e1 =>
  ⟨Or.inl ⟨rfl, _, sq_of (e1 l _ hl)⟩, l, xs ++ [y], y, rfl, rfl, e1 l _ hl, by simp, by
    rw [List.dropLast_concat]
    exact k H1 e1⟩
end
/-! ### some value of which P holds -/
def EvN (te : TE) (σ : L2.St) (H : Hp) (P : V → Prop) : Prop := ∀ H1, Ex H H1 → ∀ Q : VK, (∀ v H2, Ex H1 H2 → P v → Q v H2) → te σ H1 Q
section
variable {σ : L2.St} {H : Hp} {ta tb te : TE} {P P1 P2 : V → Prop} {v : V} {r : R2} {D : Ends} {tz : TS}
theorem en_ev (h : Ev te σ H v) : EvN te σ H (fun x => x = v) := fun H1 e Q q => h H1 e Q fun H2 e2 => q v H2 e2 rfl
theorem en_op (ha : EvN ta σ H P1) (hb : EvN tb σ H P2) (hr : ∀ x y, P1 x → P2 y → ∃ z, P z ∧ RV r x y H z) : EvN (tOp r ta tb) σ H P := fun H1 e Q q =>
  ha H1 e _ fun x H2 e2 p1 => hb H2 (e.trans e2) _ fun y H3 e3 p2 => by
    obtain ⟨z, pz, hz⟩ := hr x y p1 p2
    exact hz H3 ((e.trans e2).trans e3) Q fun H4 e4 => q z H4 ((e2.trans e3).trans e4) pz
theorem en_call {sp : Sp} {dvs vs : List V} {E : XK} {ta : TA} (h : EvA ta σ H vs) (hs : ∀ H1, Ex H H1 → ∀ Q : VK, (∀ v H2, Ex H1 H2 → P v → Q v H2) → ∀ E : XK, sp (vs ++ dvs) H1 Q E) : EvN (tCall sp dvs E ta) σ H P := fun H1 e Q q =>
  h H1 e _ fun H2 e2 => hs H2 (e.trans e2) Q (fun v H3 e3 p => q v H3 (e2.trans e3) p) E
theorem s_retN (h : EvN te σ H P) (k : ∀ v H1, Ex H H1 → P v → D.rt v H1) : tRet te D σ H := h H (Ex.refl H) _ fun v H1 e p => k v H1 e p
theorem q_asgN {i : Nat} (h : EvN te σ H P) (k : ∀ v H1, Ex H H1 → P v → tz D (σ.set i (some v)) H1) : tSeq (tAsg te (gName i)) tz D σ H := h H (Ex.refl H) _ fun v H1 e p => k v H1 e p
end
/-! ### one object left out -/
/-- the heap without what stands at a -/
def hide (a : Addr) (H : Hp) : Hp := fun b => if b = a then none else H b
theorem hide_at {a : Addr} {H : Hp} : hide a H a = none := by unfold hide; rw [if_pos rfl]
theorem hide_ne {a b : Addr} {H : Hp} (h : b ≠ a) : hide a H b = H b := by unfold hide; rw [if_neg h]
theorem hide_ex {a : Addr} {H : Hp} : Ex (hide a H) H := fun b o h => by
  by_cases e : b = a
  · rw [e, hide_at] at h; cases h
  · rwa [hide_ne e] at h
theorem hide_get {a b : Addr} {H : Hp} {o : HO} (h : H b = some o) (n : b ≠ a) : hide a H b = some o := by rw [hide_ne n]; exact h
theorem hide_mono {a : Addr} {H H' : Hp} (e : Ex H H') : Ex (hide a H) (hide a H') := fun b o h => by
  by_cases q : b = a
  · rw [q, hide_at] at h; cases h
  · rw [hide_ne q] at h ⊢
    exact e b o h
/-- back to a heap that does not know a -/
theorem ex_hide {a : Addr} {B H : Hp} (e : Ex B H) (n : B a = none) : Ex B (hide a H) := fun b o h => by
  rw [hide_ne (ne_of_none h n)]
  exact e b o h
theorem hide_upd {a : Addr} {H : Hp} {o : HO} : hide a (upd H a o) = hide a H := by
  funext b
  unfold hide
  split
  · rfl
  · rename_i h
    exact upd_ne h
theorem hide_upd_ne {a b : Addr} {H : Hp} {o : HO} (h : b ≠ a) : hide a (upd H b o) = upd (hide a H) b o := by
  funext c
  by_cases q : c = a
  · rw [q, hide_at, upd_ne (Ne.symm h), hide_at]
  · rw [hide_ne q]
    by_cases z : c = b
    · rw [z, upd_same, upd_same]
    · rw [upd_ne z, upd_ne z, hide_ne q]
/-! ### rows read: a value and the texts of the list there -/
abbrev VR := V × List Str
def RowsP (K : PySem.W.Frag) (H : Hp) (rs : List VR) : Prop := ∀ r ∈ rs, ∃ p, r.1 = .ref p ∧ SqL K H p (r.2.map V.str)
theorem RowsP.mono {K : PySem.W.Frag} {H H' : Hp} {rs : List VR} (h : RowsP K H rs) (e : Ex H H') : RowsP K H' rs := fun r hr => let ⟨p, a, b⟩ := h r hr; ⟨p, a, ex_l e b⟩
theorem dpAll_rows {K : PySem.W.Frag} {H : Hp} : ∀ {rs : List VR}, RowsP K H rs → DpAll K H (rs.map (·.1)) (rs.map fun r => dS r.2)
  | [], _ => .nil
  | r :: rs, h => by
    obtain ⟨p, a, b⟩ := h r List.mem_cons_self
    refine .cons ?_ (dpAll_rows fun x hx => h x (List.mem_cons_of_mem _ hx))
    show Dp K H r.1 (dS r.2)
    rw [a]
    exact dp_S b
theorem shaped_dSs {rs : List (List Str)} (h : ∀ r ∈ rs, Oks r) : SeqAt.shaped (.list (rs.map dS)) = true := by
  have := shaped_dOs (rs := rs.map some) fun r hr l hl => by
    obtain ⟨x, hx, rfl⟩ := List.mem_map.mp hr
    cases hl
    exact h _ hx
  rw [List.map_map] at this
  exact this
theorem eqv_nil (ds : List PyData) : PyData.eqv (.list ds) (.list []) = ds.isEmpty := by
  cases ds <;> simp [PyData.eqv, PyData.eqvAll]
theorem shaped_nil : SeqAt.shaped (.list []) = true := by
  unfold SeqAt.shaped
  simp [PyData.canLay0, PyData.canLayAll0, PyData.depth, PyData.depthAll]
theorem mem_getElem {α : Type} {l : List α} {i : Nat} {x : α} (h : l[i]? = some x) : x ∈ l := List.mem_of_getElem? h
theorem cutTake {xs : List V} {k : Nat} : cutV xs none (some (k : Int)) = xs.take k := by
  unfold cutV
  rw [HT.sIx_none, HT.sIx_nat]
  simp
theorem cutDrop {xs : List V} {k : Nat} : cutV xs (some (k : Int)) none = xs.drop k := by
  unfold cutV
  rw [HT.sIx_none, HT.sIx_nat]
  rw [List.take_of_length_le (by rw [List.length_drop]; exact Nat.le_refl _)]
  rw [Nat.min_def]
  split
  · rfl
  · rw [List.drop_of_length_le (Nat.le_refl _), List.drop_of_length_le (by omega)]
section
variable {K : PySem.W.Frag} {σ : L2.St} {H : Hp} {ta tb te : TE} {x y : V}
theorem rv_neD {d e : PyData} (hm : ∀ H1, Ex H H1 → Dp K H1 x d ∧ Dp K H1 y e) (s1 : SeqAt.shaped d = true) (s2 : SeqAt.shaped e = true) : RV (rNeD K) x y H (.bl (!PyData.eqv d e)) := fun H1 e1 _ q => ⟨d, e, (hm H1 e1).1, (hm H1 e1).2, s1, s2, q H1 (Ex.refl H1)⟩
theorem rv_eqD {d e : PyData} (hm : ∀ H1, Ex H H1 → Dp K H1 x d ∧ Dp K H1 y e) (s1 : SeqAt.shaped d = true) (s2 : SeqAt.shaped e = true) : RV (rEqD K) x y H (.bl (PyData.eqv d e)) := fun H1 e1 _ q => ⟨d, e, (hm H1 e1).1, (hm H1 e1).2, s1, s2, q H1 (Ex.refl H1)⟩
theorem el_nil : EvL (tLst tNil) σ H [] := el_lst ea_nil (Nat.zero_le _)
/-- xs != [] -/
theorem ev_neNil {p : Addr} {l : List Str} (h : Ev ta σ H (.ref p)) (hS : SqL K H p (l.map V.str)) (ho : Oks l) : Ev (tOp (rNeD K) ta (tLst tNil)) σ H (.bl (!l.isEmpty)) := by
  refine ev_is (ev_opL h el_nil fun q H1 hq e1 => rv_neD (K := K) (fun H2 e2 => ⟨dp_S (ex_l (e1.trans e2) hS), .lst (sq_of (e2 _ _ hq)) .nil⟩) (shaped_dS ho) shaped_nil) ?_
  unfold dS
  rw [eqv_nil]
  cases l <;> rfl
theorem ev_eqNil {p : Addr} {l : List Str} (h : Ev ta σ H (.ref p)) (hS : SqL K H p (l.map V.str)) (ho : Oks l) : Ev (tOp (rEqD K) ta (tLst tNil)) σ H (.bl l.isEmpty) := by
  refine ev_is (ev_opL h el_nil fun q H1 hq e1 => rv_eqD (K := K) (fun H2 e2 => ⟨dp_S (ex_l (e1.trans e2) hS), .lst (sq_of (e2 _ _ hq)) .nil⟩) (shaped_dS ho) shaped_nil) ?_
  unfold dS
  rw [eqv_nil]
  cases l <;> rfl
end
section
variable {σ : L2.St} {H : Hp} {ta tb te : TE} {r : R2} {D : Ends} {tz : TS} {Q : VK}
theorem q_raw {i : Nat} (h : te σ H fun v H1 => tz D (σ.set i (some v)) H1) : tSeq (tAsg te (gName i)) tz D σ H := h
theorem s_raw {i : Nat} (h : te σ H fun v H1 => D.nx (σ.set i (some v)) H1) : tAsg te (gName i) D σ H := h
theorem op_raw (h : ta σ H fun x H1 => tb σ H1 fun y H2 => r x y H2 Q) : tOp r ta tb σ H Q := h
end
end EX

set_option Elab.async false
set_option linter.all false
set_option maxRecDepth 100000
/-! draws: a tap (a list of four ints at tp) that each draw changes; a draw is any number in its range -/
namespace EX
open PySem L2 Evl
def Tap (H : Hp) (tp : Addr) : Prop := ∃ a b c d : Int, H tp = some (.lst [.int a, .int b, .int c, .int d])
theorem Tap.mono {H H' : Hp} {tp : Addr} (t : Tap H tp) (e : Ex H H') : Tap H' tp := let ⟨a, b, c, d, h⟩ := t; ⟨a, b, c, d, e _ _ h⟩
/-- the promise of a draw below n -/
def spDraw : Sp := fun vs H Q _ => ∃ (tp : Addr) (n : Int), vs = [.ref tp, .int n] ∧ Tap H tp ∧ 0 < n ∧ n < 1073741824 ∧
  ∀ (r : Int) (H' : Hp), 0 ≤ r → r < n → Ex (hide tp H) H' → Tap H' tp → Q (.int r) H'
/-- te evaluates, drawing, to some value of which P holds; what B knows stays -/
def Dr (tp : Addr) (te : TE) (σ : L2.St) (B : Hp) (P : V → Prop) : Prop := ∀ H1, Ex B H1 → Tap H1 tp → ∀ Q : VK, (∀ v H2, Ex B H2 → Tap H2 tp → P v → Q v H2) → te σ H1 Q
def DrT (tp : Addr) (tt : TT) (σ : L2.St) (B : Hp) (P : Bool → Prop) : Prop := ∀ H1, Ex B H1 → Tap H1 tp → ∀ Q : Bool → Hp → Prop, (∀ b H2, Ex B H2 → Tap H2 tp → P b → Q b H2) → tt σ H1 Q
section
variable {tp : Addr} {σ : L2.St} {B H : Hp} {ta tb te : TE} {t u : TT} {P P1 P2 : V → Prop} {v : V} {r : R2} {D : Ends} {tu tw tz : TS}
theorem Dr.imp (h : Dr tp te σ B P) (k : ∀ v, P v → P1 v) : Dr tp te σ B P1 := fun H1 e t Q q => h H1 e t Q fun v H2 e2 t2 p => q v H2 e2 t2 (k v p)
theorem dr_ev (h : Ev te σ B v) : Dr tp te σ B (fun x => x = v) := fun H1 e t Q q => h H1 e Q fun H2 e2 => q v H2 (e.trans e2) (t.mono e2) rfl
theorem dr_var {i : Nat} (h : σ[i]? = some (some v)) : Dr tp (tVar i) σ B (fun x => x = v) := dr_ev (ev_var h)
theorem dr_c : Dr tp (tC v) σ B (fun x => x = v) := dr_ev ev_c
theorem dr_draw {j : Nat} (N : Int) (hN : N < 1073741824) (hj : σ[j]? = some (some (.ref tp))) (nB : B tp = none) (h : Dr tp te σ B (fun v => ∃ n : Int, v = .int n ∧ 0 < n ∧ n ≤ N)) :
    Dr tp (tCall spDraw [] E0 (tCons (tVar j) (tCons te tNil))) σ B (fun v => ∃ r : Int, v = .int r ∧ 0 ≤ r ∧ r < N) := fun H1 e t Q q =>
  ⟨_, hj, h H1 e t _ fun v H2 e2 t2 ⟨n, hv, h0, hn⟩ => by
    subst hv
    exact ⟨tp, n, rfl, t2, h0, by omega, fun r H3 r0 r1 e3 t3 => q _ H3 ((ex_hide e2 nB).trans e3) t3 ⟨r, rfl, r0, by omega⟩⟩⟩
theorem dr_op (ha : Dr tp ta σ B P1) (hb : Dr tp tb σ B P2) (hr : ∀ x y, P1 x → P2 y → ∃ z, P z ∧ RV r x y B z) : Dr tp (tOp r ta tb) σ B P := fun H1 e t Q q =>
  ha H1 e t _ fun x H2 e2 t2 p1 => hb H2 e2 t2 _ fun y H3 e3 t3 p2 => by
    obtain ⟨z, pz, hz⟩ := hr x y p1 p2
    exact hz H3 e3 Q fun H4 e4 => q z H4 (e3.trans e4) (t3.mono e4) pz
/-- int(x) -/
theorem dr_int1 (h : Dr tp te σ B (fun v => ∃ b, v = .bl b)) : Dr tp (tCB (fun xs H Q => (∃ i, xs = [.int i] ∧ Q (.int i) H) ∨ ∃ k, xs = [.bl k] ∧ Q (.int (if k then 1 else 0)) H) (tCons te tNil)) σ B (fun v => v = .int 0 ∨ v = .int 1) := fun H1 e t Q q =>
  h H1 e t _ fun v H2 e2 t2 ⟨b, hb⟩ => .inr ⟨b, by rw [hb], q _ H2 e2 t2 (by cases b <;> simp)⟩
theorem drT_test (h : Dr tp te σ B (fun v => ∃ b, v = .bl b)) : DrT tp (tTest te) σ B (fun _ => True) := fun H1 e t Q q => h H1 e t _ fun v H2 e2 t2 ⟨b, hb⟩ => ⟨b, hb, q b H2 e2 t2 trivial⟩
theorem drT_ev {b : Bool} (h : EvT t σ B b) : DrT tp t σ B (fun c => c = b) := fun H1 e t Q q => h H1 e Q fun H2 e2 => q b H2 (e.trans e2) (t.mono e2) rfl
theorem drT_or {p q : Bool → Prop} (h1 : DrT tp t σ B p) (h2 : DrT tp u σ B q) : DrT tp (tOr t u) σ B (fun _ => True) := fun H1 e tt Q k => h1 H1 e tt _ fun c H2 e2 t2 _ => by
  cases c with
  | true =>
    show Q true H2
    exact k true H2 e2 t2 trivial
  | false =>
    show u σ H2 Q
    exact h2 H2 e2 t2 Q fun c H3 e3 t3 _ => k c H3 e3 t3 trivial
/-! ### statements -/
theorem q_asgD {i : Nat} (ht : Tap H tp) (h : Dr tp te σ (hide tp H) P) (k : ∀ v H1, Ex (hide tp H) H1 → Tap H1 tp → P v → tz D (σ.set i (some v)) H1) : tSeq (tAsg te (gName i)) tz D σ H :=
  h H hide_ex ht _ fun v H1 e t p => k v H1 e t p
theorem s_ifD {p : Bool → Prop} (ht : Tap H tp) (h : DrT tp t σ (hide tp H) p) (k1 : p true → ∀ H1, Ex (hide tp H) H1 → Tap H1 tp → tu D σ H1) (k2 : p false → ∀ H1, Ex (hide tp H) H1 → Tap H1 tp → tw D σ H1) : tIfS t tu tw D σ H :=
  h H hide_ex ht _ fun b H1 e t pb => by
    cases b with
    | true =>
      show tu D σ H1
      exact k1 pb H1 e t
    | false =>
      show tw D σ H1
      exact k2 pb H1 e t
theorem q_whenD {p : Bool → Prop} (ht : Tap H tp) (h : DrT tp t σ (hide tp H) p) (k1 : p true → ∀ H1, Ex (hide tp H) H1 → Tap H1 tp → tu { D with nx := tz D } σ H1) (k2 : p false → ∀ H1, Ex (hide tp H) H1 → Tap H1 tp → tz D σ H1) : tSeq (tIfS t tu tNext) tz D σ H :=
  s_ifD (D := { D with nx := tz D }) ht h k1 k2
theorem s_whenD {p : Bool → Prop} (ht : Tap H tp) (h : DrT tp t σ (hide tp H) p) (k1 : p true → ∀ H1, Ex (hide tp H) H1 → Tap H1 tp → tu D σ H1) (k2 : p false → ∀ H1, Ex (hide tp H) H1 → Tap H1 tp → D.nx σ H1) : tIfS t tu tNext D σ H :=
  s_ifD ht h k1 k2
end
end EX

set_option Elab.async false
set_option linter.all false
set_option maxRecDepth 100000
namespace EX
open PySem L2 Evl
section
variable {tp : Addr} {σ : L2.St} {B H : Hp} {ta tb te : TE} {t u : TT} {P P1 P2 : V → Prop} {v : V} {r : R2} {D : Ends} {tu tw tz : TS} {K : PySem.W.Frag}
/-- the first operand a new list -/
theorem dr_opL {xs : List V} (nB : B tp = none) (ha : EvL ta σ B xs) (hb : ∀ B', Ex B B' → B' tp = none → Dr tp tb σ B' P2) (hr : ∀ p y B', Ex B B' → B' p = some (.lst xs) → P2 y → ∃ z, P z ∧ RV r (.ref p) y B' z) : Dr tp (tOp r ta tb) σ B P := fun H1 e t Q q =>
  ha H1 e _ fun p H2 np e2 at2 => by
    have hp : p ≠ tp := by
      obtain ⟨a, b, c, d, ht⟩ := t
      exact fun z => by rw [z, ht] at np; cases np
    have eB : Ex B (hide tp H2) := ex_hide (e.trans e2) nB
    refine hb (hide tp H2) eB hide_at H2 hide_ex (t.mono e2) _ fun y H3 e3 t3 p2 => ?_
    obtain ⟨z, pz, hz⟩ := hr p y (hide tp H2) eB (hide_get at2 hp) p2
    exact hz H3 e3 Q fun H4 e4 => q z H4 (eB.trans (e3.trans e4)) (t3.mono e4) pz
theorem ixAt {xs : List V} {p : Addr} {i : Int} {j : Nat} {x : V} (h : H p = some (.lst xs)) (hi : i = (j : Int)) (hx : xs[j]? = some x) : RV (rIxL K) (.ref p) (.int i) H x := rv_ixL (sq_of h) (at_of hi hx)
/-- for .. in range(a draw) -/
theorem s_forD {j : Nat} (N : Int) (hN : N ≤ 100000) (ht : Tap H tp) (h : Dr tp te σ (hide tp H) (fun v => ∃ r : Int, v = .int r ∧ 0 ≤ r ∧ r < N)) (Pv : Nat → L2.St → Hp → Prop) (h0 : ∀ H1, Ex (hide tp H) H1 → Tap H1 tp → Pv 0 σ H1)
    (hs : ∀ (i : Nat) σ' H', (i : Int) + 1 < N → Pv i σ' H' → tu { D with nx := Pv (i + 1), ct := Pv (i + 1), bk := D.nx } (σ'.set j (some (.int (i : Int)))) H') (hd : ∀ (n : Nat) σ' H', (n : Int) < N → Pv n σ' H' → D.nx σ' H') :
    tFor (iRng1 (tCons te tNil)) (gName j) tu D σ H :=
  h H hide_ex ht _ fun v H1 e t ⟨n, hv, n0, n1⟩ => by
    subst hv
    refine ⟨n, rfl, by omega, by omega, for_range (lo := 0) (n := n.toNat) Pv (h0 H1 e t) (fun i σ' H' hi p => ?_) fun σ' H' p => hd n.toNat σ' H' (by omega) p⟩
    show tu { D with nx := Pv (i + 1), ct := Pv (i + 1), bk := D.nx } (σ'.set j (some (.int ((0 : Int) + (i : Int))))) H'
    rw [Int.zero_add]
    exact hs i σ' H' (by omega) p
theorem q_forD {j : Nat} (N : Int) (hN : N ≤ 100000) (ht : Tap H tp) (h : Dr tp te σ (hide tp H) (fun v => ∃ r : Int, v = .int r ∧ 0 ≤ r ∧ r < N)) (Pv : Nat → L2.St → Hp → Prop) (h0 : ∀ H1, Ex (hide tp H) H1 → Tap H1 tp → Pv 0 σ H1)
    (hs : ∀ (i : Nat) σ' H', (i : Int) + 1 < N → Pv i σ' H' → tu { D with nx := Pv (i + 1), ct := Pv (i + 1), bk := tz D } (σ'.set j (some (.int (i : Int)))) H') (hd : ∀ (n : Nat) σ' H', (n : Int) < N → Pv n σ' H' → tz D σ' H') :
    tSeq (tFor (iRng1 (tCons te tNil)) (gName j) tu) tz D σ H := s_forD (D := { D with nx := tz D }) N hN ht h Pv h0 hs hd
/-- a comprehension over reversed(xs) -/
theorem lc_rev {a : Addr} {xs : List V} {g : TG} {tt : TT} {vs : List Nat} {H1 : Hp} {Dl : Addr} {Qd : Hp → Prop} (Pv : Nat → Hp → Prop) (h0 : Pv 0 (upd H1 Dl (.lst []))) (hl : ∀ i H, i ≤ xs.length → Pv i H → SqL K H a xs)
    (hs : ∀ i x H, i < xs.length → xs[xs.length - 1 - i]? = some x → Pv i H → g x (wipe σ vs) H fun σ2 H2 => wipe σ2 vs = wipe σ vs ∧ tt σ2 H2 fun b H3 =>
      if b = true then te σ2 H3 fun y H4 => ∃ acc, H4 Dl = some (.lst acc) ∧ acc.length < sizeLine ∧ Pv (i + 1) (upd H4 Dl (.lst (acc ++ [y]))) else Pv (i + 1) H3) (hd : ∀ H, Pv xs.length H → Qd H) :
    ∃ W : Nat → Nat → Hp → Prop, (∃ m, W 0 m (upd H1 Dl (.lst []))) ∧ ∀ i m H, W i m H →
      ((Itv K a xs.length).stop i H ∧ Qd H) ∨ ((Itv K a xs.length).go i H ∧ ∃ Nx : Hp → Prop, (∀ H', Nx H' → ∃ m', m' < m ∧ W (i + 1) m' H') ∧ ∀ x H', (Itv K a xs.length).yld i H x H' → g x (wipe σ vs) H' fun σ2 H2 => wipe σ2 vs = wipe σ vs ∧ tt σ2 H2 fun b H3 =>
        if b = true then te σ2 H3 fun y H4 => ∃ acc, H4 Dl = some (.lst acc) ∧ acc.length < sizeLine ∧ Nx (upd H4 Dl (.lst (acc ++ [y]))) else Nx H3) := by
  refine ⟨fun i m H => m = xs.length - i ∧ i ≤ xs.length ∧ Pv i H, ⟨xs.length, rfl, Nat.zero_le _, h0⟩, ?_⟩
  rintro i m H ⟨rfl, hi, p⟩
  by_cases hlt : i < xs.length
  · have hj : xs.length - 1 - i < xs.length := by omega
    refine .inr ⟨⟨hlt, xs, xs[xs.length - 1 - i], hl i H hi p, List.getElem?_eq_getElem hj⟩, fun H' => Pv (i + 1) H', fun H' h => ⟨xs.length - (i + 1), by omega, rfl, by omega, h⟩, ?_⟩
    rintro x H' ⟨rfl, hx⟩
    exact hs i x H' hlt (hx xs (hl i H' hi p)) p
  · have e : i = xs.length := by omega
    subst e
    exact .inl ⟨Nat.le_refl _, hd H p⟩
theorem el_lcRev {a : Addr} {xs : List V} {tl : TE} {j : Nat} {vs : List Nat} (f : Nat → Bool) (v : Nat → V) (h : Ev tl σ H (.ref a)) (hx : SqL K H a xs) (hz : xs.length ≤ 40000) (hw : ∀ x, wipe ((wipe σ vs).set j (some x)) vs = wipe σ vs)
    (ht : ∀ (i : Nat) (x : V) H1, Ex H H1 → i < xs.length → xs[xs.length - 1 - i]? = some x → EvT t ((wipe σ vs).set j (some x)) H1 (f i)) (he : ∀ (i : Nat) (x : V) H1, Ex H H1 → i < xs.length → xs[xs.length - 1 - i]? = some x → f i = true → Ev te ((wipe σ vs).set j (some x)) H1 (v i)) :
    EvL (tLc (iRev K (tCons tl tNil)) (gName j) t te vs) σ H (given xs.length f v) := fun H0 e Q q => h H0 e _ fun H1 e1 => ⟨a, xs, rfl, ex_l (e.trans e1) hx, fun Dl hD =>
  lc_rev (xs := xs) (Cw H1 f v Dl) ⟨hD, Ex.new hD, upd_same⟩ (fun i H' _ p => ex_l ((e.trans e1).trans p.2.1) hx) (fun i x H' hlt hi p => ⟨hw x, cw_turn p (by omega) (ht i x H1 (e.trans e1) hlt hi) (fun hf => he i x H1 (e.trans e1) hlt hi hf)⟩)
    (fun H' p => q Dl H' (fresh_back e1 p.1) (e1.trans p.2.1) p.2.2)⟩
end
/-- a slice of texts is a list of texts of it -/
theorem cut_strs (ts : List Str) (lo hi : Option Int) : ∃ nl : List Str, cutV (ts.map V.str) lo hi = nl.map V.str ∧ (∀ x ∈ nl, x ∈ ts) ∧ nl.length ≤ ts.length := by
  refine ⟨(ts.drop (HT.sIx ts.length 0 lo)).take (HT.sIx ts.length ts.length hi - HT.sIx ts.length 0 lo), ?_, fun x hx => List.mem_of_mem_drop (List.mem_of_mem_take hx), ?_⟩
  · unfold cutV
    rw [List.length_map, List.map_take, List.map_drop]
  · rw [List.length_take, List.length_drop]
    omega
theorem mem_given {n : Nat} {f : Nat → Bool} {v : Nat → V} {x : V} (h : x ∈ given n f v) : ∃ i, i < n ∧ f i = true ∧ x = v i := by
  unfold given at h
  obtain ⟨i, hi, rfl⟩ := List.mem_map.mp h
  obtain ⟨h1, h2⟩ := List.mem_filter.mp hi
  exact ⟨i, List.mem_range.mp h1, h2, rfl⟩
/-- values that are all texts of ts -/
theorem strs_of {vs : List V} {P : Str → Prop} (h : ∀ v ∈ vs, ∃ x, v = .str x ∧ P x) : ∃ xs : List Str, vs = xs.map V.str ∧ ∀ x ∈ xs, P x := by
  induction vs with
  | nil => exact ⟨[], rfl, fun x hx => nomatch hx⟩
  | cons v vs ih =>
    obtain ⟨x, rfl, hx⟩ := h v List.mem_cons_self
    obtain ⟨xs, rfl, hxs⟩ := ih fun w hw => h w (List.mem_cons_of_mem _ hw)
    exact ⟨x :: xs, rfl, fun y hy => by
      rcases List.mem_cons.mp hy with q | q
      · rw [q]; exact hx
      · exact hxs y q⟩
end EX

set_option Elab.async false
set_option linter.all false
set_option maxRecDepth 100000
namespace EX
open PySem L2 Evl
section
variable {tp : Addr} {σ : L2.St} {B H : Hp} {ta tb te : TE} {t u : TT} {P P1 P2 : V → Prop} {v : V} {r : R2} {D : Ends} {tu tw tz : TS} {K : PySem.W.Frag} {sp : Sp} {vs : List V} {E : XK} {tA : TA}
/-- for i, x in enumerate(xs) -/
theorem s_forE {a : Addr} {xs : List V} {tl : TE} {i j : Nat} (h : Ev tl σ H (.ref a)) (hx : SqL K H a xs) (Pv : Nat → L2.St → Hp → Prop) (h0 : ∀ H1, Ex H H1 → Pv 0 σ H1) (hl : ∀ n σ' H', n ≤ xs.length → Pv n σ' H' → SqL K H' a xs)
    (hs : ∀ (n : Nat) (x : V) σ' H' T, xs[n]? = some x → Pv n σ' H' → H' T = none → tu { D with nx := Pv (n + 1), ct := Pv (n + 1), bk := D.nx } ((σ'.set i (some (.int (n : Nat)))).set j (some x)) (upd H' T (.tup [.int (n : Nat), x]))) (hd : ∀ σ' H', Pv xs.length σ' H' → D.nx σ' H') :
    tFor (iEnum K (tCons tl tNil)) (gTup K 2 (gCons (gName i) (gCons (gName j) gNil))) tu D σ H :=
  h H (Ex.refl H) _ fun H1 e => ⟨a, xs, rfl, ex_l e hx, fun n m σ' H' => m = xs.length - n ∧ n ≤ xs.length ∧ Pv n σ' H', ⟨xs.length, rfl, Nat.zero_le _, h0 H1 e⟩, by
    rintro n m σ' H' ⟨rfl, hn, p⟩
    have hS := hl n σ' H' hn p
    by_cases hlt : n < xs.length
    · refine .inr ⟨⟨xs, xs[n], hS, List.getElem?_eq_getElem hlt⟩, fun σ2 H2 => Pv (n + 1) σ2 H2, fun σ2 H2 q => ⟨xs.length - (n + 1), by omega, rfl, by omega, q⟩, ?_⟩
      rintro v H2 ⟨T, x, rfl, nT, rfl, hv⟩
      exact ⟨T, _, rfl, st_of upd_same, rfl, _, _, rfl, _, _, rfl, rfl, hs n x σ' H' T (hv xs hS) p nT⟩
    · have e : n = xs.length := by omega
      subst e
      exact .inl ⟨⟨xs, hS, Nat.le_refl _⟩, hd σ' H' p⟩⟩
theorem q_forE {a : Addr} {xs : List V} {tl : TE} {i j : Nat} (h : Ev tl σ H (.ref a)) (hx : SqL K H a xs) (Pv : Nat → L2.St → Hp → Prop) (h0 : ∀ H1, Ex H H1 → Pv 0 σ H1) (hl : ∀ n σ' H', n ≤ xs.length → Pv n σ' H' → SqL K H' a xs)
    (hs : ∀ (n : Nat) (x : V) σ' H' T, xs[n]? = some x → Pv n σ' H' → H' T = none → tu { D with nx := Pv (n + 1), ct := Pv (n + 1), bk := tz D } ((σ'.set i (some (.int (n : Nat)))).set j (some x)) (upd H' T (.tup [.int (n : Nat), x]))) (hd : ∀ σ' H', Pv xs.length σ' H' → tz D σ' H') :
    tSeq (tFor (iEnum K (tCons tl tNil)) (gTup K 2 (gCons (gName i) (gCons (gName j) gNil))) tu) tz D σ H := s_forE (D := { D with nx := tz D }) h hx Pv h0 hl hs hd
/-- x = f(..), f(..) by f's own promise -/
theorem q_callA {i : Nat} (h : EvA tA σ H vs) (k : ∀ H1, Ex H H1 → sp (vs ++ []) H1 (fun v H2 => tz D (σ.set i (some v)) H2) E) : tSeq (tAsg (tCall sp [] E tA) (gName i)) tz D σ H := h H (Ex.refl H) _ k
theorem s_callD (h : EvA tA σ H vs) (k : ∀ H1, Ex H H1 → sp (vs ++ []) H1 (fun _ H2 => D.nx σ H2) E) : tDrop (tCall sp [] E tA) D σ H := h H (Ex.refl H) _ k
theorem s_retA (h : EvA tA σ H vs) (k : ∀ H1, Ex H H1 → sp (vs ++ []) H1 D.rt E) : tRet (tCall sp [] E tA) D σ H := h H (Ex.refl H) _ k
theorem call_raw {Q : VK} (h : EvA tA σ H vs) (k : ∀ H1, Ex H H1 → sp (vs ++ []) H1 Q E) : tCall sp [] E tA σ H Q := h H (Ex.refl H) _ k
theorem cutS_mem {z : Str} {lo hi : Option Int} : (∀ c ∈ (cutS z lo hi).cps.toList, c ∈ z.cps.toList) ∧ (cutS z lo hi).length ≤ z.length := by
  unfold cutS
  constructor
  · intro c hc
    exact List.mem_of_mem_drop (List.mem_of_mem_take (by simpa using hc))
  · unfold Str.length
    simp
    omega
/-- z[:a draw] -/
theorem dr_slTo {z : Str} {N : Int} (hz : z.length ≤ 1000) (h : Dr tp te σ B (fun v => ∃ r : Int, v = .int r ∧ 0 ≤ r ∧ r < N)) :
    Dr tp (tSl rSlS (tC (.str z)) tNoPart (tPart te)) σ B (fun v => ∃ x : Str, v = .str x ∧ (∀ c ∈ x.cps.toList, c ∈ z.cps.toList) ∧ x.length ≤ z.length) := fun H1 e t Q q =>
  h H1 e t _ fun v H2 e2 t2 ⟨r, hv, _, _⟩ => ⟨r, hv, z, rfl, sz_of (by omega), q _ H2 e2 t2 ⟨_, rfl, cutS_mem.1, cutS_mem.2⟩⟩
theorem rv_addS {a b : Str} (h : a.length + b.length ≤ 100000) : RV (fun x y H Q => ∃ i j, x = .str i ∧ y = .str j ∧ i.length + j.length ≤ sizeLine ∧ Q (.str (i ++ j)) H) (.str a) (.str b) H (.str (a ++ b)) := fun H1 _ _ q => ⟨a, b, rfl, rfl, sz_of h, q H1 (Ex.refl H1)⟩
theorem ixS {z : Str} {i : Int} {j c : Nat} (hz : z.length ≤ 1000) (hi : i = (j : Int)) (hc : z.cps.toList[j]? = some c) : RV rIxS (.str z) (.int i) H (.str ⟨#[c]⟩) := rv_ixS (by omega) (by rw [hi]; exact atI_nat hc)
end
end EX

set_option Elab.async false
set_option linter.all false
set_option maxRecDepth 100000
set_option maxHeartbeats 1000000
/-! list(reversed(xs)), xs a list -/
namespace LR
open PySem PySem.Spec PyProof.Rows
section
variable {prog : Program} {w : World} {A : Around} {E : Value → Shared → Prop} {s : Shared}
theorem list_rev {it l : Addr} {items : Array Value} {Q : Value → Shared → Prop} (hh : A.handled = none) (hi : s.heap.IsRevIter it l ((items.size : Int) - 1)) (hl : s.heap.IsList l items) (hne : l ≠ it) (hn : items.size ≤ sizeLine)
    (h : ∀ (h' : Heap) (tk : Nat) (acc : Array Value) (c : Nat), (∀ b o, b ≠ it → s.heap.get? b = some o → h'.get? b = some o) → h'.get? s.heap.objs.size = some { cls := .type "list", dict := none, data := .seq acc c, slots := #[] } →
      ItemsOf (fun i v => items[items.size - 1 - i]? = some v) acc items.size → Q (.ref s.heap.objs.size) { s with heap := h', toks := tk }) :
    wpAny (model prog w) A (call (.type "list") [.ref it]) Q E s := by
  refine callType_codes (Q₁ := fun x s1 => x = .ref s.heap.objs.size ∧ s1 = { s with heap := s.heap.push { cls := .type "list", data := .seq #[] } }) PySem.F.called_list (PySem.F.typeCall_list_1 _) PySem.F.entry_list_init (code_list_new _ ⟨rfl, rfl⟩) ?_
  rintro x s1 ⟨rfl, rfl⟩
  have n1 : (s.heap.push { cls := .type "list", data := .seq #[] }).get? s.heap.objs.size = some { cls := .type "list", data := .seq #[] } := Heap.get?_push_size _ rfl
  refine ⟨⟨_, n1, rfl⟩, PySem.F.args_list_init_2 _ _, ?_⟩
  show wpAny _ A.in1.in1 (do let old ← Builtin.List.listItems (.ref s.heap.objs.size); Builtin.List.listUpdate (.ref s.heap.objs.size) (fun _ => #[]); letGo old.toList.reverse; Builtin.List.listExtendWith (.ref s.heap.objs.size) (.ref it) .none) _ _ _
  refine wpAny_bind ?_
  unfold Builtin.List.listItems
  refine wpAny_bind (wpAny_seqItems n1 rfl (wpAny_pure ?_))
  refine wpAny_bind (show wpAny _ A.in1.in1 (updateSeq s.heap.objs.size (fun _ => #[])) _ _ _ from wpAny_updateSeq n1 rfl ?_)
  refine wpAny_bind (wpAny_letGo ?_)
  have n2 := Heap.get?_update_self (Obj.mapSeq (fun _ => (#[] : Array Value))) n1 rfl
  have hil : it < s.heap.objs.size := let ⟨o, e, _⟩ := hi; Heap.lt_size e
  have hll : l < s.heap.objs.size := let ⟨o, e, _⟩ := hl; Heap.lt_size e
  have keep : ∀ b o, s.heap.get? b = some o → ((s.heap.push { cls := .type "list", data := .seq #[] }).update s.heap.objs.size (Obj.mapSeq (fun _ => (#[] : Array Value)))).get? b = some o := fun b o e =>
    (Heap.get?_update_other _ _ (Nat.ne_of_gt (Heap.lt_size e))).trans (Heap.get?_push_of_some _ e)
  have hi2 := hi.at fun o e => keep it o e
  have hl2 := (show ∀ {h h' : Heap}, h.IsList l items → (∀ o, h.get? l = some o → h'.get? l = some o) → h'.IsList l items from fun x k => let ⟨o, e, r⟩ := x; ⟨o, k o e, r⟩) hl fun o e => keep l o e
  have hd2 : Obj.mapSeq (fun _ => (#[] : Array Value)) { cls := .type "list", data := .seq #[] } = { cls := .type "list", data := .seq #[] } := rfl
  rw [hd2] at n2
  clear n1
  generalize (s.heap.push { cls := .type "list", data := .seq #[] }).update s.heap.objs.size (Obj.mapSeq (fun _ => (#[] : Array Value))) = h2 at n2 keep hi2 hl2
  have ty : ({ s with heap := h2 } : Shared).TypeIs (.ref it) "list_reverseiterator" := Heap.IsRevIter.typeIs (s := { s with heap := h2 }) hi2
  have sr : Builtin.List.listSameRef (.ref s.heap.objs.size) (.ref it) = false := by simp [Builtin.List.listSameRef, Nat.ne_of_gt hil]
  unfold Builtin.List.listExtendWith
  refine wpAny_bind (wpAny_typeOf ty ?_)
  rw [if_neg (by rw [sr]; decide)]
  refine wpAny_bind (wpAny_pyIter_revIter (s := { s with heap := h2 }) hi2 (wpAny_bind (wpAny_holding ?_)))
  unfold Builtin.List.listLengthHint
  refine wpAny_bind (wpAny_specialOf ty RT.nolen_lri ?_)
  show wpAny _ A.in1.in1 (specialOf (Value.ref it) (Str.ofString "__length_hint__") >>= _) _ _ _
  refine wpAny_bind (wpAny_specialOf ty RT.hint_lri ?_)
  generalize hnm : ("list_reverseiterator.__length_hint__" : String) = nm
  wp_delta
  rw [show splitId nm = some ("list_reverseiterator", "__length_hint__") from by subst hnm; decide +kernel]
  subst hnm
  refine wpAny_bind (wpAny_isInstance (b := true) ty (by rw [isSubtype_type]; kernel_rfl) (wpAny_pure ?_))
  rw [if_neg (by decide)]
  have z0 : ((items.size : Nat) : Int) - 1 - ((0 : Nat) : Int) = (items.size : Int) - 1 := by omega
  have W := (Walks.listRev (prog := prog) (w := w) (A := A.in1.in1) hh it l hne items).toS
  refine wpAny_pure ⟨plainId_quiet PySem.F.plain_extend_loop _, codeAny_extend_loopS W hn _ (fun q => ?_) _ items.size 0 _ _ _ rfl (Nat.zero_le _) ⟨Nat.zero_le _, by rw [z0]; exact hi2, hl2⟩ n2 (ItemsOf.nil _) fun s' acc c hm at' hacc => ?_⟩
  · rcases List.mem_cons.mp q with q | q
    · exact absurd q (Nat.ne_of_gt hil)
    · exact absurd (List.mem_singleton.mp q) (Nat.ne_of_gt hll)
  · refine ⟨rfl, ?_⟩
    rw [Moved.eq_with hm]
    refine h s'.heap s'.toks acc c (fun b o hb e => hm.heap b o (fun q => ?_) (keep b o e)) at' hacc
    rcases List.mem_cons.mp q with q | q
    · exact absurd q (Nat.ne_of_lt (Heap.lt_size e))
    · exact hb (List.mem_singleton.mp q)
end
end LR
namespace L2
open PySem PySem.Spec PyProof.Rows
def tListRev (K : PySem.W.Frag) (te : TE) : TE := fun σ H Q => te σ H fun v H1 => ∃ (a : Addr) (xs : List V), v = .ref a ∧ SqL K H1 a xs ∧ ∀ q, H1 q = none → Q (.ref q) (upd H1 q (.lst xs.reverse))
theorem peListRev {X : Cx} {K : PySem.W.Frag} {e : Expr} {te : TE} {p p2 pos pos2 : Pos} (hc : X.calm = true) (hg : Gl X "list") (hm : X.mg "list" = none) (hg2 : Gl X "reversed") (hm2 : X.mg "reversed" = none) (he : PE X e te)
    (hs : starEach [e] X.env = (false, eval e X.env) :: starEach [] X.env := by rfl)
    (hs2 : starEach [.Call (.Name "reversed" p2) [e] [] pos2] X.env = (false, eval (.Call (.Name "reversed" p2) [e] [] pos2) X.env) :: starEach [] X.env := by rfl) (hK : X.K = K := by rfl) :
    PE X (.Call (.Name "list" p) [.Call (.Name "reversed" p2) [e] [] pos2] [] pos) (tListRev K te) := by
  subst hK
  refine ⟨fun pins s σ H Q I h => Call_ (ld_blt I hg hm (show bootBuiltins "list" = some (.type "list") by decide +kernel) (PyProof.Rows.callWith_type1 (args_cons (Call_ (ld_blt I hg2 hm2 PyProof.Rows.boot_reversed (PyProof.Rows.callWith_type1 (args_cons (thn (he.run pins s σ H _ I h) fun u s1 ⟨v, H1, I1, r1, a, xs, ev, hq, q⟩ => args_nil ?_) hs) hs rfl))) hs2) hs2 rfl))⟩
  subst ev
  obtain rfl : u = Value.ref a := r1
  obtain ⟨its, rv, pl, hz⟩ := I1.list hq
  have hl := pl.isList
  have hlt : a < s1.heap.objs.size := let ⟨_, e, _⟩ := hl; Heap.lt_size e
  refine call_reversed_list hl (args_nil ?_)
  have I2 : Inv X pins σ H1 { s1 with heap := s1.heap.push (revObj a ((its.toArray.size : Int) - 1)) } := I1.kept (t' := s1.toks) fun b o e => Heap.get?_push_of_some _ e
  have fp : FpOk X pins H1 s1.heap.objs.size := I1.fpOk (Nat.le_refl _) (I1.hok.fresh (Nat.le_refl _))
  refine LR.list_rev (s := { s1 with heap := s1.heap.push (revObj a ((its.toArray.size : Int) - 1)) }) (I1.ok.hd hc) ⟨_, Heap.get?_push_size _ rfl, rfl, rfl⟩ (hl.push _) (Nat.ne_of_lt hlt) (by rw [List.size_toArray, ← rv.length]; exact hz) fun h' tk acc c hk at' hi => ?_
  have new : ObjOk X.prog X.w (upd H1 (s1.heap.push (revObj a ((its.toArray.size : Int) - 1))).objs.size (.lst xs.reverse)) h' (s1.heap.push (revObj a ((its.toArray.size : Int) - 1))).objs.size (.lst xs.reverse) :=
    ⟨by rw [List.length_reverse]; exact hz, acc.toList, c, RT.vals_rev rv hi, by rw [Array.toArray_toList]; exact at'⟩
  refine ⟨.ref _, _, I2.turnedNew (t' := tk) (ch := [s1.heap.objs.size]) (fun b o hb e => hk b o (fun q => hb (by rw [q]; exact List.mem_singleton.mpr rfl)) e) (fun b hb => by rw [List.mem_singleton.mp hb]; exact fp) (Nat.le_refl _) new, rfl, q _ (I2.hok.fresh (Nat.le_refl _))⟩
end L2

set_option Elab.async false
set_option linter.all false
set_option maxRecDepth 100000
/-! what the laws on elders share beyond EX and DR -/
namespace EX
open PySem L2 Evl
theorem givenL_map {α : Type} (rs : List α) (d : α) (f : α → List V) : givenL rs.length (fun _ => true) (fun i => f (rs.getD i d)) = rs.map f := by
  unfold givenL
  rw [List.filter_eq_self.mpr (fun _ _ => rfl)]
  have := congrArg (List.map f) (range_getD rs d)
  rw [List.map_map] at this
  exact this
theorem zip_ref {qs : List Addr} {ls : List (List Str)} (h : (qs.zip ls).map (·.1) = qs) : ((qs.zip ls).map fun r => ((V.ref r.1, r.2) : VR)).map (·.1) = qs.map V.ref := by
  rw [List.map_map]
  conv => rhs; rw [← h]
  rw [List.map_map]
  rfl
theorem zip_row {qs : List Addr} {ls : List (List Str)} (h : (qs.zip ls).map (·.2) = ls) : ((qs.zip ls).map fun r => ((V.ref r.1, r.2) : VR)).map (·.2) = ls := by
  rw [List.map_map]
  exact h
theorem ev_anyIn {K : PySem.W.Frag} {σ : L2.St} {H : Hp} {iR ir : Nat} {te : TE} {R : Addr} {rs : List VR} {x : Str} (hR : SqL K H R (rs.map (·.1))) (hz : rs.length ≤ 1000) (hr : RowsP K H rs) (h1 : σ[iR]? = some (some (.ref R)))
    (hw : ∀ x, wipe ((wipe σ [ir]).set ir (some x)) [ir] = wipe σ [ir]) (hir : ∀ x, ((wipe σ [ir]).set ir (some x))[ir]? = some (some x)) (hx : ∀ y H1, Ex H H1 → Ev te ((wipe σ [ir]).set ir (some y)) H1 (.str x)) :
    Ev (tCB (rAny K) (tCons (tLc (iList K (tVar iR)) (gName ir) tYes (tOp (rIn K false) te (tSl (rSlL K) (tVar ir) (tPart (tC (V.int 1))) tNoPart)) [ir]) tNil)) σ H (.bl (!EM.free (rs.map (·.2)) x)) := by
  have e1 : (!EM.free (rs.map (·.2)) x) = ((rs.map fun o => decide (x ∈ o.2.tail)).any id) := by
    unfold EM.free
    rw [Bool.not_not, List.any_map, List.any_map]
    rfl
  rw [e1]
  refine ev_any ?_
  have e2 : (rs.map fun o => decide (x ∈ o.2.tail)).map V.bl = given (rs.map (·.1)).length (fun _ => true) (fun j => V.bl (decide (x ∈ (rs.getD j (.non, [])).2.tail))) := by
    rw [List.length_map, given_map rs (.non, []) (fun o => V.bl (decide (x ∈ o.2.tail))), List.map_map]
    rfl
  rw [e2]
  refine el_lcL (K := K) (fun _ => true) _ (ev_var h1) hR (by rw [List.length_map]; omega) hw (fun j x H1 e1 hj => ?_) (fun j y H1 e1 hj _ => ?_)
  · exact fun H2 _ Q q => q H2 (Ex.refl H2)
  · rw [List.getElem?_map] at hj
    cases hq : rs[j]? with
    | none => rw [hq] at hj; cases hj
    | some r =>
      rw [hq] at hj
      cases hj
      rw [getD_of hq, ← inV_str x r.2.tail]
      obtain ⟨p, hp, hs⟩ := hr r (mem_getElem hq)
      refine ev_opL (xs := r.2.tail.map V.str) (hx _ H1 e1) ?_ fun q H2 hq2 e2 => rv_isL (sq_of hq2) rfl (flat_str _)
      have := el_sl (K := K) (ev_var (σ := (wipe σ [ir]).set ir (some r.1)) (i := ir) (by rw [hir, hp])) (eo_some (i := 1) ev_c) eo_none (ex_l e1 hs)
      rw [cut1, ← List.map_tail] at this
      exact this
theorem strOk_of {x : Str} (h : ∀ c ∈ x.cps.toList, c < 0x110000) : PyData.strOk x = true := by
  unfold PyData.strOk
  rw [← Array.all_toList, List.all_eq_true]
  intro c hc
  exact decide_eq_true (h c hc)
theorem if_raw {σ : L2.St} {H : Hp} {te : TE} {D : Ends} {tu tw : TS} (h : te σ H fun x H1 => ∃ k, x = .bl k ∧ (if k = true then tu D σ H1 else tw D σ H1)) : tIfS (tTest te) tu tw D σ H := h
theorem q_dputG {σ : L2.St} {H : Hp} {td ty tv : TE} {D : Ends} {tz : TS} {d : Addr} {k : Key} (G : V → Hp → Prop) (hv : ∀ Q : VK, (∀ v H1, G v H1 → Q v H1) → tv σ H Q)
    (h : ∀ v H1, G v H1 → ∃ kvs, H1 d = some (.dK kvs) ∧ kvs.length < 100000 ∧ Ev td σ H1 (.ref d) ∧ Ev ty σ H1 (kV k) ∧ ∀ H2, Ex H1 H2 → tz D σ (upd H2 d (.dK (putK kvs k v)))) : tSeq (sDPut td ty tv) tz D σ H := s_dputG (D := { D with nx := tz D }) G hv h
theorem mergeK_new : ∀ (more acc : List (Key × V)), ((acc ++ more).map (·.1)).Nodup → mergeK acc more = acc ++ more
  | [], acc, _ => by simp [mergeK]
  | kv :: more, acc, h => by
    have hn : valV acc kv.1 = none := by
      cases hv : valV acc kv.1 with
      | none => rfl
      | some v =>
        have h1 := valV_in hv
        rw [List.map_append, List.nodup_append] at h
        exact absurd rfl (h.2.2 _ h1 _ (by simp))
    show mergeK (putK acc kv.1 kv.2) more = _
    rw [putK_new _ hn, mergeK_new more (acc ++ [(kv.1, kv.2)]) (by simpa using h)]
    simp
theorem valV_at {kvs : List (Key × V)} : ∀ {n : Nat} {k : Key} {v : V}, (kvs.map (·.1)).Nodup → kvs[n]? = some (k, v) → valV kvs k = some v := by
  induction kvs with
  | nil => intro n k v _ h; simp at h
  | cons p kvs ih =>
    intro n k v nd h
    cases n with
    | zero =>
      simp at h
      subst h
      exact valV_pos rfl
    | succ n =>
      have h' : kvs[n]? = some (k, v) := by simpa using h
      have hm : k ∈ kvs.map (·.1) := List.mem_map.mpr ⟨(k, v), List.mem_of_getElem? h', rfl⟩
      have hpk : ¬ p.1 = k := fun z => (List.nodup_cons.mp nd).1 (by rw [← z] at hm; exact hm)
      rw [valV_neg hpk]
      exact ih (List.nodup_cons.mp nd).2 h'
theorem paired_of {α β : Type} {F : α → β → Prop} : ∀ {ps : List α} {qs : List β}, ps.length = qs.length → (∀ (n : Nat) p q, ps[n]? = some p → qs[n]? = some q → F p q) → Paired F ps qs
  | [], [], _, _ => .nil
  | p :: ps, q :: qs, hl, h => .cons (h 0 p q rfl rfl) (paired_of (by simpa using hl) fun n a b ha hb => h (n + 1) a b (by simpa using ha) (by simpa using hb))
  | [], _ :: _, hl, _ => by simp at hl
  | _ :: _, [], hl, _ => by simp at hl
theorem nodup_map_on {α β : Type} {f : α → β} : ∀ {l : List α}, (∀ a ∈ l, ∀ b ∈ l, f a = f b → a = b) → l.Nodup → (l.map f).Nodup
  | [], _, _ => List.nodup_nil
  | a :: l, h, nd => by
    rw [List.map_cons, List.nodup_cons]
    refine ⟨fun q => ?_, nodup_map_on (fun x hx y hy => h x (List.mem_cons_of_mem _ hx) y (List.mem_cons_of_mem _ hy)) (List.nodup_cons.mp nd).2⟩
    obtain ⟨b, hb, e⟩ := List.mem_map.mp q
    have := h b (List.mem_cons_of_mem _ hb) a List.mem_cons_self e
    rw [this] at hb
    exact (List.nodup_cons.mp nd).1 hb
theorem ret_raw {σ : L2.St} {H : Hp} {te : TE} {D : Ends} (h : te σ H D.rt) : tRet te D σ H := h
theorem yes_raw {σ : L2.St} {H : Hp} {te : TE} {R : V → Hp → Prop} {S : Hp → Prop} (h : te σ H R) : tYes σ H fun b H3 => if b = true then te σ H3 (fun y H4 => R y H4) else S H3 := by
  show (if true = true then te σ H (fun y H4 => R y H4) else S H)
  rw [if_pos rfl]
  exact h
theorem drT_andF {tp : Addr} {σ : L2.St} {B : Hp} {t u : TT} {p : Bool → Prop} (h1 : DrT tp t σ B p) (h2 : DrT tp u σ B (fun b => b = false)) : DrT tp (tAnd t u) σ B (fun b => b = false) := fun H1 e tt Q k => h1 H1 e tt _ fun c H2 e2 t2 _ => by
  cases c with
  | true =>
    show u σ H2 Q
    exact h2 H2 e2 t2 Q fun c H3 e3 t3 hc => k c H3 e3 t3 hc
  | false =>
    show Q false H2
    exact k false H2 e2 t2 rfl
theorem q_forR3 {σ : L2.St} {H : Hp} {tA : TA} {j' : Nat} {tb tz : TS} {D : Ends} {i j c : Int} {m : Nat} (h : EvA tA σ H [.int i, .int j, .int c]) (hm : RgC i j c m) (Pv : Nat → L2.St → Hp → Prop) (h0 : ∀ H1, Ex H H1 → Pv 0 σ H1)
    (hs : ∀ (i' : Nat) σ' H', i' < m → Pv i' σ' H' → tb { D with nx := Pv (i' + 1), ct := Pv (i' + 1), bk := tz D } (σ'.set j' (some (.int (i + (i' : Nat) * c)))) H') (hd : ∀ σ' H', Pv m σ' H' → tz D σ' H') :
    tSeq (tFor (iRng3 tA) (gName j') tb) tz D σ H := h H (Ex.refl H) _ fun H1 e => ⟨i, j, c, m, rfl, hm, for_rangeC (D := { D with nx := tz D }) Pv (h0 H1 e) hs hd⟩

/-- text * int -/
def rMulS : R2 := fun x y H Q => ∃ (i : Str) (n : Int), x = .str i ∧ y = .int n ∧ i.length ≤ 16 ∧ -(2 ^ 63 : Int) ≤ n ∧ n ≤ 1048576 ∧ Q (.str (Txt.mul i n)) H
theorem op_mulS {X : Cx} : OpR X (binaryOp .Mult) rMulS := by
  intro pins s σ H x y v u Q I rx ry h
  obtain ⟨i, n, rfl, rfl, hz, h1, h2, q⟩ := h
  obtain ⟨t, rfl⟩ := rx
  obtain ⟨t', rfl⟩ := ry
  exact SB.mul (PyProof.Rows.mulOk_of 16 1048576 hz h2 h1 (by decide) (by decide)) fun t' tk => ⟨.str (Txt.mul i n), H, I.tok _, ⟨_, rfl⟩, q⟩
section
variable {σ : L2.St} {H : Hp} {ta tb te : TE}
theorem rv_mulS {c : Nat} {n : Nat} (h : n ≤ 1000) : RV rMulS (.str ⟨#[c]⟩) (.int (n : Nat)) H (.str ⟨(List.replicate n c).toArray⟩) := fun H1 _ _ q => ⟨⟨#[c]⟩, n, rfl, rfl, (by decide : 1 ≤ 16), by omega, by omega, by
  have : Txt.mul ⟨#[c]⟩ ((n : Nat) : Int) = ⟨(List.replicate n c).toArray⟩ := by
    have h := PyProof.Rows.mul_one_list c ((n : Nat) : Int)
    rw [Int.toNat_natCast] at h
    have : (Txt.mul ⟨#[c]⟩ ((n : Nat) : Int)).cps = (List.replicate n c).toArray := by rw [← h]
    exact congrArg Str.mk this
  rw [this]
  exact q H1 (Ex.refl H1)⟩
/-- z[:n] -/
theorem ev_slS {z : Str} {k : Nat} {to : TO} (hz : z.length ≤ 1000) (h : Ev ta σ H (.str z)) (ho : EvO to σ H (some (k : Int))) : Ev (tSl rSlS ta tNoPart to) σ H (.str ⟨(z.cps.toList.take k).toArray⟩) := fun H1 e Q q =>
  h H1 e _ fun H2 e2 => ho H2 (e.trans e2) _ fun H3 e3 => ⟨z, rfl, sz_of (by omega), by
    have : cutS z none (some (k : Int)) = ⟨(z.cps.toList.take k).toArray⟩ := by
      unfold cutS
      rw [HT.sIx_none, HT.sIx_nat, List.drop_zero, Nat.sub_zero]
      congr 2
      have hl : z.length = z.cps.toList.length := (Array.length_toList).symm
      rw [hl]
      by_cases h : k ≤ z.cps.toList.length
      · rw [Nat.min_eq_left h]
      · rw [Nat.min_eq_right (by omega), List.take_of_length_le (Nat.le_refl _), List.take_of_length_le (by omega)]
    rw [this]
    exact q H3 (e2.trans e3)⟩
end
end EX

set_option Elab.async false
set_option linter.all false
set_option maxRecDepth 100000
namespace K
open PySem L2 Evl EX
def top (i : Nat) : Stmt := PySem.Challenge.pw_snakehall_k19_orders_of_elders.main.body.getD i (.Pass ⟨0, 0, 0, 0⟩)
abbrev s_next_title : Stmt := top 1
abbrev N_next_title : List Str := ["lists", "one", "other"]
theorem sc_next_title : FnScope N_next_title ["lists"] (defScope s_next_title) := ⟨rfl, rfl, rfl, by decide +kernel, rfl, by decide +kernel, by decide +kernel⟩
abbrev s_merged : Stmt := top 2
abbrev N_merged : List Str := ["lists", "left", "order", "title", "one"]
theorem sc_merged : FnScope N_merged ["lists"] (defScope s_merged) := ⟨rfl, rfl, rfl, by decide +kernel, rfl, by decide +kernel, by decide +kernel⟩
abbrev s_order_by : Stmt := top 3
abbrev N_order_by : List Str := ["title", "elders", "orders", "lists", "behind", "elder"]
theorem sc_order_by : FnScope N_order_by ["title", "elders", "orders"] (defScope s_order_by) := ⟨rfl, rfl, rfl, by decide +kernel, rfl, by decide +kernel, by decide +kernel⟩
abbrev s_order_of : Stmt := top 4
abbrev N_order_of : List Str := ["elders", "title", "orders", "waiting", "here", "lacking", "elder"]
theorem sc_order_of : FnScope N_order_of ["elders", "title"] (defScope s_order_of) := ⟨rfl, rfl, rfl, by decide +kernel, rfl, by decide +kernel, by decide +kernel⟩
abbrev s__law_cell_at : Stmt := top 6
abbrev N__law_cell_at : List Str := ["_law_script", "_law_k"]
theorem sc__law_cell_at : FnScope N__law_cell_at ["_law_script", "_law_k"] (defScope s__law_cell_at) := ⟨rfl, rfl, rfl, by decide +kernel, rfl, by decide +kernel, by decide +kernel⟩
abbrev s__law_mixed : Stmt := top 7
abbrev N__law_mixed : List Str := ["_law_number", "_law_k", "_law_once", "_law_twice"]
theorem sc__law_mixed : FnScope N__law_mixed ["_law_number", "_law_k"] (defScope s__law_mixed) := ⟨rfl, rfl, rfl, by decide +kernel, rfl, by decide +kernel, by decide +kernel⟩
abbrev s__law_tap : Stmt := top 8
abbrev N__law_tap : List Str := ["_law_cell"]
theorem sc__law_tap : FnScope N__law_tap ["_law_cell"] (defScope s__law_tap) := ⟨rfl, rfl, rfl, by decide +kernel, rfl, by decide +kernel, by decide +kernel⟩
abbrev s__law_next : Stmt := top 9
abbrev N__law_next : List Str := ["_law_tap_here", "_law_size", "_law_digit"]
theorem sc__law_next : FnScope N__law_next ["_law_tap_here", "_law_size"] (defScope s__law_next) := ⟨rfl, rfl, rfl, by decide +kernel, rfl, by decide +kernel, by decide +kernel⟩
abbrev s__law_menu : Stmt := top 10
abbrev N__law_menu : List Str := ["_law_tap_here", "_law_many", "_law_letters", "_law_first", "_law_size", "_law_near", "_law_found", "_law_k", "_law_way", "_law_name"]
theorem sc__law_menu : FnScope N__law_menu ["_law_tap_here", "_law_many"] (defScope s__law_menu) := ⟨rfl, rfl, rfl, by decide +kernel, rfl, by decide +kernel, by decide +kernel⟩
abbrev s__law_one_of : Stmt := top 11
abbrev N__law_one_of : List Str := ["_law_tap_here", "_law_some"]
theorem sc__law_one_of : FnScope N__law_one_of ["_law_tap_here", "_law_some"] (defScope s__law_one_of) := ⟨rfl, rfl, rfl, by decide +kernel, rfl, by decide +kernel, by decide +kernel⟩
abbrev s__law_elders : Stmt := top 12
abbrev N__law_elders : List Str := ["_law_tap_here", "_law_many", "_law_wild", "_law_titles", "_law_own", "_law_k", "_law_some", "_law_turn", "_law_elder", "_law_order_here", "_law_title"]
theorem sc__law_elders : FnScope N__law_elders ["_law_tap_here", "_law_many", "_law_wild"] (defScope s__law_elders) := ⟨rfl, rfl, rfl, by decide +kernel, rfl, by decide +kernel, by decide +kernel⟩
abbrev s__law_order : Stmt := top 13
abbrev N__law_order : List Str := ["_law_elders_here", "_law_title", "_law_known", "_law_rows", "_law_elder"]
theorem sc__law_order : FnScope N__law_order ["_law_elders_here", "_law_title", "_law_known"] (defScope s__law_order) := ⟨rfl, rfl, rfl, by decide +kernel, rfl, by decide +kernel, by decide +kernel⟩
abbrev s__law_head : Stmt := top 14
abbrev N__law_head : List Str := ["_law_rows", "_law_at", "_law_k", "_law_head_here", "_law_j"]
theorem sc__law_head : FnScope N__law_head ["_law_rows", "_law_at"] (defScope s__law_head) := ⟨rfl, rfl, rfl, by decide +kernel, rfl, by decide +kernel, by decide +kernel⟩
abbrev s__law_laid : Stmt := top 15
abbrev N__law_laid : List Str := ["_law_title", "_law_rows", "_law_at", "_law_laid_here", "_law_head_here", "_law_k"]
theorem sc__law_laid : FnScope N__law_laid ["_law_title", "_law_rows"] (defScope s__law_laid) := ⟨rfl, rfl, rfl, by decide +kernel, rfl, by decide +kernel, by decide +kernel⟩
abbrev s__law_told_right : Stmt := top 16
abbrev N__law_told_right : List Str := ["_law_elders_here", "_law_title", "_law_due", "_law_turn", "_law_found"]
theorem sc__law_told_right : FnScope N__law_told_right ["_law_elders_here", "_law_title", "_law_due"] (defScope s__law_told_right) := ⟨rfl, rfl, rfl, by decide +kernel, rfl, by decide +kernel, by decide +kernel⟩
abbrev s_law : Stmt := top 17
abbrev N_law : List Str := ["_law_script", "_law_k", "_law_cell", "_law_tap_here", "_law_titles", "_law_elders_here", "_law_kept", "_law_known", "_law_title"]
theorem sc_law : FnScope N_law ["_law_script"] (defScope s_law) := ⟨rfl, rfl, rfl, by decide +kernel, rfl, by decide +kernel, by decide +kernel⟩
structure Txt (mg : Str → Option Value) : Prop where
  any : mg "any" = none
  len : mg "len" = none
  list : mg "list" = none
  set : mg "set" = none
  abs : mg "abs" = none
  int : mg "int" = none
  range : mg "range" = none
  reversed : mg "reversed" = none
  enumerate : mg "enumerate" = none
  dict : mg "dict" = none
  max : mg "max" = none
  min : mg "min" = none
  str : mg "str" = none
  isinstance : mg "isinstance" = none
  sorted : mg "sorted" = none
  all : mg "all" = none
  tuple : mg "tuple" = none
  bool : mg "bool" = none
theorem getD_tail (ls : List (List Str)) (j : Nat) : ∀ {l}, ls[j]? = some l → (ls.getD j []) = l := by
  intro l h
  rw [List.getD_eq_getElem?_getD, h]
  rfl
theorem given_all {α : Type} (ls : List α) (d : α) (f : α → V) : given ls.length (fun _ => true) (fun j => f (ls.getD j d)) = ls.map f := by
  unfold given
  rw [List.filter_eq_self.mpr (fun _ _ => rfl)]
  apply List.ext_getElem?
  intro j
  by_cases h : j < ls.length
  · rw [List.getElem?_map, List.getElem?_map, List.getElem?_range h, List.getElem?_eq_getElem h]
    show some (f (ls.getD j d)) = some (f ls[j])
    rw [List.getD_eq_getElem?_getD, List.getElem?_eq_getElem h]
    rfl
  · rw [List.getElem?_eq_none (by simp; omega), List.getElem?_eq_none (by simp; omega)]
section
variable {P : Program} {w : World} {K : PySem.W.Frag} {mg : Str → Option Value} {base : Heap}
def spNext (K : PySem.W.Frag) : Sp := fun vs H Q _ => ∃ (a : Addr) (ps : List V) (ls : List (List Str)), vs = [.ref a] ∧ SqL K H a ps ∧ Rows K H ps ls ∧ ls.length ≤ 1000 ∧ (∀ l ∈ ls, l ≠ []) ∧ RetV (optS (EM.nextT ls)) H Q
theorem ok_next {f : Addr} {fd : FuncData} (F : Fun K "next_title" "next_title" s_next_title f fd) (T : Txt mg) : FnOk P w K mg base CX0 1 f fd ["lists"] (spNext K) := by
  refine F.ok sc_next_title (fun vs H Q E h => ?_) (fun cdv A outer s H vs Q E hr h => ?_)
  · obtain ⟨a, ps, ls, rfl, _⟩ := h
    rfl
  · obtain ⟨a, ps, ls, rfl, hS, hR, hz, hne, k⟩ := h
    refine ⟨_, pss_cons (ps_for PassesOwn.never rfl (piL (K := K) (pv 0)) (pg_name (i := 1) sc_next_title.nd rfl (Or.inr rfl))
        (pss_one (ps_if (pt_not (pt_val (pe_callB (crAny (K := K)) (by rfl) T.any (by decide +kernel) (pa_cons (pe_lc (own := [("other", 2)]) (g := gName 2) (tt := tYes) rfl sc_next_title.nd (piL (K := K) (pv 0)) (blkOk_by (N := N_next_title) (sc := defScope s_next_title) (by decide +kernel)) (fun _ _ _ _ _ => pg_name (i := 2) sc_next_title.nd rfl (Or.inl rfl)) (fun _ _ _ _ _ => pts_nil) (fun _ _ _ _ _ => pe_cmpR (opIn (K := K)) (pe_ix (ixL (K := K)) (pv 1) (pe_int) (fun _ _ => rfl)) (pe_slice (slL (K := K)) (pv 2) (po_some (pe_int)) po_none) (by rfl))) pa_nil))))
          (pss_one (ps_ret (pe_ix (ixL (K := K)) (pv 1) (pe_int) (fun _ _ => rfl))))
          (pss_nil))))
      (pss_one (ps_ret (pe_non))), ?_⟩
    have hlen : ps.length = ls.length := hR.1
    refine q_forLn (K := K) (ev_var rfl) hS (fun i σ H' => ∃ v o, σ = [some (.ref a), v, o] ∧ Ex H H' ∧ ∀ l ∈ ls.take i, ∀ t, l.head? = some t → EM.free ls t = false) ?_ ?_ ?_ ?_
    · intro H1 e
      exact ⟨_, _, rfl, e, fun l hl => by simp at hl⟩
    · rintro i σ H' _ ⟨v, o, rfl, e, _⟩
      exact ex_l e hS
    · rintro i x σ H' hi ⟨v, o, rfl, e, hp⟩
      obtain ⟨p, l, rfl, hl, hq⟩ := (hR.mono e).at hi
      obtain ⟨t, r, rfl⟩ : ∃ t r, l = t :: r := by
        cases l with
        | nil => exact absurd rfl (hne _ (List.mem_of_getElem? hl))
        | cons t r => exact ⟨t, r, rfl⟩
      have hb : EvT (tNot (tB (tCB (rAny K) (tCons (tLc (iList K (tVar 0)) (gName 2) tYes (tOp (rIn K false) (tOp (rIxL K) (tVar 1) (tC (V.int 0))) (tSl (rSlL K) (tVar 2) (tPart (tC (V.int 1))) tNoPart)) (List.map (fun x => x.snd) [(Str.ofString "other", 2)])) tNil))))
          [some (V.ref a), some (V.ref p), o] H' (EM.free ls t) := by
        have e1 : EM.free ls t = !((ls.map fun o => decide (t ∈ o.tail)).any id) := by
          unfold EM.free
          rw [List.any_map]
          rfl
        rw [e1]
        refine et_not (et_B (ev_any ?_))
        have e2 : (ls.map fun o => decide (t ∈ o.tail)).map V.bl = given ps.length (fun _ => true) (fun j => V.bl (decide (t ∈ (ls.getD j []).tail))) := by
          rw [hlen, given_all ls [] (fun o => V.bl (decide (t ∈ o.tail))), List.map_map]
          rfl
        rw [e2]
        refine el_lcL (K := K) (fun _ => true) _ (ev_var rfl) (ex_l e hS) (by omega) (fun x => rfl) (fun j x H1 e1 hj => ?_) (fun j x H1 e1 hj _ => ?_)
        · exact fun H2 _ Q q => q H2 (Ex.refl H2)
        · obtain ⟨p', l', rfl, hl', hq'⟩ := (hR.mono (e.trans e1)).at hj
          rw [getD_tail ls j hl', ← inV_str t l'.tail]
          refine ev_opL (xs := l'.tail.map V.str) (x := V.str t) (ev_op (ev_var rfl) ev_c (rv_ixL (ex_l e1 hq) at0)) ?_ fun q H2 hq2 e2 => rv_isL (sq_of hq2) rfl (flat_str _)
          have := el_sl (K := K) (ev_var (σ := [some (V.ref a), some (V.ref p), some (V.ref p')]) (i := 2) rfl) (eo_some (i := 1) ev_c) eo_none hq'
          rw [cut1, ← List.map_tail] at this
          exact this
      refine s_when hb (fun ht H1 e1 => ?_) (fun ht H1 e1 => ?_)
      · refine s_ret (v := .str t) (ev_op (ev_var rfl) ev_c (rv_ixL (ex_l e1 hq) at0)) fun H2 e2 => ?_
        have hn : EM.nextT ls = some t := EM.nextT_at hl rfl ht hp
        rw [hn] at k
        exact k.go (e.trans (e1.trans e2))
      · refine ⟨_, _, rfl, e.trans e1, fun l' hl' t' ht' => ?_⟩
        rw [List.take_add_one, hl] at hl'
        rcases List.mem_append.mp hl' with q | q
        · exact hp l' q t' ht'
        · simp at q
          subst q
          simp at ht'
          subst ht'
          exact ht
    · rintro σ H' ⟨v, o, rfl, e, hp⟩
      have hn : EM.nextT ls = none := EM.nextT_no (by rwa [List.take_of_length_le (by omega)] at hp)
      rw [hn] at k
      exact s_ret ev_c fun H2 e2 => k.go (e.trans e2)
end
end K

set_option Elab.async false
set_option linter.all false
set_option maxRecDepth 100000
namespace K
open PySem L2 Evl EX
/-- a list of texts or none -/
def RetO (r : Option (List Str)) (H : Hp) (Q : VK) : Prop := match r with
  | none => RetV .non H Q
  | some l => RetL (l.map V.str) H Q
abbrev Rw := Addr × List Str
/-- rows of our own: their addresses apart from one another, made behind H -/
structure Own (H H' : Hp) (rs : List Rw) : Prop where
  nd : (rs.map (·.1)).Nodup
  new : ∀ r ∈ rs, H r.1 = none
  at_ : ∀ r ∈ rs, H' r.1 = some (.lst (r.2.map V.str))
theorem Own.mono {H H' H2 : Hp} {rs : List Rw} (o : Own H H' rs) (e : Ex H' H2) : Own H H2 rs := ⟨o.nd, o.new, fun r hr => e _ _ (o.at_ r hr)⟩
theorem Own.rows {K : PySem.W.Frag} {H H' : Hp} {rs : List Rw} (o : Own H H' rs) : Rows K H' (rs.map fun r => V.ref r.1) (rs.map (·.2)) := by
  refine ⟨by simp, fun i l h => ?_⟩
  rw [List.getElem?_map] at h
  cases hr : rs[i]? with
  | none => rw [hr] at h; cases h
  | some r =>
    rw [hr] at h
    cases h
    exact ⟨r.1, by rw [List.getElem?_map, hr]; rfl, sq_of (o.at_ r (List.mem_of_getElem? hr))⟩
theorem own_of {H H' : Hp} {D : Addr} {qs : List Addr} {ls : List (List Str)} (r : NewL H H' D qs (ls.map fun l => l.map V.str)) : Own H H' (qs.zip ls) ∧ (qs.zip ls).map (·.1) = qs ∧ (qs.zip ls).map (·.2) = ls := by
  have hl : qs.length = ls.length := by rw [r.rows.1, List.length_map]
  have h1 : (qs.zip ls).map (·.1) = qs := List.map_fst_zip (by omega)
  have h2 : (qs.zip ls).map (·.2) = ls := List.map_snd_zip (by omega)
  refine ⟨⟨by rw [h1]; exact r.nd, fun x hx => r.new _ (List.of_mem_zip hx).1, fun x hx => ?_⟩, h1, h2⟩
  obtain ⟨i, hi, e⟩ := List.getElem_of_mem hx
  rw [List.length_zip] at hi
  have hi1 : i < qs.length := by omega
  have hi2 : i < ls.length := by omega
  rw [List.getElem_zip] at e
  obtain ⟨q, a1, a2⟩ := r.rows.2 i (ls[i].map V.str) (by rw [List.getElem?_map, List.getElem?_eq_getElem hi2]; rfl)
  rw [List.getElem?_eq_getElem hi1] at a1
  cases a1
  subst e
  exact a2
theorem nodup_ix' {α : Type} {l : List α} (hN : l.Nodup) {i j : Nat} {x : α} (a : l[i]? = some x) (b : l[j]? = some x) : i = j := nd_ix hN a b
section
variable {P : Program} {w : World} {K : PySem.W.Frag} {mg : Str → Option Value} {base : Heap}
def spMerged (K : PySem.W.Frag) : Sp := fun vs H Q _ => ∃ (a : Addr) (ps : List V) (ls : List (List Str)), vs = [.ref a] ∧ SqL K H a ps ∧ Rows K H ps ls ∧ ls.length ≤ 1000 ∧ EM.tot ls ≤ 10000 ∧ RetO (EM.merge ls) H Q
theorem ok_merged {f : Addr} {fd : FuncData} (F : Fun K "merged" "merged" s_merged f fd) (T : Txt mg) (G_next_title : Def P w K mg base 1 "next_title" ["lists"] (spNext K)) : FnOk P w K mg base CX0 2 f fd ["lists"] (spMerged K) := by
  refine F.ok sc_merged (fun vs H Q E h => ?_) (fun cdv A outer s H vs Q E hr h => ?_)
  · obtain ⟨a, ps, ls, rfl, _⟩ := h
    rfl
  · obtain ⟨a, ps, ls, rfl, hS, hR, hz, ht, k⟩ := h
    have hlen : ps.length = ls.length := hR.1
    refine ⟨_, pss_cons (ps_setLc (i := 1) (own := [("one", 4)]) (g := gName 4) rfl sc_merged.nd rfl rfl (sw_true rfl rfl rfl (by decide +kernel)) (piL (K := K) (pv 0)) (blkOk_by (N := N_merged) (sc := defScope s_merged) (by decide +kernel)) (fun _ _ _ _ _ => pg_name (i := 4) sc_merged.nd rfl (Or.inl rfl)) (fun _ _ _ _ _ => pts_one (pt_cmpR op_gt (pe_callB (clLen (K := K)) (by rfl) T.len (by decide +kernel) (pa_cons (pv 4) pa_nil)) (pe_int) (nomark _))) (fun _ _ _ _ _ => pe_callTy (clList (K := K)) (by rfl) T.list (by decide +kernel) (pa_cons (pv 4) pa_nil)))
      (pss_cons (ps_set (i := 2) sc_merged.nd rfl (Or.inl rfl) (pe_lst (pa_nil)))
      (pss_cons (ps_while PassesOwn.never (pt_cmpR op_gt (pe_callB (clLen (K := K)) (by rfl) T.len (by decide +kernel) (pa_cons (pv 1) pa_nil)) (pe_int) (nomark _))
        (pss_cons (ps_set (i := 3) sc_merged.nd rfl (Or.inl rfl) (pe_def G_next_title (hr.mono (by decide)) (by rfl) (pa_cons (pv 1) pa_nil)))
        (pss_cons (ps_if (pt_cmpR op_isN (pv 3) (pe_non) (nomark _))
          (pss_one (ps_ret (pe_non)))
          (pss_nil))
        (pss_cons (ps_expr (peBm (K := K) PySem.F.plainAttrs_list PySem.F.slot_list_append PySem.F.type_list_append mt_append (pv 2) (pa_cons (pv 3) pa_nil)))
        (pss_cons (ps_for PassesOwn.never rfl (piL (K := K) (pv 1)) (pg_name (i := 4) sc_merged.nd rfl (Or.inl rfl))
          (pss_one (ps_if (pt_cmpR op_eq (pe_ix (ixL (K := K)) (pv 4) (pe_int) (fun _ _ => rfl)) (pv 3) (nomark _))
            (pss_one (ps_expr (peBm (K := K) PySem.F.plainAttrs_list PySem.F.slot_list_pop PySem.F.type_list_pop mt_popAt (pv 4) (pa_cons (pe_int) pa_nil))))
            (pss_nil))))
        (pss_one (ps_setLc (i := 1) (own := [("one", 4)]) (g := gName 4) rfl sc_merged.nd rfl rfl (sw_true rfl rfl rfl (by decide +kernel)) (piL (K := K) (pv 1)) (blkOk_by (N := N_merged) (sc := defScope s_merged) (by decide +kernel)) (fun _ _ _ _ _ => pg_name (i := 4) sc_merged.nd rfl (Or.inl rfl)) (fun _ _ _ _ _ => pts_one (pt_cmpR op_gt (pe_callB (clLen (K := K)) (by rfl) T.len (by decide +kernel) (pa_cons (pv 4) pa_nil)) (pe_int) (nomark _))) (fun _ _ _ _ _ => pv 4))))))))
      (pss_one (ps_ret (pv 2))))), ?_⟩
    -- left = [list(one) for one in lists if len(one) > 0]
    refine q_lcNew (K := K) (fun i => !(ls.getD i []).isEmpty) (fun i => (ls.getD i []).map V.str) (ev_var rfl) hS (by omega) (fun x => rfl) ?_ ?_ ?_
    · intro i x H1 e1 hi
      obtain ⟨p, l, rfl, hl, hq⟩ := (hR.mono e1).at hi
      rw [getD_of hl]
      refine et_test (ev_is (ev_op (ev_len (K := K) (ev_var rfl) hq) ev_c rv_I0) ?_)
      cases l <;> simp
    · intro i x H1 e1 hi _
      obtain ⟨p, l, rfl, hl, hq⟩ := (hR.mono e1).at hi
      rw [getD_of hl]
      exact el_list (K := K) (ev_var rfl) hq
    · intro L qs H1 hN
      rw [show givenL ps.length (fun i => !(ls.getD i []).isEmpty) (fun i => (ls.getD i []).map V.str) = (EM.live ls).map (fun l => l.map V.str) by
        rw [hlen]
        exact range_filter ls [] (fun l => !l.isEmpty) (fun l => l.map V.str)] at hN
      obtain ⟨own, z1, z2⟩ := own_of hN
      generalize qs.zip (EM.live ls) = rs at own z1 z2
      subst z1
      have atL := hN.at_
      have exL := hN.ex
      rw [List.map_map] at atL
      clear hN hS hR
      -- order = []
      refine q_asgL (el_lst ea_nil (Nat.zero_le _)) fun O H2 nO e2 atO => ?_
      have hO : H O = none := fresh_back exL nO
      have hOr : ∀ r ∈ rs, O ≠ r.1 := fun r hr z => by
        have := own.at_ r hr
        rw [← z, nO] at this
        cases this
      refine q_while (fun m σ H' => ∃ (L : Addr) (rs : List Rw) (od : List Str) (v3 v4 : Option V), σ = [some (.ref a), some (.ref L), some (.ref O), v3, v4] ∧ Ex H H' ∧ H' O = some (.lst (od.map V.str)) ∧
          H' L = some (.lst (rs.map fun r => V.ref r.1)) ∧ O ≠ L ∧ Own H H' rs ∧ (∀ r ∈ rs, O ≠ r.1) ∧ (∀ r ∈ rs, r.2 ≠ []) ∧ od.length + EM.tot (rs.map (·.2)) ≤ 10000 ∧ rs.length ≤ 1000 ∧ m = EM.tot (rs.map (·.2)) ∧
          EM.merge ls = (EM.merge (rs.map (·.2))).map (od ++ ·)) (EM.tot (rs.map (·.2))) ?_ ?_
      · refine ⟨L, rs, [], _, _, rfl, exL.trans e2, atO, e2 _ _ atL, fun z => ?_, own.mono e2, hOr, ?_, ?_, ?_, rfl, ?_⟩
        · rw [z, atL] at nO
          cases nO
        · intro r hr
          have : r.2 ∈ EM.live ls := by rw [← z2]; exact List.mem_map.mpr ⟨r, hr, rfl⟩
          have := (List.mem_filter.mp this).2
          intro q
          rw [q] at this
          cases this
        · rw [z2, EM.tot_live]
          simpa using ht
        · have : rs.length = (EM.live ls).length := by rw [← z2, List.length_map]
          rw [this]
          exact Nat.le_trans (List.length_filter_le _ _) hz
        · rw [z2, EM.merge_live]
          cases EM.merge ls <;> simp
      · clear own atL exL nO e2 atO hOr z2 rs L H1 H2
        rintro m σ H' ⟨L, rs, od, v3, v4, rfl, e, atO, atL, nOL, own, hOr, hne, hB, hrl, rfl, hm⟩
        refine ⟨!rs.isEmpty, et_test (ev_is (ev_op (ev_len (K := K) (ev_var rfl) (sq_of atL)) ev_c rv_I0) ?_), fun hb H1 e1 => ⟨_, fun σ2 H2 h => h, ?_⟩, fun hb H1 e1 => ?_⟩
        · cases rs <;> simp
        · -- title = next_title(left)
          refine q_asg (v := optS (EM.nextT (rs.map (·.2)))) (ev_call (ea_cons (ev_var rfl) ea_nil) fun H2 e2 Q' q' E' => ⟨L, _, _, rfl, sq_of ((e1.trans e2) _ _ atL), (own.mono (e1.trans e2)).rows, by simpa using hrl, ?_, fun H3 e3 => q' H3 e3⟩) fun H2 e2 => ?_
          · intro l hl
            obtain ⟨r, hr, rfl⟩ := List.mem_map.mp hl
            exact hne r hr
          have hlive : EM.live (rs.map (·.2)) ≠ [] := by
            rw [EM.live_of_ne fun l hl => by
              obtain ⟨r, hr, rfl⟩ := List.mem_map.mp hl
              exact hne r hr]
            intro q
            rw [List.map_eq_nil_iff] at q
            subst q
            cases hb
          have e12 := e1.trans e2
          cases hn : EM.nextT (rs.map (·.2)) with
          | none =>
            refine q_when (b := true) (et_test (ev_op (ev_var rfl) ev_c rv_isN)) (fun _ H3 e3 => ?_) (fun q => nomatch q)
            refine s_ret ev_c fun H4 e4 => ?_
            rw [hm, EM.merge_none hlive hn] at k
            exact RetV.go (show RetV .non H Q from k) (e.trans (e12.trans (e3.trans e4)))
          | some t =>
            refine q_when (b := false) (et_test (ev_op (ev_var rfl) ev_c rv_isN)) (fun q => nomatch q) (fun _ H3 e3 => ?_)
            have e13 := e12.trans e3
            -- order.append(title)
            refine q_app (K := K) (e13 _ _ atO) (ev_var rfl) (ev_var rfl) (by rw [List.length_map]; omega) fun H4 e4 => ?_
            have e14 := e13.trans e4
            -- for one in left
            have hL5 : upd H4 O (.lst (od.map V.str ++ [V.str t])) L = some (.lst (rs.map fun r => V.ref r.1)) := by rw [upd_ne (Ne.symm nOL)]; exact e14 _ _ atL
            have hd := (EM.tot_drop_lt t _ (EM.nextT_mem hn))
            refine q_forLn (K := K) (ev_var rfl) (sq_of hL5) (fun i σ H'' => ∃ v4, σ = [some (.ref a), some (.ref L), some (.ref O), some (.str t), v4] ∧ Ex H H'' ∧ H'' O = some (.lst ((od ++ [t]).map V.str)) ∧ H'' L = some (.lst (rs.map fun r => V.ref r.1)) ∧
              ∀ j r, rs[j]? = some r → H'' r.1 = some (.lst ((if j < i then EM.dropH t r.2 else r.2).map V.str))) ?_ ?_ ?_ ?_
            · intro H5 e5
              refine ⟨_, rfl, (Ex.mut (e.trans e14) hO).trans e5, e5 _ _ (by rw [upd_same]; simp [optS]), e5 _ _ hL5, fun j r hr => ?_⟩
              have hrm := List.mem_of_getElem? hr
              rw [if_neg (by omega)]
              refine e5 _ _ ?_
              rw [upd_ne (Ne.symm (hOr r hrm))]
              exact e14 _ _ (own.at_ r hrm)
            · rintro i σ' H'' _ ⟨_, rfl, _, _, hL, _⟩
              exact sq_of hL
            · rintro i x σ' H'' hi ⟨v4', rfl, e5, hO5, hL, hrows⟩
              rw [List.getElem?_map] at hi
              cases hr : rs[i]? with
              | none => rw [hr] at hi; cases hi
              | some r =>
                rw [hr] at hi
                cases hi
                have hrm := List.mem_of_getElem? hr
                have hat := hrows i r hr
                rw [if_neg (by omega)] at hat
                obtain ⟨p, l⟩ := r
                obtain ⟨y, tl, rfl⟩ : ∃ y tl, l = y :: tl := by
                  cases l with
                  | nil => exact absurd rfl (hne _ hrm)
                  | cons y tl => exact ⟨y, tl, rfl⟩
                have hstep : ∀ (H6 : Hp), (∀ a o, a ≠ p → H'' a = some o → H6 a = some o) → H6 p = some (.lst ((EM.dropH t (y :: tl)).map V.str)) → ∀ j r, rs[j]? = some r → H6 r.1 = some (.lst ((if j < i + 1 then EM.dropH t r.2 else r.2).map V.str)) := by
                  intro H6 kp hp6 j r' hj
                  by_cases q : j = i
                  · subst q
                    rw [hr] at hj
                    cases hj
                    rw [if_pos (by omega)]
                    exact hp6
                  · have hne' : r'.1 ≠ p := fun z => q (nodup_ix' own.nd (x := p) (by rw [List.getElem?_map, hj]; exact congrArg some z) (by rw [List.getElem?_map, hr]; rfl))
                    have := hrows j r' hj
                    by_cases hji : j < i
                    · rw [if_pos hji] at this
                      rw [if_pos (by omega)]
                      exact kp _ _ hne' this
                    · rw [if_neg hji] at this
                      rw [if_neg (by omega)]
                      exact kp _ _ hne' this
                refine s_when (b := decide (y = t)) (et_test (ev_is (ev_op (ev_op (ev_var rfl) ev_c (rv_ixL (K := K) (sq_of hat) at0)) (ev_var rfl) (rv_eq rfl)) ?_)) (fun hb H6 e6 => ?_) (fun hb H6 e6 => ?_)
                · rw [dec_str]
                  by_cases q : y = t <;> simp [q]
                · have hyt : y = t := of_decide_eq_true hb
                  have hLp : L ≠ p := ne_of hL hat (fun z => by
                    injection z with z1
                    cases rs with
                    | nil => simp at hr
                    | cons r0 rs0 => simp at z1)
                  refine s_pop0 (K := K) (e6 _ _ hat) (ev_var rfl) ev_c fun H7 e7 => ?_
                  refine ⟨_, rfl, Ex.mut (e5.trans (e6.trans e7)) (own.new _ hrm), ?_, ?_, hstep _ (fun b o hb' ho => ?_) ?_⟩
                  · rw [upd_ne (hOr _ hrm)]
                    exact (e6.trans e7) _ _ hO5
                  · rw [upd_ne hLp]
                    exact (e6.trans e7) _ _ hL
                  · rw [upd_ne hb']
                    exact (e6.trans e7) _ _ ho
                  · have hd' : EM.dropH t (y :: tl) = tl := by
                      unfold EM.dropH
                      rw [if_pos (by rw [hyt]; rfl)]
                      rfl
                    rw [upd_same, hd']
                · have hyt : ¬ y = t := of_decide_eq_false hb
                  refine ⟨_, rfl, e5.trans e6, e6 _ _ hO5, e6 _ _ hL, hstep _ (fun b o _ ho => e6 _ _ ho) ?_⟩
                  have hd' : EM.dropH t (y :: tl) = y :: tl := by
                    unfold EM.dropH
                    rw [if_neg (by intro z; exact hyt (Option.some.inj z))]
                  rw [hd']
                  exact e6 _ _ hat
            · rintro σ' H'' ⟨v4', rfl, e5, hO5, hL, hrows⟩
              -- left = [one for one in left if len(one) > 0]
              have hrow : ∀ r ∈ rs, H'' r.1 = some (.lst ((EM.dropH t r.2).map V.str)) := fun r hr => by
                obtain ⟨j, hj, e⟩ := List.getElem_of_mem hr
                have := hrows j r (by rw [List.getElem?_eq_getElem hj, e])
                rwa [if_pos (by simpa using hj)] at this
              have hg : given (rs.map fun r => V.ref r.1).length (fun i => !(EM.dropH t (rs.getD i (0, [])).2).isEmpty) (fun i => V.ref (rs.getD i (0, [])).1) = ((rs.map fun r => (r.1, EM.dropH t r.2)).filter fun r => !r.2.isEmpty).map fun r => V.ref r.1 := by
                rw [List.length_map, given_filter rs (0, []) (fun r => !(EM.dropH t r.2).isEmpty) (fun r => V.ref r.1), List.filter_map, List.map_map]
                rfl
              refine s_asgL (xs := ((rs.map fun r => (r.1, EM.dropH t r.2)).filter fun r => !r.2.isEmpty).map fun r => V.ref r.1) ?_ fun p H6 hp e6 atp => ?_
              · rw [← hg]
                refine el_lcL (K := K) _ _ (ev_var rfl) (sq_of hL) (by rw [List.length_map]; omega) (fun x => rfl) (fun j x H7 e7 hj => ?_) (fun j x H7 e7 hj _ => ?_)
                · rw [List.getElem?_map] at hj
                  cases hr : rs[j]? with
                  | none => rw [hr] at hj; cases hj
                  | some r =>
                    rw [hr] at hj
                    cases hj
                    rw [getD_of hr]
                    refine et_test (ev_is (ev_op (ev_len (K := K) (ev_var rfl) (sq_of (e7 _ _ (hrow r (List.mem_of_getElem? hr))))) ev_c rv_I0) ?_)
                    cases EM.dropH t r.2 <;> simp
                · rw [List.getElem?_map] at hj
                  cases hr : rs[j]? with
                  | none => rw [hr] at hj; cases hj
                  | some r =>
                    rw [hr] at hj
                    cases hj
                    rw [getD_of hr]
                    exact ev_var rfl
              · have hls : ((rs.map fun r => (r.1, EM.dropH t r.2)).filter fun r => !r.2.isEmpty).map (·.2) = EM.live ((rs.map (·.2)).map (EM.dropH t)) := by
                  unfold EM.live
                  rw [List.filter_map, List.map_map, List.filter_map, List.filter_map, List.map_map]
                  rfl
                have hmem : ∀ r ∈ (rs.map fun r => (r.1, EM.dropH t r.2)).filter (fun r => !r.2.isEmpty), ∃ r0 ∈ rs, r = (r0.1, EM.dropH t r0.2) ∧ r.2 ≠ [] := by
                  intro r hr
                  obtain ⟨h1, h2⟩ := List.mem_filter.mp hr
                  obtain ⟨r0, h3, rfl⟩ := List.mem_map.mp h1
                  refine ⟨r0, h3, rfl, fun z => ?_⟩
                  rw [z] at h2
                  cases h2
                refine ⟨EM.tot (((rs.map fun r => (r.1, EM.dropH t r.2)).filter fun r => !r.2.isEmpty).map (·.2)), ?_, p, _, od ++ [t], _, _, rfl, e5.trans e6, e6 _ _ hO5, atp, ?_, ⟨?_, ?_, ?_⟩, ?_, ?_, ?_, ?_, rfl, ?_⟩
                · rw [hls, EM.tot_live]
                  exact hd
                · intro z
                  rw [← z, hO5] at hp
                  cases hp
                · refine List.Nodup.sublist ?_ own.nd
                  have : rs.map (·.1) = (rs.map fun r => (r.1, EM.dropH t r.2)).map (·.1) := by rw [List.map_map]; rfl
                  rw [this]
                  exact List.Sublist.map _ List.filter_sublist
                · intro r hr
                  obtain ⟨r0, h0, rfl, _⟩ := hmem r hr
                  exact own.new r0 h0
                · intro r hr
                  obtain ⟨r0, h0, rfl, _⟩ := hmem r hr
                  exact e6 _ _ (hrow r0 h0)
                · intro r hr
                  obtain ⟨r0, h0, rfl, _⟩ := hmem r hr
                  exact hOr r0 h0
                · intro r hr
                  obtain ⟨r0, h0, _, hn⟩ := hmem r hr
                  exact hn
                · rw [hls, EM.tot_live, List.length_append, List.length_singleton]
                  omega
                · refine Nat.le_trans (List.length_filter_le _ _) ?_
                  rw [List.length_map]
                  exact hrl
                · rw [hm, EM.merge_step hn, hls, EM.merge_live]
                  cases EM.merge ((rs.map (·.2)).map (EM.dropH t)) <;> simp
        · -- return order
          have hrs : rs = [] := by
            cases rs with
            | nil => rfl
            | cons _ _ => cases hb
          subst hrs
          have hm' : EM.merge ls = some od := by
            rw [hm]
            show (EM.merge ([] : List (List Str))).map _ = _
            rw [EM.merge_done (show EM.live ([] : List (List Str)) = [] from rfl)]
            simp
          rw [hm'] at k
          exact s_ret (ev_var rfl) fun H2 e2 => (show RetL (od.map V.str) H Q from k) O H2 hO (e.trans (e1.trans e2)) ((e1.trans e2) _ _ atO)
end
end K

set_option Elab.async false
set_option linter.all false
set_option maxRecDepth 100000
namespace K
open PySem L2 Evl EX
theorem RetO.go {r : Option (List Str)} {H : Hp} {Q : VK} (k : RetO r H Q) {K : PySem.W.Frag} {H' : Hp} (e : Ex H H') : RetO r H' Q := by
  cases r with
  | none => exact fun H2 e2 => (show RetV .non H Q from k) H2 (e.trans e2)
  | some l => exact fun p H2 hp e2 h2 => (show RetL (l.map V.str) H Q from k) p H2 (fresh_back e hp) (e.trans e2) h2
theorem mapM_get {f : Str → Option (List Str)} : ∀ {es : List Str} {ls : List (List Str)}, es.mapM f = some ls → ∀ (i : Nat) l, ls[i]? = some l → ∃ e, es[i]? = some e ∧ f e = some l
  | [], ls, h, i, l, hl => by
    simp at h
    subst h
    simp at hl
  | e :: es, ls, h, i, l, hl => by
    rw [List.mapM_cons] at h
    cases he : f e with
    | none => rw [he] at h; cases h
    | some o =>
      cases hm : es.mapM f with
      | none => rw [he, hm] at h; cases h
      | some r =>
        rw [he, hm] at h
        cases h
        cases i with
        | zero =>
          simp at hl
          subst hl
          exact ⟨e, rfl, he⟩
        | succ i =>
          simp at hl
          obtain ⟨e', a, b⟩ := mapM_get hm i l hl
          exact ⟨e', by simpa using a, b⟩
theorem mapM_none {f : Str → Option (List Str)} : ∀ {es : List Str}, (es.map f).any (·.isNone) = true → es.mapM f = none
  | [], h => by simp at h
  | e :: es, h => by
    rw [List.mapM_cons]
    cases he : f e with
    | none => rfl
    | some o =>
      rw [List.map_cons, List.any_cons, he] at h
      rw [mapM_none (es := es) (by simpa using h)]
      rfl
theorem mapM_all {f : Str → Option (List Str)} : ∀ {es : List Str}, (es.map f).any (·.isNone) = false → ∃ ls, es.mapM f = some ls
  | [], _ => ⟨[], rfl⟩
  | e :: es, h => by
    rw [List.map_cons, List.any_cons, Bool.or_eq_false_iff] at h
    obtain ⟨ls, hl⟩ := mapM_all (es := es) h.2
    cases he : f e with
    | none => rw [he] at h; cases h.1
    | some o => exact ⟨o :: ls, by rw [List.mapM_cons, he, hl]; rfl⟩
theorem tot_le {ls : List (List Str)} {B : Nat} (h : ∀ l ∈ ls, l.length ≤ B) : EM.tot ls ≤ B * ls.length := by
  induction ls with
  | nil => simp [EM.tot_nil]
  | cons l ls ih =>
    rw [EM.tot_cons, List.length_cons, Nat.mul_succ]
    have h1 := h l List.mem_cons_self
    have h2 := ih fun x hx => h x (List.mem_cons_of_mem _ hx)
    omega
section
variable {P : Program} {w : World} {K : PySem.W.Frag} {mg : Str → Option Value} {base : Heap}
def spOrderBy (K : PySem.W.Frag) : Sp := fun vs H Q _ => ∃ (t : Str) (el d : Addr) (es : List Str) (kvs : List (Key × V)) (f : Str → Option (List Str)), vs = [.str t, .ref el, .ref d] ∧ H el = some (.lst (es.map V.str)) ∧ Rd H d (.dK kvs) ∧ es.length ≤ 50 ∧
  (∀ e ∈ es, ∃ v, valV kvs (Sum.inr e) = some v ∧ ValO K H v (f e)) ∧ (∀ e ∈ es, OksO (f e) ∧ ∀ l, f e = some l → l.length ≤ 100) ∧ RetO (EM.orderBy t es f) H Q
theorem ok_order_by {f : Addr} {fd : FuncData} (F : Fun K "order_by" "order_by" s_order_by f fd) (T : Txt mg) (G_merged : Def P w K mg base 2 "merged" ["lists"] (spMerged K)) : FnOk P w K mg base CX0 3 f fd ["title", "elders", "orders"] (spOrderBy K) := by
  refine F.ok sc_order_by (fun vs H Q E h => ?_) (fun cdv A outer s H vs Q E hr h => ?_)
  · obtain ⟨t, el, d, es, kvs, f, rfl, _⟩ := h
    rfl
  · obtain ⟨t, el, d, es, kvs, f, rfl, hE, hd, hz, hv, ho, k⟩ := h
    have hu := hu_of hr
    refine ⟨_, pss_cons (ps_if (pt_cmpR op_lt (pe_lenSetS (K := K) rfl (by rfl) T.len (by rfl) T.set (pv 1)) (pe_callB (clLen (K := K)) (by rfl) T.len (by decide +kernel) (pa_cons (pv 1) pa_nil)) (nomark _))
        (pss_one (ps_ret (pe_non)))
        (pss_nil))
      (pss_cons (ps_setLc (i := 3) (own := [("elder", 5)]) (g := gName 5) (tt := tYes) rfl sc_order_by.nd rfl rfl (sw_true rfl rfl rfl (by decide +kernel)) (piL (K := K) (pv 1)) (blkOk_by (N := N_order_by) (sc := defScope s_order_by) (by decide +kernel)) (fun _ _ _ _ _ => pg_name (i := 5) sc_order_by.nd rfl (Or.inl rfl)) (fun _ _ _ _ _ => pts_nil) (fun _ _ _ _ _ => pe_dget hu (pv 2) (pv 5) (fun _ _ => rfl)))
      (pss_cons (ps_if (pt_cmpR (opInD (K := K) (hu65 hr)) (pe_non) (pv 3) (by rfl))
        (pss_one (ps_ret (pe_non)))
        (pss_nil))
      (pss_cons (ps_set (i := 4) sc_order_by.nd rfl (Or.inl rfl) (pe_def G_merged (hr.mono (by decide)) (by rfl) (pa_cons (pe_op op_cat (pv 3) (pe_lst (pa_cons (pv 1) pa_nil))) pa_nil)))
      (pss_cons (ps_if (pt_cmpR op_isN (pv 4) (pe_non) (nomark _))
        (pss_one (ps_ret (pe_non)))
        (pss_nil))
      (pss_one (ps_ret (pe_op op_cat (pe_lst (pa_cons (pv 0) pa_nil)) (pv 4)))))))), ?_⟩
    refine q_when (et_lenSet (K := K) (ev_var rfl) (sq_of hE) (by omega)) (fun hb H1 e1 => ?_) (fun hb H1 e1 => ?_)
    · have nd : ¬ es.Nodup := by simpa using hb
      unfold EM.orderBy at k
      rw [if_neg nd] at k
      exact s_ret ev_c fun H2 e2 => RetV.go (show RetV .non H Q from k) (e1.trans e2)
    · have nd : es.Nodup := by simpa using hb
      unfold EM.orderBy at k
      rw [if_pos nd] at k
      -- lists = [orders[elder] for elder in elders]
      have hval : ∀ e ∈ es, valV kvs (Sum.inr e) = some ((valV kvs (Sum.inr e)).getD .non) := fun e he => by
        obtain ⟨v, h1, _⟩ := hv e he
        rw [h1]
        rfl
      have hg : given (es.map V.str).length (fun _ => true) (fun i => (valV kvs (Sum.inr (es.getD i Str.empty))).getD .non) = es.map fun e => (valV kvs (Sum.inr e)).getD .non := by
        rw [List.length_map]
        exact given_map es Str.empty fun e => (valV kvs (Sum.inr e)).getD .non
      refine q_asgL (xs := es.map fun e => (valV kvs (Sum.inr e)).getD .non) ?_ fun L H2 nL e2 atL => ?_
      · rw [← hg]
        refine el_lcL (K := K) _ _ (ev_var rfl) (sq_of (e1 _ _ hE)) (by rw [List.length_map]; omega) (fun x => rfl) (fun j x H3 e3 hj => ?_) (fun j x H3 e3 hj _ => ?_)
        · exact fun H4 _ Q q => q H4 (Ex.refl H4)
        · rw [List.getElem?_map] at hj
          cases hr : es[j]? with
          | none => rw [hr] at hj; cases hj
          | some e =>
            rw [hr] at hj
            cases hj
            rw [getD_of hr]
            exact ev_dget (k := Sum.inr e) (ev_var rfl) (ev_var rfl) (ex_rd (e1.trans e3) hd) (hval e (List.mem_of_getElem? hr))
      have hvals : ∀ H3, Ex H2 H3 → ∀ (i : Nat) v r, (es.map fun e => (valV kvs (Sum.inr e)).getD .non)[i]? = some v → (es.map f)[i]? = some r → ValO K H3 v r := fun H3 e3 i v r h1 h2 => by
        rw [List.getElem?_map] at h1 h2
        cases he : es[i]? with
        | none => rw [he] at h1; cases h1
        | some e =>
          rw [he] at h1 h2
          cases h1
          cases h2
          obtain ⟨v, a, b⟩ := hv e (List.mem_of_getElem? he)
          show ValO K H3 ((valV kvs (Sum.inr e)).getD .non) (f e)
          rw [a]
          exact b.mono (e1.trans (e2.trans e3))
      have hdp : ∀ H3, Ex H2 H3 → Dp K H3 .non .none ∧ Dp K H3 (.ref L) (.list ((es.map f).map dO)) := fun H3 e3 => ⟨.non, .lst (sq_of (e3 _ _ atL)) (dp_Os (by simp) (hvals H3 e3))⟩
      have hsh : SeqAt.shaped (.list ((es.map f).map dO)) = true := shaped_dOs fun r hr => by
        obtain ⟨e, he, rfl⟩ := List.mem_map.mp hr
        exact (ho e he).1
      refine q_when (b := (es.map f).any (·.isNone)) (et_test (ev_is (ev_op ev_c (ev_var rfl) (rv_inD (K := K) (hdp H2 (Ex.refl H2)).1 (hdp H2 (Ex.refl H2)).2 shaped_none hsh hdp)) (by rw [any_none]))) (fun hb H3 e3 => ?_) (fun hb H3 e3 => ?_)
      · rw [mapM_none hb] at k
        exact s_ret ev_c fun H4 e4 => RetV.go (show RetV .non H Q from k) (e1.trans (e2.trans (e3.trans e4)))
      · obtain ⟨ls, hls⟩ := mapM_all hb
        have hlen : ls.length = es.length := (EM.mapM_some hls).1
        rw [hls] at k
        simp only [Option.bind_some] at k
        have e13 := e1.trans (e2.trans e3)
        -- behind = merged(lists + [elders])
        refine el_cat (σ := [some (V.str t), some (V.ref el), some (V.ref d), some (V.ref L), none, none]) (ev_var (i := 3) rfl) (e3 _ _ atL) (el_lst (ea_cons (ev_var (i := 1) rfl) ea_nil) (by simp)) (by simp; omega) H3 (Ex.refl H3) _ fun p H4 np e4 atp => ?_
        have htot : EM.tot (ls ++ [es]) ≤ 10000 := by
          have h1 : EM.tot (ls ++ [es]) ≤ 100 * (ls ++ [es]).length := tot_le fun l hl => by
            rcases List.mem_append.mp hl with q | q
            · obtain ⟨e, he, hf⟩ := (EM.mapM_some hls).2 l q
              exact (ho e he).2 l hf
            · simp at q
              subst q
              omega
          have h2 : (ls ++ [es]).length ≤ 51 := by simp; omega
          omega
        refine ⟨p, _, ls ++ [es], rfl, sq_of atp, ⟨by simp [hlen], fun i l hl => ?_⟩, by simp; omega, ?_, ?_⟩
        · by_cases hi : i < ls.length
          · rw [List.getElem?_append_left hi] at hl
            obtain ⟨e, he, hfe⟩ := mapM_get hls i l hl
            obtain ⟨v, h1, h2⟩ := hv e (List.mem_of_getElem? he)
            rw [hfe] at h2
            obtain ⟨q, rfl, hq⟩ := h2
            refine ⟨q, ?_, ex_l (e13.trans e4) hq⟩
            rw [List.getElem?_append_left (by simp; omega), List.getElem?_map, he]
            show some ((valV kvs (Sum.inr e)).getD .non) = _
            rw [h1]
            rfl
          · have hil : i = ls.length := by
              have := (List.getElem?_eq_some_iff.mp hl).1
              simp at this
              omega
            subst hil
            rw [List.getElem?_append_right (Nat.le_refl _), Nat.sub_self] at hl
            cases hl
            refine ⟨el, ?_, sq_of ((e13.trans e4) _ _ hE)⟩
            rw [List.getElem?_append_right (by simp; omega)]
            simp [hlen]
        · exact htot
        · cases hm : EM.merge (ls ++ [es]) with
          | none =>
            rw [hm] at k
            intro H5 e5
            show tSeq _ _ _ _ _
            refine q_when (b := true) (et_test (ev_op (ev_var rfl) ev_c (rv_isN (x := .non)))) (fun _ H6 e6 => ?_) (fun q => nomatch q)
            exact s_ret ev_c fun H7 e7 => RetV.go (show RetV .non H Q from k) (e13.trans (e4.trans (e5.trans (e6.trans e7))))
          | some b =>
            rw [hm] at k
            intro B H5 nB e5 atB
            show tSeq _ _ _ _ _
            refine q_when (b := false) (et_test (ev_op (ev_var rfl) ev_c (rv_isN (x := .ref B)))) (fun q => nomatch q) (fun _ H6 e6 => ?_)
            have e16 := e13.trans (e4.trans (e5.trans e6))
            refine s_retL (xs := (t :: b).map V.str) (el_cat1 (xs := [.str t]) (el_lst (ea_cons (ev_var rfl) ea_nil) (by simp)) (ev_var rfl) (e6 _ _ atB) ?_) fun p' H7 np' e7 at7 => ?_
            · have hb : b.length ≤ 10000 := Nat.le_trans (EM.merge_len _ _ _ (Nat.le_refl _) hm) htot
              simp
              omega
            · exact RetL.go (show RetL ((t :: b).map V.str) H Q from k) e16 np' e7 at7
end
end K

set_option Elab.async false
set_option linter.all false
set_option maxRecDepth 100000
namespace K
open PySem L2 Evl EX
/-- a dict of elders: what it tells of each title of U -/
structure Eld (K : PySem.W.Frag) (H : Hp) (kvs : List (Key × V)) (E : Str → List Str) (U : List Str) : Prop where
  at_ : ∀ x ∈ U, ∃ p, valV kvs (Sum.inr x) = some (.ref p) ∧ H p = some (.lst ((E x).map V.str))
  sub : ∀ x ∈ U, ∀ e ∈ E x, e ∈ U
theorem Eld.mono {K : PySem.W.Frag} {H H' : Hp} {kvs : List (Key × V)} {E : Str → List Str} {U : List Str} (h : Eld K H kvs E U) (e : Ex H H') : Eld K H' kvs E U :=
  ⟨fun x hx => let ⟨p, a, b⟩ := h.at_ x hx; ⟨p, a, e _ _ b⟩, h.sub⟩
/-- what is known so far: the dict at od -/
structure Known (H0 H : Hp) (wa : Addr) (okvs : List (Key × V)) (ks : List Str) (f : Str → Option (List Str)) : Prop where
  keys : okvs.map (·.1) = ks.map Sum.inr
  nd : ks.Nodup
  vals : ∀ x ∈ ks, ∃ v, valV okvs (Sum.inr x) = some v ∧ match f x with
    | none => v = .non
    | some l => ∃ p, v = .ref p ∧ p ≠ wa ∧ H0 p = none ∧ H p = some (.lst (l.map V.str))
theorem valV_keys {okvs : List (Key × V)} {ks : List Str} (h : okvs.map (·.1) = ks.map Sum.inr) (x : Str) : (valV okvs (Sum.inr x)).isSome = decide (x ∈ ks) := by
  cases hv : valV okvs (Sum.inr x : Key) with
  | none =>
    have := valV_not hv
    rw [h] at this
    have hx : x ∉ ks := fun q => this (List.mem_map.mpr ⟨x, q, rfl⟩)
    simp [hx]
  | some v =>
    have := valV_in hv
    rw [h] at this
    obtain ⟨y, hy, e⟩ := List.mem_map.mp this
    cases e
    simp [hy]
theorem keys_put {okvs : List (Key × V)} {ks : List Str} (h : okvs.map (·.1) = ks.map Sum.inr) (x : Str) (v : V) : (putK okvs (Sum.inr x) v).map (·.1) = (EM.addK ks x).map Sum.inr := by
  have hs := valV_keys h x
  by_cases hx : x ∈ ks
  · have : (okvs.any fun kv => decide (kv.1 = (Sum.inr x : Key))) = true := by rw [valV_any, hs]; simp [hx]
    unfold putK EM.addK
    rw [if_pos this, if_pos hx, ← h, List.map_map]
    apply List.map_congr_left
    intro kv _
    show (if kv.1 = (Sum.inr x : Key) then (kv.1, v) else kv).1 = kv.1
    split <;> rfl
  · have : valV okvs (Sum.inr x : Key) = none := by
      cases hv : valV okvs (Sum.inr x : Key) with
      | none => rfl
      | some v' => rw [hv] at hs; simp [hx] at hs
    unfold EM.addK
    rw [putK_new v this, if_neg hx, List.map_append, List.map_append, h]
    rfl
theorem addK_nd {ks : List Str} {x : Str} (h : ks.Nodup) : (EM.addK ks x).Nodup := by
  unfold EM.addK
  split
  · exact h
  · rename_i hx
    exact nodup_snoc h hx
section
variable {P : Program} {w : World} {K : PySem.W.Frag} {mg : Str → Option Value} {base : Heap}
def spOrderOf (K : PySem.W.Frag) : Sp := fun vs H Q _ => ∃ (d : Addr) (t : Str) (kvs : List (Key × V)) (E : Str → List Str) (U : List Str) (r : Str → Nat), vs = [.ref d, .str t] ∧ Rd H d (.dK kvs) ∧ Eld K H kvs E U ∧ t ∈ U ∧ U.length ≤ 100 ∧ Oks U ∧
  (∀ x, (E x).length ≤ 50) ∧ (∀ x, ∀ e ∈ E x, r e < r x) ∧ r t ≤ 100 ∧ RetO (EM.O E r t) H Q
theorem ok_order_of {f : Addr} {fd : FuncData} (F : Fun K "order_of" "order_of" s_order_of f fd) (T : Txt mg) (G_order_by : Def P w K mg base 3 "order_by" ["title", "elders", "orders"] (spOrderBy K)) : FnOk P w K mg base CX0 4 f fd ["elders", "title"] (spOrderOf K) := by
  refine F.ok sc_order_of (fun vs H Q E h => ?_) (fun cdv A outer s H vs Q E hr h => ?_)
  · obtain ⟨d, t, kvs, E, U, r, rfl, _⟩ := h
    rfl
  · obtain ⟨d, t, kvs, El, U, rk, rfl, hd, hE, htU, hUl, hOk, hEl, hrk, hrt, k⟩ := h
    have hu := hu_of hr
    refine ⟨_, pss_cons (ps_set (i := 2) sc_order_of.nd rfl (Or.inr rfl) (pe_dnewK))
      (pss_cons (ps_set (i := 3) sc_order_of.nd rfl (Or.inl rfl) (pe_lst (pa_cons (pv 1) pa_nil)))
      (pss_cons (ps_while PassesOwn.never (pt_cmpR op_gt (pe_callB (clLen (K := K)) (by rfl) T.len (by decide +kernel) (pa_cons (pv 3) pa_nil)) (pe_int) (nomark _))
        (pss_cons (ps_set (i := 4) sc_order_of.nd rfl (Or.inl rfl) (pe_ix (ixL (K := K)) (pv 3) (pe_un un_neg (pe_int)) (fun _ _ => rfl)))
        (pss_cons (ps_setLc (i := 5) (own := [("elder", 6)]) (g := gName 6) rfl sc_order_of.nd rfl rfl (sw_true rfl rfl rfl (by decide +kernel)) (piL (K := K) (pe_dget hu (pv 0) (pv 4) (fun _ _ => rfl))) (blkOk_by (N := N_order_of) (sc := defScope s_order_of) (by decide +kernel)) (fun _ _ _ _ _ => pg_name (i := 6) sc_order_of.nd rfl (Or.inl rfl)) (fun _ _ _ _ _ => pts_one (pt_cmp (pc_dnotin hu (pv 6) (pv 2)) (by rfl))) (fun _ _ _ _ _ => pv 6))
        (pss_one (ps_if (pt_cmpR op_gt (pe_callB (clLen (K := K)) (by rfl) T.len (by decide +kernel) (pa_cons (pv 5) pa_nil)) (pe_int) (nomark _))
          (pss_one (ps_expr (peBm (K := K) PySem.F.plainAttrs_list PySem.F.slot_list_extend PySem.F.type_list_extend mt_extend (pv 3) (pa_cons (pv 5) pa_nil))))
          (pss_cons (ps_expr (pe_bm0 PySem.F.plainAttrs_list PySem.F.slot_list_pop PySem.F.type_list_pop mt_pop (pv 3)))
          (pss_one (ps_dput hu (pv 2) (pv 4) (pe_def G_order_by (hr.mono (by decide)) (by rfl) (pa_cons (pv 4) (pa_cons (pe_dget hu (pv 0) (pv 4) (fun _ _ => rfl)) (pa_cons (pv 2) pa_nil)))) rfl))))))))
      (pss_one (ps_ret (pe_dget hu (pv 2) (pv 1) (fun _ _ => rfl)))))), ?_⟩
    have hOO : ∀ x ∈ U, OksO (EM.O El rk x) ∧ ∀ l, EM.O El rk x = some l → l.length ≤ 100 := fun x hx => ⟨fun l hl y hy => hOk y ((EM.O_has hrk hE.sub _ x (Nat.le_refl _) hx l hl).2 y hy).1, fun l hl => Nat.le_trans (EM.O_len hrk hE.sub hx hl) hUl⟩
    -- orders = {}
    refine fun od nod => ?_
    have exo : Ex H (upd H od (.dK [])) := Ex.new nod
    refine q_asgL (el_lst (ea_cons (ev_var rfl) ea_nil) (by simp)) fun wa H2 nw e2 atw => ?_
    have nwa : H wa = none := fresh_back exo nw
    have how : od ≠ wa := fun z => by rw [← z, upd_same] at nw; cases nw
    obtain ⟨m0, hm0⟩ := EM.runs_all (E := El) (r := rk) (L := 50) hrk hEl t
    refine q_while (fun m σ H' => ∃ (wt ks : List Str) (okvs : List (Key × V)) (v4 v5 v6 : Option V), σ = [some (.ref d), some (.str t), some (.ref od), some (.ref wa), v4, v5, v6] ∧ Ex H H' ∧ H' wa = some (.lst (wt.map V.str)) ∧ H' od = some (.dK okvs) ∧
      Known H H' wa okvs ks (EM.O El rk) ∧ (∀ x ∈ wt, x ∈ U) ∧ (∀ x ∈ ks, x ∈ U) ∧ EM.Runs El (1 + 50 * rk t) (fun ks => t ∈ ks) m wt ks) m0 ?_ ?_
    · exact ⟨[t], [], [], _, _, _, rfl, exo.trans e2, atw, e2 _ _ upd_same, ⟨rfl, List.nodup_nil, fun x hx => nomatch hx⟩, fun x hx => by simp at hx; subst hx; exact htU, fun x hx => (nomatch hx), hm0⟩
    · clear hm0 m0 atw e2 nw exo H2
      rintro m σ H' ⟨wt, ks, okvs, v4, v5, v6, rfl, e, atw, ato, hK, hwU, hkU, hR⟩
      refine ⟨!wt.isEmpty, et_test (ev_is (ev_op (ev_len (K := K) (ev_var rfl) (sq_of atw)) ev_c rv_I0) ?_), fun hb H1 e1 => ⟨_, fun σ2 H2 h => h, ?_⟩, fun hb H1 e1 => ?_⟩
      · cases wt <;> simp
      · have hsz : okvs.length ≤ 100 := by
          have h1 : okvs.length = ks.length := by
            have := congrArg List.length hK.keys
            simpa using this
          have h2 := EM.nodup_len hK.nd hkU
          omega
        have keep : ∀ (H5 : Hp) (o : HO), Ex H' H5 → Known H (upd H5 wa o) wa okvs ks (EM.O El rk) := fun H5 o e5 => ⟨hK.keys, hK.nd, fun y hy => by
          obtain ⟨v, h1, h2⟩ := hK.vals y hy
          refine ⟨v, h1, ?_⟩
          cases hO : EM.O El rk y with
          | none =>
            rw [hO] at h2
            exact h2
          | some l =>
            rw [hO] at h2
            obtain ⟨p, rfl, hp, hn, hq⟩ := h2
            exact ⟨p, rfl, hp, hn, by rw [upd_ne hp]; exact e5 _ _ hq⟩⟩
        -- both ways begin alike
        have start : ∀ (w : List Str) (x : Str) (D : Ends) (tz : TS), wt = w ++ [x] → (∀ p H3, Ex H1 H3 → H3 p = some (.lst ((EM.lack El ks x).map V.str)) → tz D [some (.ref d), some (.str t), some (.ref od), some (.ref wa), some (.str x), some (.ref p), v6] H3) →
            tSeq (tAsg (tOp (rIxL K) (tVar 3) (tUn (rU fun i => .int (-i)) (tC (.int 1)))) (gName 4)) (tSeq (tAsg (tLc (iList K (tDGet (tVar 0) (tVar 4))) (gName 6) (tB (tDNotIn (tVar 6) (tVar 2))) (tVar 6) [6]) (gName 5)) tz) D [some (.ref d), some (.str t), some (.ref od), some (.ref wa), v4, v5, v6] H1 := by
          rintro w x D tz rfl kk
          have hxU : x ∈ U := hwU x (by simp)
          refine q_asg (v := .str x) (ev_op (ev_var rfl) (ev_un ev_c ru_neg) (rv_ixL (K := K) (sq_of (e1 _ _ atw)) (by rw [List.map_append]; exact atI_last _ _))) fun H2 e2 => ?_
          obtain ⟨q, hq1, hq2⟩ := (hE.mono (e.trans (e1.trans e2))).at_ x hxU
          have hg : given ((El x).map V.str).length (fun i => !decide ((El x).getD i Str.empty ∈ ks)) (fun i => V.str ((El x).getD i Str.empty)) = (EM.lack El ks x).map V.str := by
            rw [List.length_map]
            exact given_filter (El x) Str.empty (fun e => !decide (e ∈ ks)) V.str
          refine q_asgL (xs := (EM.lack El ks x).map V.str) ?_ fun p H3 np e3 at3 => kk p H3 (e2.trans e3) at3
          rw [← hg]
          have hlen := hEl x
          refine el_lcL (K := K) _ _ (ev_dget (k := Sum.inr x) (ev_var rfl) (ev_var rfl) (ex_rd (e.trans (e1.trans e2)) hd) hq1) (sq_of hq2) (by rw [List.length_map]; omega) (fun x => rfl) (fun j y H4 e4 hj => ?_) (fun j y H4 e4 hj _ => ?_)
          · rw [List.getElem?_map] at hj
            cases hr : (El x)[j]? with
            | none => rw [hr] at hj; cases hj
            | some y =>
              rw [hr] at hj
              cases hj
              rw [getD_of hr, ← valV_keys hK.keys]
              exact et_B (ev_dnin (k := Sum.inr y) (ev_var rfl) (ev_var rfl) (.inl ((e1.trans (e2.trans e4)) _ _ ato)))
          · rw [List.getElem?_map] at hj
            cases hr : (El x)[j]? with
            | none => rw [hr] at hj; cases hj
            | some y =>
              rw [hr] at hj
              cases hj
              rw [getD_of hr]
              exact ev_var rfl
        cases hR with
        | done h => cases hb
        | @push m w x ks hB hl h =>
          refine start w x _ _ rfl fun p H3 e3 at3 => ?_
          have e03 := e1.trans e3
          have hbt : 0 < (EM.lack El ks x).length := List.length_pos_iff.mpr hl
          have hll : (EM.lack El ks x).length ≤ 50 := Nat.le_trans (List.length_filter_le _ _) (hEl x)
          refine s_if (b := true) (et_test (ev_is (ev_op (ev_len (K := K) (ev_var rfl) (sq_of at3)) ev_c rv_I0) ?_)) (fun _ H4 e4 => ?_) (fun q => nomatch q)
          · rw [List.length_map]
            simp
            omega
          · refine s_ext (K := K) ((e03.trans e4) _ _ atw) (e4 _ _ at3) (ev_var rfl) (ev_var rfl) (by rw [List.length_map, List.length_map]; omega) fun H5 e5 => ?_
            have e05 := e03.trans (e4.trans e5)
            refine ⟨m, Nat.lt_succ_self _, w ++ [x] ++ EM.lack El ks x, ks, okvs, _, _, _, rfl, Ex.mut (e.trans e05) nwa, ?_, ?_, keep H5 _ e05, ?_, hkU, h⟩
            · rw [upd_same, List.map_append (l₁ := w ++ [x])]
            · rw [upd_ne how]
              exact e05 _ _ ato
            · intro y hy
              rcases List.mem_append.mp hy with q | q
              · exact hwU y q
              · exact hE.sub x (hwU x (by simp)) y (List.mem_filter.mp q).1
        | @pop m w x ks hB hl h =>
          refine start w x _ _ rfl fun p H3 e3 at3 => ?_
          have e03 := e1.trans e3
          have hxU : x ∈ U := hwU x (by simp)
          rw [hl] at at3
          refine s_if (b := false) (et_test (ev_is (ev_op (ev_len (K := K) (ev_var rfl) (sq_of at3)) ev_c rv_I0) ?_)) (fun q => nomatch q) (fun _ H4 e4 => ?_)
          · rfl
          · have atw4 := (e03.trans e4) _ _ atw
            rw [List.map_append] at atw4
            refine q_pop (K := K) atw4 (ev_var rfl) fun H5 e5 => ?_
            have e05 := e03.trans (e4.trans e5)
            have ex6 : Ex H (upd H5 wa (.lst (w.map V.str))) := Ex.mut (e.trans e05) nwa
            have ato6 : upd H5 wa (.lst (w.map V.str)) od = some (.dK okvs) := by rw [upd_ne how]; exact e05 _ _ ato
            have hK6 := keep H5 (.lst (w.map V.str)) e05
            have atw6 : upd H5 wa (.lst (w.map V.str)) wa = some (.lst (w.map V.str)) := upd_same
            generalize upd H5 wa (.lst (w.map V.str)) = H6 at ex6 ato6 hK6 atw6
            obtain ⟨q, hq1, hq2⟩ := (hE.mono ex6).at_ x hxU
            -- orders[here] = order_by(here, elders[here], orders)
            refine s_dputG (d := od) (k := Sum.inr x) (fun v H8 => Ex H6 H8 ∧ match EM.O El rk x with
                | none => v = .non
                | some l => ∃ p, v = .ref p ∧ H6 p = none ∧ H8 p = some (.lst (l.map V.str))) (fun Q' q' => ?_) fun v H8 hG => ?_
            · refine ea_cons (ev_var rfl) (ea_cons (ev_dget (k := Sum.inr x) (ev_var rfl) (ev_var rfl) (ex_rd ex6 hd) hq1) (ea_cons (ev_var rfl) ea_nil)) H6 (Ex.refl H6) _ fun H7 e7 => ?_
              have hEk := EM.lack_nil hl
              refine ⟨x, q, od, El x, okvs, EM.O El rk, rfl, e7 _ _ hq2, .inl (e7 _ _ ato6), hEl x, fun y hy => ?_, fun y hy => hOO y (hE.sub x hxU y hy), ?_⟩
              · obtain ⟨v, h1, h2⟩ := hK6.vals y (hEk y hy)
                refine ⟨v, h1, ?_⟩
                cases hO : EM.O El rk y with
                | none => rw [hO] at h2; exact h2
                | some l =>
                  rw [hO] at h2
                  obtain ⟨p', rfl, _, _, hq'⟩ := h2
                  exact ⟨p', rfl, sq_of (e7 _ _ hq')⟩
              · rw [← EM.O_eq hrk x]
                cases hO : EM.O El rk x with
                | none => exact fun H8 e8 => q' _ _ ⟨e7.trans e8, by rw [hO]⟩
                | some l => exact fun p' H8 np e8 h8 => q' _ _ ⟨e7.trans e8, by rw [hO]; exact ⟨p', rfl, fresh_back e7 np, h8⟩⟩
            · obtain ⟨e8, hv⟩ := hG
              refine ⟨okvs, e8 _ _ ato6, by omega, ev_var rfl, ev_var rfl, fun H9 e9 => ?_⟩
              have e69 := e8.trans e9
              refine ⟨m, Nat.lt_succ_self _, w, EM.addK ks x, _, _, _, _, rfl, Ex.mut (ex6.trans e69) nod, ?_, upd_same, ⟨keys_put hK6.keys x v, addK_nd hK6.nd, fun y hy => ?_⟩, fun y hy => hwU y (by simp [hy]), fun y hy => ?_, h⟩
              · rw [upd_ne (Ne.symm how)]
                exact e69 _ _ atw6
              · rw [valV_put]
                by_cases hyx : y = x
                · subst hyx
                  refine ⟨v, by rw [if_pos rfl], ?_⟩
                  cases hO : EM.O El rk y with
                  | none => rw [hO] at hv; exact hv
                  | some l =>
                    rw [hO] at hv
                    obtain ⟨p', rfl, np, h8⟩ := hv
                    refine ⟨p', rfl, fun z => ?_, fresh_back ex6 np, ?_⟩
                    · rw [z, atw6] at np
                      cases np
                    · have : p' ≠ od := fun z => by
                        rw [z, ato6] at np
                        cases np
                      rw [upd_ne this]
                      exact e9 _ _ h8
                · rw [if_neg (fun z => hyx (Sum.inr.inj z))]
                  have hyk : y ∈ ks := (EM.mem_addK.mp hy).resolve_right hyx
                  obtain ⟨v', h1, h2⟩ := hK6.vals y hyk
                  refine ⟨v', h1, ?_⟩
                  cases hO : EM.O El rk y with
                  | none => rw [hO] at h2; exact h2
                  | some l =>
                    rw [hO] at h2
                    obtain ⟨p', rfl, np, nh, h8⟩ := h2
                    refine ⟨p', rfl, np, nh, ?_⟩
                    have : p' ≠ od := ne_of h8 ato6 (by intro z; cases z)
                    rw [upd_ne this]
                    exact e69 _ _ h8
              · rcases EM.mem_addK.mp hy with z | z
                · exact hkU y z
                · subst z
                  exact hxU
      · -- return orders[title]
        have hwt : wt = [] := by
          cases wt with
          | nil => rfl
          | cons _ _ => cases hb
        subst hwt
        have htk : t ∈ ks := by
          generalize hw : ([] : List Str) = w0 at hR
          cases hR with
          | done h => exact h
          | push _ _ _ => simp at hw
          | pop _ _ _ => simp at hw
        obtain ⟨v, h1, h2⟩ := hK.vals t htk
        refine s_ret (ev_dget (k := Sum.inr t) (ev_var rfl) (ev_var rfl) (.inl (e1 _ _ ato)) h1) fun H2 e2 => ?_
        cases hO : EM.O El rk t with
        | none =>
          rw [hO] at h2 k
          rw [h2]
          exact RetV.go (show RetV .non H Q from k) (e.trans (e1.trans e2))
        | some l =>
          rw [hO] at h2 k
          obtain ⟨p, rfl, hp, hn, hq⟩ := h2
          exact (show RetL (l.map V.str) H Q from k) p H2 hn (e.trans (e1.trans e2)) ((e1.trans e2) _ _ hq)
end
end K

set_option Elab.async false
set_option linter.all false
set_option maxRecDepth 100000
namespace K
open PySem L2 Evl EX
section
variable {P : Program} {w : World} {K : PySem.W.Frag} {mg : Str → Option Value} {base : Heap}
def spMixed : Sp := fun vs H Q _ => ∃ (n k : Int), vs = [.int n, .int k] ∧ ∀ r : Int, 0 ≤ r → r < 2147483629 → RetV (.int r) H Q
theorem ok_mixed {f : Addr} {fd : FuncData} (F : Fun K "_law_mixed" "_law_mixed" s__law_mixed f fd) : FnOk P w K mg base CX0 1 f fd ["_law_number", "_law_k"] spMixed := by
  refine F.ok sc__law_mixed (fun vs H Q E h => ?_) (fun cdv A outer s H vs Q E hr h => ?_)
  · obtain ⟨n, k, rfl, _⟩ := h
    rfl
  · obtain ⟨n, k, rfl, q⟩ := h
    refine ⟨_, pss_cons (ps_set (i := 2) sc__law_mixed.nd rfl (Or.inl rfl) (pe_op op_mod (pe_op op_mul (pe_op op_add (pe_op op_add (pe_op op_mod (pv 0) (pe_int)) (pe_op op_mul (pe_int) (pv 1))) (pe_int)) (pe_int)) (pe_int)))
      (pss_cons (ps_set (i := 3) sc__law_mixed.nd rfl (Or.inl rfl) (pe_op op_mod (pe_op op_mul (pv 2) (pe_op op_add (pe_op op_add (pe_op op_mod (pv 2) (pe_int)) (pv 1)) (pe_int))) (pe_int)))
      (pss_one (ps_ret (pe_op op_mod (pe_op op_add (pe_op op_mul (pv 3) (pe_int)) (pv 2)) (pe_int))))), ?_⟩
    refine q_asg (ev_op (ev_op (ev_op (ev_op (ev_op (ev_var rfl) ev_c (rv_I (by decide))) (ev_op ev_c (ev_var rfl) (rv_I (.inl (by decide)))) rv_I0) ev_c rv_I0) ev_c (rv_I (.inr (by decide)))) ev_c (rv_I (by decide))) fun H1 e1 => ?_
    generalize ho : ((n % 1000000007 + 7 * k + 1) * 48271) % 2147483647 = once
    have h0 : 0 ≤ once := by rw [← ho]; exact Int.emod_nonneg _ (by decide)
    have h1 : once < 2147483647 := by rw [← ho]; exact Int.emod_lt_of_pos _ (by decide)
    refine q_asg (ev_op (ev_op (ev_var rfl) (ev_op (ev_op (ev_op (ev_var rfl) ev_c (rv_I (by decide))) (ev_var rfl) rv_I0) ev_c rv_I0) (rv_I (.inl ⟨by omega, by omega⟩))) ev_c (rv_I (by decide))) fun H2 e2 => ?_
    refine s_ret (ev_op (ev_op (ev_op (ev_var rfl) ev_c (rv_I (.inr (by decide)))) (ev_var rfl) rv_I0) ev_c (rv_I (by decide))) fun H3 e3 => ?_
    exact q _ (Int.emod_nonneg _ (by decide)) (Int.emod_lt_of_pos _ (by decide)) H3 (e1.trans (e2.trans e3))
def spTap : Sp := fun vs H Q _ => ∃ c : Int, vs = [.int c] ∧ ∀ p H', H p = none → Ex H H' → Tap H' p → Q (.ref p) H'
theorem ok_tap {f : Addr} {fd : FuncData} (F : Fun K "_law_tap" "_law_tap" s__law_tap f fd) (T : Txt mg) : FnOk P w K mg base CX0 1 f fd ["_law_cell"] spTap := by
  refine F.ok sc__law_tap (fun vs H Q E h => ?_) (fun cdv A outer s H vs Q E hr h => ?_)
  · obtain ⟨n, rfl, _⟩ := h
    rfl
  · obtain ⟨c, rfl, q⟩ := h
    refine ⟨_, pss_one (ps_ret (pe_lst (pa_cons (pe_callB call_abs (by rfl) T.abs (by decide +kernel) (pa_cons (pv 0) pa_nil)) (pa_cons (pe_callTy call_int1 (by rfl) T.int (by decide +kernel) (pa_cons (pe_cmpR op_lt (pe_callB call_abs (by rfl) T.abs (by decide +kernel) (pa_cons (pv 0) pa_nil)) (pe_op op_pow (pe_int) (pe_int)) (nomark _)) pa_nil)) (pa_cons (pe_int) (pa_cons (pv 0) pa_nil)))))), ?_⟩
    refine s_retL (xs := [.int (if c < 0 then -c else c), .int (if decide ((if c < 0 then -c else c) < 10 ^ 18) = true then 1 else 0), .int 0, .int c]) (el_lst ?_ (by simp)) fun p H1 np e1 h1 => q p H1 np e1 ⟨_, _, _, _, h1⟩
    refine ea_cons ?_ (ea_cons ?_ (ea_cons ev_c (ea_cons (ev_var rfl) ea_nil)))
    · exact ev_cb (ea_cons (ev_var rfl) ea_nil) fun H1 _ Q q => ⟨c, rfl, q H1 (Ex.refl H1)⟩
    · refine ev_cb (ea_cons (ev_op (x := .int (if c < 0 then -c else c)) (y := .int (10 ^ 18)) (ev_cb (ea_cons (ev_var rfl) ea_nil) fun H1 _ Q q => ⟨c, rfl, q H1 (Ex.refl H1)⟩) (ev_op (x := .int 10) (y := .int 18) ev_c ev_c (rv_I ⟨by decide, by decide, by decide⟩)) rv_I0) ea_nil) fun H1 _ Q q => .inr ⟨_, rfl, q H1 (Ex.refl H1)⟩
theorem ok_draw {f : Addr} {fd : FuncData} (F : Fun K "_law_next" "_law_next" s__law_next f fd) (G__law_mixed : Def P w K mg base 1 "_law_mixed" ["_law_number", "_law_k"] spMixed) : FnOk P w K mg base CX0 2 f fd ["_law_tap_here", "_law_size"] spDraw := by
  refine F.ok sc__law_next (fun vs H Q E h => ?_) (fun cdv A outer s H vs Q E hr h => ?_)
  · obtain ⟨tp, n, rfl, _⟩ := h
    rfl
  · obtain ⟨tp, n, rfl, ⟨a, b, c, d, hT⟩, h0, h1, q⟩ := h
    refine ⟨_, pss_cons (ps_asg (pe_op op_add (pe_ix (ixL (K := K)) (pv 0) (pe_int) (fun _ _ => rfl)) (pe_int)) (pg_sub (pv 0) (pe_int) set_list))
      (pss_cons (ps_if (PW.pt (pw_or (pt_cmpR op_eq (pe_ix (ixL (K := K)) (pv 0) (pe_int) (fun _ _ => rfl)) (pe_int) (nomark _)) (pw_or1 (pt_cmpR op_eq (pe_ix (ixL (K := K)) (pv 0) (pe_int) (fun _ _ => rfl)) (pe_int) (nomark _)))))
        (pss_one (ps_ret (pe_op op_mod (pe_def G__law_mixed (hr.mono (by decide)) (by rfl) (pa_cons (pe_ix (ixL (K := K)) (pv 0) (pe_int) (fun _ _ => rfl)) (pa_cons (pe_op op_add (pe_int) (pe_ix (ixL (K := K)) (pv 0) (pe_int) (fun _ _ => rfl))) pa_nil))) (pv 1))))
        (pss_nil))
      (pss_cons (ps_set (i := 2) sc__law_next.nd rfl (Or.inl rfl) (pe_op op_mod (pe_ix (ixL (K := K)) (pv 0) (pe_int) (fun _ _ => rfl)) (pv 1)))
      (pss_cons (ps_asg (pe_op op_fdiv (pe_ix (ixL (K := K)) (pv 0) (pe_int) (fun _ _ => rfl)) (pv 1)) (pg_sub (pv 0) (pe_int) set_list))
      (pss_one (ps_ret (pv 2)))))), ?_⟩
    refine q_setL (j := 2) hT (ev_op (ev_op (ev_var rfl) ev_c (rv_ixL (K := K) (sq_of hT) (atI_nat (j := 2) rfl))) ev_c rv_I0) (ev_var rfl) ev_c (by simp) fun H1 e1 => ?_
    have hT1 : upd H1 tp (.lst [V.int a, .int b, .int (c + 1), .int d]) tp = some (.lst [V.int a, .int b, .int (c + 1), .int d]) := upd_same
    have ex1 : Ex (hide tp H) (upd H1 tp (.lst [V.int a, .int b, .int (c + 1), .int d])) := Ex.mut (hide_ex.trans e1) hide_at
    show tSeq _ _ _ _ (upd H1 tp (.lst [V.int a, .int b, .int (c + 1), .int d]))
    generalize upd H1 tp (.lst [V.int a, .int b, .int (c + 1), .int d]) = H2 at hT1 ex1
    refine q_when (et_or (et_test (ev_op (ev_op (ev_var rfl) ev_c (rv_ixL (K := K) (sq_of hT1) (atI_nat (j := 1) rfl))) ev_c (rv_eq rfl))) (fun _ => et_test (ev_op (ev_op (ev_var rfl) ev_c (rv_ixL (K := K) (sq_of hT1) (atI_nat (j := 0) rfl))) ev_c (rv_eq rfl)))) (fun _ H3 e3 => ?_) (fun _ H3 e3 => ?_)
    · have hT3 := e3 _ _ hT1
      refine s_retN (P := fun v => ∃ r : Int, v = .int r ∧ 0 ≤ r ∧ r < n) (en_op (P1 := fun v => ∃ r : Int, v = .int r) (en_call (ea_cons (ev_op (ev_var rfl) ev_c (rv_ixL (K := K) (sq_of hT3) (atI_nat (j := 3) rfl))) (ea_cons (ev_op ev_c (ev_op (ev_var rfl) ev_c (rv_ixL (K := K) (sq_of hT3) (atI_nat (j := 2) rfl))) rv_I0) ea_nil)) ?_) (en_ev (ev_var rfl)) ?_) ?_
      · exact fun H4 e4 Q' q' E' => ⟨d, _, rfl, fun r r0 r1 H5 e5 => q' _ H5 e5 ⟨r, rfl⟩⟩
      · rintro x y ⟨r, rfl⟩ rfl
        exact ⟨_, ⟨r % n, rfl, Int.emod_nonneg _ (by omega), Int.emod_lt_of_pos _ h0⟩, rv_I h0⟩
      · rintro v H4 e4 ⟨r, rfl, r0, r1⟩
        exact q _ H4 r0 r1 (ex1.trans (e3.trans e4)) ⟨_, _, _, _, e4 _ _ hT3⟩
    · refine q_asg (ev_op (ev_op (ev_var rfl) ev_c (rv_ixL (K := K) (sq_of (e3 _ _ hT1)) (atI_nat (j := 0) rfl))) (ev_var rfl) (rv_I h0)) fun H4 e4 => ?_
      have hT4 := (e3.trans e4) _ _ hT1
      refine q_setL (j := 0) hT4 (ev_op (ev_op (ev_var rfl) ev_c (rv_ixL (K := K) (sq_of hT4) (atI_nat (j := 0) rfl))) (ev_var rfl) (rv_I ⟨h0, h1⟩)) (ev_var rfl) ev_c (by simp) fun H5 e5 => ?_
      refine s_ret (ev_var rfl) fun H6 e6 => ?_
      refine q _ H6 (Int.emod_nonneg _ (by omega)) (Int.emod_lt_of_pos _ h0) ?_ ⟨a / n, b, c + 1, d, e6 _ _ upd_same⟩
      exact (Ex.mut (ex1.trans (e3.trans (e4.trans e5))) hide_at).trans e6
end
end K

set_option Elab.async false
set_option linter.all false
set_option maxRecDepth 100000
namespace K
open PySem L2 Evl EX
/-! names of a menu -/
def Lt (i : Nat) : Nat := if i < 26 then 97 + i else 39 + i
abbrev letters : Str := "abcdefghijklmnopqrstuvwxyzABCDEFGHIJKLMNOPQRSTUVWXYZ"
theorem lt_at (m : Nat) (h : m < 52) : letters.cps.toList[m]? = some (Lt m) := by
  have : ∀ m, m < 52 → letters.cps.toList[m]? = some (Lt m) := by decide +kernel
  exact this m h
theorem lt_lo (m : Nat) (h : m < 52) : 65 ≤ Lt m ∧ Lt m < 128 := by
  unfold Lt
  split <;> omega
theorem lt_inj {j k : Nat} (hj : j < 12) (hk : k < 12) (e : Lt j = Lt k) : j = k := by
  unfold Lt at e
  rw [if_pos (by omega), if_pos (by omega)] at e
  omega
theorem abc7_at (m : Nat) (h : m < 4) : ∃ c, (Str.ofString "abc7").cps.toList[m]? = some c ∧ c < 128 := by
  have : ∀ m, m < 4 → ∃ c, c < 128 ∧ (Str.ofString "abc7").cps.toList[m]? = some c := by decide +kernel
  obtain ⟨c, a, b⟩ := this m h
  exact ⟨c, b, a⟩
def nearL : List Str := ["end", "begin", "superb", "If", "nones", "outer1", "selfs", "x", "Error", "words", "gives", "a1"]
theorem split_near : Txt.split "end begin superb If nones outer1 selfs x Error words gives a1" " " = nearL := by decide +kernel
/-- a name: short, of plain signs, at its end a letter (or one of the two words) -/
def Nm (x : Str) : Prop := x.length ≤ 12 ∧ (∀ c ∈ x.cps.toList, c < 128) ∧ ((∃ pre c, x.cps.toList = pre ++ [c] ∧ 65 ≤ c) ∨ x = "outer1" ∨ x = "a1")
theorem Nm.ok {x : Str} (h : Nm x) : PyData.strOk x = true := strOk_of fun c hc => by
  have := h.2.1 c hc
  omega
theorem near_nm (m : Nat) (h : m < 12) : ∃ x, nearL[m]? = some x ∧ Nm x ∧ 1 ≤ x.length ∧ x.length < 12 := by
  have key : ∀ x ∈ nearL, (x.length ≤ 6 ∧ 1 ≤ x.length ∧ (∀ c ∈ x.cps.toList, c < 128)) ∧ ((65 ≤ x.cps.toList.getLastD 0) ∨ x = "outer1" ∨ x = "a1") := by decide +kernel
  have hl : m < nearL.length := h
  obtain ⟨⟨a, a', b⟩, c⟩ := key nearL[m] (List.getElem_mem hl)
  refine ⟨_, List.getElem?_eq_getElem hl, ⟨by omega, b, ?_⟩, a', by omega⟩
  rcases c with c | c
  · refine .inl ?_
    generalize nearL[m].cps.toList = l at c
    rcases List.eq_nil_or_concat l with hl | ⟨pre, z, hl⟩
    · rw [hl] at c; simp at c
    · rw [hl] at c
      rw [List.concat_eq_append] at hl
      exact ⟨pre, z, hl, by simpa using c⟩
  · exact .inr c
theorem len_cps (x : Str) : x.length = x.cps.toList.length := (Array.length_toList).symm
/-- what is found behind k turns -/
structure Fnd (k : Nat) (ns : List Str) : Prop where
  len : ns.length = k
  nd : ns.Nodup
  nm : ∀ x ∈ ns, Nm x
  l12 : ∀ x ∈ ns, x.length = 12 → k ≤ 11 → ∃ pre j, j < k ∧ x.cps.toList = pre ++ [Lt j]
/-- a name at the begin of turn k -/
def Start (k : Nat) (x : Str) : Prop := Nm x ∧ 1 ≤ x.length ∧ (x.length = 12 → k = 11)
/-- a name that was made longer in turn k -/
def Looped (k : Nat) (x : Str) : Prop := Nm x ∧ 1 ≤ x.length ∧ ∃ pre, x.cps.toList = pre ++ [Lt k]
theorem looped_out {k : Nat} {ns : List Str} {x : Str} (hk : k < 12) (F : Fnd k ns) (h : Looped k x) (h12 : x.length = 12) : x ∉ ns := fun q => by
  obtain ⟨pre, j, hj, e⟩ := F.l12 x q h12 (by omega)
  obtain ⟨_, _, p2, e2⟩ := h
  rw [e2] at e
  have := List.append_inj_right' e rfl
  simp at this
  have := lt_inj (by omega) (by omega) this
  omega
/-- one turn of the making longer -/
def longer (k : Nat) (x : Str) : Str := ⟨#[Lt ((k + x.length) % 52)]⟩ ++ ⟨(x.cps.toList.take 10).toArray⟩ ++ ⟨#[Lt (k % 52)]⟩
theorem longer_cps (k : Nat) (x : Str) : (longer k x).cps.toList = Lt ((k + x.length) % 52) :: x.cps.toList.take 10 ++ [Lt (k % 52)] := by
  unfold longer
  rw [PyProof.Rows.cps_toList_append, PyProof.Rows.cps_toList_append]
  rfl
theorem longer_len (k : Nat) (x : Str) : (longer k x).length = min 10 x.length + 2 := by
  rw [len_cps, longer_cps, len_cps]
  simp
theorem longer_looped {k : Nat} {x : Str} (hk : k < 12) (h : Nm x) : Looped k (longer k x) := by
  have hl := longer_len k x
  refine ⟨⟨by omega, fun c hc => ?_, .inl ⟨_, _, longer_cps k x, (lt_lo _ (by omega)).1⟩⟩, by omega, Lt ((k + x.length) % 52) :: x.cps.toList.take 10, ?_⟩
  · rw [longer_cps] at hc
    simp only [List.mem_append, List.mem_cons, List.mem_singleton, List.not_mem_nil, or_false] at hc
    rcases hc with (hc | hc) | hc
    · rw [hc]; exact (lt_lo _ (by omega)).2
    · exact h.2.1 c (List.mem_of_mem_take hc)
    · rw [hc]; exact (lt_lo _ (by omega)).2
  · rw [longer_cps, Nat.mod_eq_of_lt (show k < 52 by omega)]
theorem Fnd.snoc {k : Nat} {ns : List Str} {x : Str} (F : Fnd k ns) (hx : x ∉ ns) (h : Start k x ∨ Looped k x) : Fnd (k + 1) (ns ++ [x]) := by
  refine ⟨by simp [F.len], nodup_snoc F.nd hx, fun y hy => ?_, fun y hy h12 hk => ?_⟩
  · rcases List.mem_append.mp hy with q | q
    · exact F.nm y q
    · rw [List.mem_singleton.mp q]
      rcases h with h | h
      · exact h.1
      · exact h.1
  · rcases List.mem_append.mp hy with q | q
    · obtain ⟨pre, j, hj, e⟩ := F.l12 y q h12 (by omega)
      exact ⟨pre, j, by omega, e⟩
    · rw [List.mem_singleton.mp q] at h12 ⊢
      rcases h with h | h
      · have := h.2.2 h12
        omega
      · obtain ⟨pre, e⟩ := h.2.2
        exact ⟨pre, k, by omega, e⟩
theorem start_rep {f i : Nat} (hf : f < 52) (hi : i < 12) : Start i ⟨(List.take (1 + i % 12) (List.replicate 12 (Lt f))).toArray⟩ := by
  have hcp : (⟨(List.take (1 + i % 12) (List.replicate 12 (Lt f))).toArray⟩ : Str).cps.toList = List.replicate (i % 12) (Lt f) ++ [Lt f] := by
    show List.take (1 + i % 12) (List.replicate 12 (Lt f)) = _
    rw [List.take_replicate, Nat.min_eq_left (by omega), Nat.add_comm, List.replicate_succ']
  generalize (⟨(List.take (1 + i % 12) (List.replicate 12 (Lt f))).toArray⟩ : Str) = y at hcp
  have hl := len_cps y
  rw [hcp] at hl
  simp only [List.length_append, List.length_replicate, List.length_singleton] at hl
  refine ⟨⟨by omega, fun d hd => ?_, .inl ⟨_, _, hcp, (lt_lo _ hf).1⟩⟩, by omega, by omega⟩
  rw [hcp] at hd
  simp only [List.mem_append, List.mem_singleton, List.mem_replicate] at hd
  rcases hd with hd | hd
  · rw [hd.2]; exact (lt_lo _ hf).2
  · rw [hd]; exact (lt_lo _ hf).2
theorem s_asgD {tp : Addr} {σ : L2.St} {H : Hp} {te : TE} {P : V → Prop} {D : Ends} {i : Nat} (ht : Tap H tp) (h : Dr tp te σ (hide tp H) P) (k : ∀ v H1, Ex (hide tp H) H1 → Tap H1 tp → P v → D.nx (σ.set i (some v)) H1) : tAsg te (gName i) D σ H :=
  h H hide_ex ht _ fun v H1 e t p => k v H1 e t p
theorem ev_lenS {σ : L2.St} {H : Hp} {ta : TE} {z : Str} (hz : z.length ≤ 1000) (h : Ev ta σ H (.str z)) : Ev (tCB (fun xs H Q => ∃ z, xs = [.str z] ∧ z.length ≤ sizeLine ∧ Q (.int z.length) H) (tCons ta tNil)) σ H (.int (z.length : Nat)) :=
  ev_cb (ea_cons h ea_nil) fun H1 _ Q q => ⟨z, rfl, sz_of (by omega), q H1 (Ex.refl H1)⟩
theorem tap_ne {H : Hp} {tp p : Addr} (t : Tap H tp) (h : H p = none) : p ≠ tp := by
  obtain ⟨a, b, c, d, e⟩ := t
  exact fun z => by rw [z, e] at h; cases h
theorem tap_upd {H : Hp} {tp p : Addr} {o : HO} (t : Tap H tp) (h : p ≠ tp) : Tap (upd H p o) tp := by
  obtain ⟨a, b, c, d, e⟩ := t
  exact ⟨a, b, c, d, by rw [upd_ne (Ne.symm h)]; exact e⟩
section
variable {P : Program} {w : World} {K : PySem.W.Frag} {mg : Str → Option Value} {base : Heap}
def spMenu : Sp := fun vs H Q _ => ∃ (tp : Addr) (n : Nat), vs = [.ref tp, .int (n : Int)] ∧ Tap H tp ∧ n ≤ 12 ∧
  ∀ (ts : List Str) (p : Addr) (H' : Hp), ts.length = n → ts.Nodup → (∀ x ∈ ts, Nm x) → H p = none → Ex (hide tp H) H' → Tap H' tp → H' p = some (.lst (ts.map V.str)) → Q (.ref p) H'
theorem ok_menu {f : Addr} {fd : FuncData} (F : Fun K "_law_menu" "_law_menu" s__law_menu f fd) (T : Txt mg) (G__law_next : Def P w K mg base 2 "_law_next" ["_law_tap_here", "_law_size"] spDraw) : FnOk P w K mg base CX0 3 f fd ["_law_tap_here", "_law_many"] spMenu := by
  refine F.ok sc__law_menu (fun vs H Q E h => ?_) (fun cdv A outer s H vs Q E hr h => ?_)
  · obtain ⟨tp, n, rfl, _⟩ := h
    rfl
  · obtain ⟨tp, n, rfl, hT, hn, k⟩ := h
    have hu := hu_of hr
    refine ⟨_, pss_cons (ps_set (i := 2) sc__law_menu.nd rfl (Or.inl rfl) (pe_str))
      (pss_cons (ps_set (i := 3) sc__law_menu.nd rfl (Or.inl rfl) (pe_ix ix_str (pv 2) (pe_def G__law_next (hr.mono (by decide)) (by rfl) (pa_cons (pv 0) (pa_cons (pe_int) pa_nil))) (fun _ _ => rfl)))
      (pss_cons (ps_set (i := 4) sc__law_menu.nd rfl (Or.inl rfl) (pe_op op_add (pe_int) (pe_def G__law_next (hr.mono (by decide)) (by rfl) (pa_cons (pv 0) (pa_cons (pe_int) pa_nil)))))
      (pss_cons (ps_set (i := 5) sc__law_menu.nd rfl (Or.inl rfl) (pe_split (pe_str) (pe_str)))
      (pss_cons (ps_set (i := 6) sc__law_menu.nd rfl (Or.inl rfl) (pe_lst (pa_nil)))
      (pss_cons (ps_for PassesOwn.never rfl (pi_range1 (by rfl) T.range (pa_cons (pv 1) pa_nil)) (pg_name (i := 7) sc__law_menu.nd rfl (Or.inl rfl))
        (pss_cons (ps_set (i := 8) sc__law_menu.nd rfl (Or.inl rfl) (pe_def G__law_next (hr.mono (by decide)) (by rfl) (pa_cons (pv 0) (pa_cons (pe_int) pa_nil))))
        (pss_cons (ps_set (i := 9) sc__law_menu.nd rfl (Or.inl rfl) (pe_op op_add_str (pe_op op_add_str (pv 3) (pe_op op_mulS (pe_ix ix_str (pe_str) (pe_def G__law_next (hr.mono (by decide)) (by rfl) (pa_cons (pv 0) (pa_cons (pe_int) pa_nil))) (fun _ _ => rfl)) (pv 4))) (pe_ix ix_str (pv 2) (pe_op op_mod (pe_op op_mul (pe_int) (pv 7)) (pe_int)) (fun _ _ => rfl))))
        (pss_cut (ps_if (pt_cmpR op_eq (pv 8) (pe_int) (nomark _))
          (pss_one (ps_set (i := 9) sc__law_menu.nd rfl (Or.inl rfl) (pe_slice sl_str (pe_op op_mulS (pv 3) (pe_int)) po_none (po_some (pe_op op_add (pe_int) (pe_op op_mod (pv 7) (pe_int)))))))
          (pss_nil))
        (pss_cut (ps_if (pt_cmpR op_eq (pv 8) (pe_int) (nomark _))
          (pss_one (ps_set (i := 9) sc__law_menu.nd rfl (Or.inl rfl) (pe_ix (ixL (K := K)) (pv 5) (pe_def G__law_next (hr.mono (by decide)) (by rfl) (pa_cons (pv 0) (pa_cons (pe_int) pa_nil))) (fun _ _ => rfl))))
          (pss_nil))
        (pss_cons (ps_while PassesOwn.never (pt_cmpR (opIn (K := K)) (pv 9) (pv 6) (by rfl))
          (pss_one (ps_set (i := 9) sc__law_menu.nd rfl (Or.inl rfl) (pe_op op_add_str (pe_op op_add_str (pe_ix ix_str (pv 2) (pe_op op_mod (pe_op op_add (pv 7) (pe_callB call_len_str (by rfl) T.len (by decide +kernel) (pa_cons (pv 9) pa_nil))) (pe_int)) (fun _ _ => rfl)) (pe_slice sl_str (pv 9) po_none (po_some (pe_int)))) (pe_ix ix_str (pv 2) (pe_op op_mod (pv 7) (pe_int)) (fun _ _ => rfl))))))
        (pss_one (ps_expr (peBm (K := K) PySem.F.plainAttrs_list PySem.F.slot_list_append PySem.F.type_list_append mt_append (pv 6) (pa_cons (pv 9) pa_nil))))))))))
      (pss_one (ps_ret (pv 6)))))))), ?_⟩
    refine q_asg ev_c fun H1 e1 => ?_
    -- first
    refine q_asgD (tp := tp) (P := fun v => ∃ f, f < 52 ∧ v = .str ⟨#[Lt f]⟩) (hT.mono e1) (dr_op (dr_var rfl) (dr_draw 52 (by decide) rfl hide_at (dr_c.imp fun v hv => ⟨52, hv, by decide, by decide⟩)) ?_) ?_
    · rintro x y rfl ⟨r, rfl, r0, r1⟩
      exact ⟨_, ⟨r.toNat, by omega, rfl⟩, ixS (j := r.toNat) (by decide +kernel) (by omega) (lt_at _ (by omega))⟩
    rintro v H2 e2 t2 ⟨f, hf, rfl⟩
    -- size
    refine q_asgD (tp := tp) (P := fun v => ∃ z : Nat, 1 ≤ z ∧ z ≤ 9 ∧ v = .int (z : Int)) t2 (dr_op dr_c (dr_draw 9 (by decide) rfl hide_at (dr_c.imp fun v hv => ⟨9, hv, by decide, by decide⟩)) ?_) ?_
    · rintro x y rfl ⟨r, rfl, r0, r1⟩
      exact ⟨_, ⟨(1 + r).toNat, by omega, by omega, by congr 1; omega⟩, rv_I0⟩
    rintro v H3 e3 t3 ⟨sz, hs1, hs9, rfl⟩
    have e03 : Ex (hide tp H) H3 := (ex_hide ((ex_hide (hide_ex.trans e1) hide_at).trans e2) hide_at).trans e3
    -- near
    refine q_raw ⟨⟨_, rfl⟩, _, _, rfl, rfl, by decide +kernel, sz_of (by decide +kernel), ?_⟩
    rw [split_near]
    intro nr nnr
    have e4 : Ex H3 (upd H3 nr (.lst (nearL.map V.str))) := Ex.new nnr
    have at4 : upd H3 nr (.lst (nearL.map V.str)) nr = some (.lst (nearL.map V.str)) := upd_same
    show tSeq _ _ _ _ _
    generalize upd H3 nr (.lst (nearL.map V.str)) = H4 at e4 at4
    have hnt : nr ≠ tp := tap_ne t3 nnr
    -- found = []
    refine q_asgL el_nil fun fo H5 nfo e5 at5 => ?_
    have nfo3 : H3 fo = none := fresh_back e4 nfo
    have hft : fo ≠ tp := tap_ne t3 nfo3
    have nfoH : H fo = none := by
      have := fresh_back e03 nfo3
      rwa [hide_ne hft] at this
    have hfn : fo ≠ nr := fun z => by rw [z, at4] at nfo; cases nfo
    refine q_forR1 (n := (n : Int)) (ea_cons (ev_var rfl) ea_nil) (by omega) (fun i σ' H' => ∃ (ns : List Str) (v7 v8 v9 : Option V), σ' = [some (.ref tp), some (.int (n : Int)), some (.str letters), some (.str ⟨#[Lt f]⟩), some (.int (sz : Int)), some (.ref nr), some (.ref fo), v7, v8, v9] ∧ Tap H' tp ∧ Ex (hide tp H) H' ∧
      H' nr = some (.lst (nearL.map V.str)) ∧ H' fo = some (.lst (ns.map V.str)) ∧ Fnd i ns) ?_ ?_ ?_
    · intro H6 e6
      exact ⟨[], _, _, _, rfl, t3.mono (e4.trans (e5.trans e6)), e03.trans (e4.trans (e5.trans e6)), (e5.trans e6) _ _ at4, e6 _ _ at5, rfl, List.nodup_nil, (fun x hx => nomatch hx), fun x hx => nomatch hx⟩
    · clear at5 e5 nfo at4 e4 e3 t3 e2 t2 e1 e03 nnr nfo3 H1 H2 H3 H4 H5
      rintro i σ' H1 hi ⟨ns, v7, v8, v9, rfl, t1, e1, atn, atf, F⟩
      have hi12 : i < 12 := by omega
      -- way
      refine q_asgD (tp := tp) (P := fun v => ∃ r : Int, v = .int r) t1 ((dr_draw 3 (by decide) rfl hide_at (dr_c.imp fun v hv => ⟨3, hv, by decide, by decide⟩)).imp fun v ⟨r, hv, _⟩ => ⟨r, hv⟩) ?_
      rintro v H2 e2 t2 ⟨way, rfl⟩
      -- name
      have hm : ∀ i : Nat, i < 12 → (7 * (i : Int)) % 52 = ((7 * i % 52 : Nat) : Int) := fun i _ => by omega
      refine q_asgD (tp := tp) (P := fun v => ∃ x : Str, v = .str x ∧ Start i x) t2 (dr_op (P1 := fun v => ∃ (x : Str) (c : Nat), v = .str x ∧ c < 128 ∧ x.cps.toList = Lt f :: List.replicate sz c) (P2 := fun v => v = .str ⟨#[Lt (7 * i % 52)]⟩) (dr_op (dr_var rfl) (dr_op (P := fun v => ∃ c : Nat, c < 128 ∧ v = .str ⟨(List.replicate sz c).toArray⟩) (P1 := fun v => ∃ c : Nat, c < 128 ∧ v = .str ⟨#[c]⟩) (dr_op dr_c (dr_draw 4 (by decide) rfl hide_at (dr_c.imp fun v hv => ⟨4, hv, by decide, by decide⟩)) ?_) (dr_var rfl) ?_) ?_) (dr_ev (ev_op (ev_var rfl) (ev_op (ev_op ev_c (ev_var rfl) (rv_I (.inl (by decide)))) ev_c (rv_I (by decide))) (ixS (by decide +kernel) (hm i hi12) (lt_at _ (by omega))))) ?_) ?_
      · rintro x y rfl ⟨r, rfl, r0, r1⟩
        obtain ⟨c, hc, hlt⟩ := abc7_at r.toNat (by omega)
        exact ⟨_, ⟨c, hlt, rfl⟩, ixS (j := r.toNat) (by decide +kernel) (by omega) hc⟩
      · rintro x y ⟨c, hc, rfl⟩ rfl
        exact ⟨_, ⟨c, hc, rfl⟩, rv_mulS (by omega)⟩
      · rintro x y rfl ⟨c, hc, rfl⟩
        refine ⟨_, ⟨_, c, rfl, hc, ?_⟩, rv_addS ?_⟩
        · rw [PyProof.Rows.cps_toList_append]
          rfl
        · rw [len_cps, len_cps]
          simp
          omega
      · rintro x y ⟨x, c, rfl, hc, hx⟩ rfl
        have hxl : x.length = sz + 1 := by
          rw [len_cps, hx]
          simp
        have hcp : (x ++ ⟨#[Lt (7 * i % 52)]⟩ : Str).cps.toList = (Lt f :: List.replicate sz c) ++ [Lt (7 * i % 52)] := by
          rw [PyProof.Rows.cps_toList_append, hx]
        have hl : (x ++ ⟨#[Lt (7 * i % 52)]⟩ : Str).length = sz + 2 := by
          rw [len_cps, hcp]
          simp
        have h1 : (⟨#[Lt (7 * i % 52)]⟩ : Str).length = 1 := rfl
        refine ⟨_, ⟨_, rfl, ⟨by omega, fun d hd => ?_, .inl ⟨_, _, hcp, (lt_lo _ (by omega)).1⟩⟩, by omega, by omega⟩, rv_addS (by omega)⟩
        rw [hcp] at hd
        simp only [List.mem_append, List.mem_cons, List.mem_singleton, List.not_mem_nil, or_false, List.mem_replicate] at hd
        rcases hd with (hd | hd) | hd
        · rw [hd]; exact (lt_lo _ (by omega)).2
        · rw [hd.2]; exact hc
        · rw [hd]; exact (lt_lo _ (by omega)).2
      rintro v H3 e3 t3 ⟨x0, rfl, hx0⟩
      have e13 : Ex (hide tp H1) H3 := (ex_hide e2 hide_at).trans e3
      have e03 : Ex (hide tp H) H3 := (ex_hide e1 hide_at).trans e13
      have atn3 := e13 _ _ (hide_get atn hnt)
      have atf3 := e13 _ _ (hide_get atf hft)
      clear e13 e3 e2 t2 t1 e1 atn atf H1 H2
      -- if way == 1
      refine q_cut (M := fun σ' H' => ∃ x, σ' = [some (.ref tp), some (.int (n : Int)), some (.str letters), some (.str ⟨#[Lt f]⟩), some (.int (sz : Int)), some (.ref nr), some (.ref fo), some (.int (i : Nat)), some (.int way), some (.str x)] ∧ Start i x ∧ Tap H' tp ∧ Ex (hide tp H) H' ∧ H' nr = some (.lst (nearL.map V.str)) ∧ H' fo = some (.lst (ns.map V.str))) (s_when (et_test (ev_op (ev_var rfl) ev_c (rv_eq rfl))) (fun _ H4 e4 => ?_) fun _ H4 e4 => ⟨x0, rfl, hx0, t3.mono e4, e03.trans e4, e4 _ _ atn3, e4 _ _ atf3⟩) ?_
      · refine s_asg (ev_slS (z := ⟨(List.replicate 12 (Lt f)).toArray⟩) (k := 1 + i % 12) (by rw [len_cps]; simp) (ev_op (ev_var rfl) ev_c (rv_mulS (n := 12) (by decide))) (eo_some (ev_is (ev_op ev_c (ev_op (ev_var rfl) ev_c (rv_I (by decide))) rv_I0) (by congr 1)))) fun H5 e5 => ?_
        have e35 := e4.trans e5
        refine ⟨_, rfl, ?_, t3.mono e35, e03.trans e35, e35 _ _ atn3, e35 _ _ atf3⟩
        exact start_rep hf hi12
      clear atn3 atf3 e03 t3 hx0 x0 H3
      rintro _ H3 ⟨x0, rfl, hx0, t3, e03, atn3, atf3⟩
      -- if way == 2
      refine q_cut (M := fun σ' H' => ∃ x, σ' = [some (.ref tp), some (.int (n : Int)), some (.str letters), some (.str ⟨#[Lt f]⟩), some (.int (sz : Int)), some (.ref nr), some (.ref fo), some (.int (i : Nat)), some (.int way), some (.str x)] ∧ Start i x ∧ Tap H' tp ∧ Ex (hide tp H) H' ∧ H' nr = some (.lst (nearL.map V.str)) ∧ H' fo = some (.lst (ns.map V.str))) (s_when (et_test (ev_op (ev_var rfl) ev_c (rv_eq rfl))) (fun _ H4 e4 => ?_) fun _ H4 e4 => ⟨x0, rfl, hx0, t3.mono e4, e03.trans e4, e4 _ _ atn3, e4 _ _ atf3⟩) ?_
      · refine s_asgD (tp := tp) (P := fun v => ∃ x, v = .str x ∧ Start i x) (t3.mono e4) (dr_op (dr_var rfl) (dr_draw 12 (by decide) rfl hide_at (dr_c.imp fun v hv => ⟨12, hv, by decide, by decide⟩)) ?_) ?_
        · rintro x y rfl ⟨r, rfl, r0, r1⟩
          obtain ⟨z, hz, hnm, h1, h12⟩ := near_nm r.toNat (by omega)
          exact ⟨_, ⟨z, rfl, hnm, h1, by omega⟩, ixAt (K := K) (j := r.toNat) (hide_get (e4 _ _ atn3) hnt) (by omega) (by rw [List.getElem?_map, hz]; rfl)⟩
        · rintro v H5 e5 t5 ⟨x, rfl, hx⟩
          exact ⟨x, rfl, hx, t5, (ex_hide (e03.trans e4) hide_at).trans e5, e5 _ _ (hide_get (e4 _ _ atn3) hnt), e5 _ _ (hide_get (e4 _ _ atf3) hft)⟩
      clear atn3 atf3 e03 t3 hx0 x0 H3
      rintro _ H3 ⟨x0, rfl, hx0, t3, e03, atn3, atf3⟩
      -- while name in found
      refine q_while (fun m σ' H' => ∃ x, σ' = [some (.ref tp), some (.int (n : Int)), some (.str letters), some (.str ⟨#[Lt f]⟩), some (.int (sz : Int)), some (.ref nr), some (.ref fo), some (.int (i : Nat)), some (.int way), some (.str x)] ∧ Ex H3 H' ∧ ((Start i x ∧ m = 100) ∨ (Looped i x ∧ m = 12 - x.length))) 100 ⟨x0, rfl, Ex.refl _, .inl ⟨hx0, rfl⟩⟩ ?_
      rintro m _ H4 ⟨x, rfl, e4, hx⟩
      have hnm : Nm x ∧ 1 ≤ x.length := by
        rcases hx with h | h
        · exact ⟨h.1.1, h.1.2.1⟩
        · exact ⟨h.1.1, h.1.2.1⟩
      have hxl := hnm.1.1
      refine ⟨decide (x ∈ ns), et_test (ev_is (ev_op (ev_var rfl) (ev_var rfl) (rv_isL (K := K) (sq_of (e4 _ _ atf3)) rfl (flat_str _))) (by rw [inV_str])), fun hb H5 e5 => ⟨_, fun σ2 H2 h => h, ?_⟩, fun hb H5 e5 => ?_⟩
      · have hin : x ∈ ns := of_decide_eq_true hb
        have hz1 : (⟨#[Lt ((i + x.length) % 52)]⟩ : Str).length = 1 := rfl
        have hz2 : (⟨#[Lt (i % 52)]⟩ : Str).length = 1 := rfl
        have hz3 : (⟨(x.cps.toList.take 10).toArray⟩ : Str).length ≤ 12 := by
          rw [len_cps]
          simp
          omega
        refine s_asg (v := .str (longer i x)) (ev_op (ev_op (ev_op (ev_var rfl) (ev_op (ev_op (ev_var rfl) (ev_lenS (by omega) (ev_var rfl)) rv_I0) ev_c (rv_I (by decide))) (ixS (j := (i + x.length) % 52) (by decide +kernel) (by omega) (lt_at _ (by omega)))) (ev_slS (k := 10) (by omega) (ev_var rfl) (eo_some ev_c)) (rv_addS (by omega))) (ev_op (ev_var rfl) (ev_op (ev_var rfl) ev_c (rv_I (by decide))) (ixS (j := i % 52) (by decide +kernel) (by omega) (lt_at _ (by omega)))) (rv_addS ?_)) fun H6 e6 => ?_
        · rw [Str.length_append]
          omega
        · have hl := longer_len i x
          refine ⟨12 - (longer i x).length, ?_, longer i x, rfl, e4.trans (e5.trans e6), .inr ⟨longer_looped hi12 hnm.1, rfl⟩⟩
          rcases hx with ⟨_, rfl⟩ | ⟨h, rfl⟩
          · omega
          · have : x.length ≠ 12 := fun z => looped_out hi12 F h z hin
            omega
      · have hout : x ∉ ns := of_decide_eq_false hb
        refine s_app (K := K) ((e4.trans e5) _ _ atf3) (ev_var rfl) (ev_var rfl) (by rw [List.length_map, F.len]; omega) fun H6 e6 => ?_
        have e36 := e4.trans (e5.trans e6)
        refine ⟨ns ++ [x], _, _, _, rfl, tap_upd (t3.mono e36) hft, Ex.mut (e03.trans e36) (by rw [hide_ne hft]; exact nfoH), ?_, ?_, F.snoc hout (hx.imp (·.1) (·.1))⟩
        · rw [upd_ne (Ne.symm hfn)]
          exact e36 _ _ atn3
        · rw [upd_same, List.map_append]
          rfl
    · rintro σ' H6 ⟨ns, v7, v8, v9, rfl, t6, e6, _, atf, F⟩
      exact s_ret (ev_var rfl) fun H7 e7 => k ns fo H7 (by rw [F.len]; rfl) F.nd F.nm nfoH (e6.trans e7) (t6.mono e7) (e7 _ _ atf)
end
end K

set_option Elab.async false
set_option linter.all false
set_option maxRecDepth 100000
namespace K
open PySem L2 Evl EX
/-- dict([(x, d[x]) for x in order]) -/
theorem dict_of {K : PySem.W.Frag} {σ : L2.St} {H : Hp} {io it id : Nat} {oa d : Addr} {od : List Str} {kvs : List (Key × V)} {Q : VK} (ho : σ[io]? = some (some (.ref oa))) (hoa : H oa = some (.lst (od.map V.str))) (hd : H d = some (.dK kvs)) (nd : od.Nodup) (hz : od.length ≤ 1000)
    (hv : ∀ x ∈ od, ∃ v, valV kvs (Sum.inr x) = some v) (hw : ∀ x, wipe ((wipe σ [it]).set it (some x)) [it] = wipe σ [it]) (hit : ∀ x, ((wipe σ [it]).set it (some x))[it]? = some (some x)) (hid : ∀ x, ((wipe σ [it]).set it (some x))[id]? = some (some (.ref d)))
    (k : ∀ p H', H p = none → Ex H H' → H' p = some (.dK (od.map fun x => ((Sum.inr x : Key), (valV kvs (Sum.inr x)).getD .non))) → Q (.ref p) H') :
    tCB (rDictP K) (tCons (tLc (iList K (tVar io)) (gName it) tYes (tTup (tCons (tVar it) (tCons (tDGet (tVar id) (tVar it)) tNil))) [it]) tNil) σ H Q := by
  refine ⟨_, ho, oa, rfl, ⟨_, sq_of hoa⟩, fun Dl nD => ?_⟩
  refine lc_list (K := K) (a := oa) (xs := od.map V.str) (fun i H' => ∃ as : List Addr, as.length = i ∧ Ex H H' ∧ H' Dl = some (.lst (as.map V.ref)) ∧ ∀ (n : Nat) Tt, as[n]? = some Tt → ∃ x, od[n]? = some x ∧ Tt ≠ Dl ∧ H' Tt = some (.tup [.str x, (valV kvs (Sum.inr x)).getD .non])) ?_ ?_ ?_ ?_
  · exact ⟨[], rfl, Ex.new nD, upd_same, fun n Tt h => by simp at h⟩
  · rintro i H' _ ⟨as, _, e, _⟩
    exact sq_of (e _ _ hoa)
  · rintro i x H4 hi ⟨as, hal, e4, atD, hat⟩
    rw [List.getElem?_map] at hi
    cases hx : od[i]? with
    | none => rw [hx] at hi; cases hi
    | some y =>
      rw [hx] at hi
      cases hi
      obtain ⟨v, hyv⟩ := hv y (List.mem_of_getElem? hx)
      have hi' : i < od.length := (List.getElem?_eq_some_iff.mp hx).1
      refine ⟨hw _, yes_raw ?_⟩
      refine ⟨_, hit _, _, hid _, _, hit _, d, v, rfl, by rw [← hyv]; exact dget_of (k := Sum.inr y) (.inl (e4 _ _ hd)), ?_⟩
      refine ⟨by simp [sizeLine], fun Tt nT => ?_⟩
      have e7 : Ex H4 (upd H4 Tt (.tup [.str y, v])) := Ex.new nT
      have hTD : Tt ≠ Dl := fun z => by rw [z, atD] at nT; cases nT
      refine ⟨as.map V.ref, e7 _ _ atD, by rw [List.length_map]; exact sz_lt (by omega), as ++ [Tt], by simp [hal], Ex.mut (e4.trans e7) nD, ?_, ?_⟩
      · rw [upd_same, List.map_append]
        rfl
      · intro n T' hn
        by_cases hlt : n < as.length
        · rw [List.getElem?_append_left hlt] at hn
          obtain ⟨y', h1, h2, h3⟩ := hat n T' hn
          exact ⟨y', h1, h2, by rw [upd_ne h2]; exact e7 _ _ h3⟩
        · have hni : n = as.length := by
            have := (List.getElem?_eq_some_iff.mp hn).1
            simp at this
            omega
          subst hni
          rw [List.getElem?_append_right (Nat.le_refl _), Nat.sub_self] at hn
          cases hn
          exact ⟨y, by rw [hal]; exact hx, hTD, by rw [upd_ne hTD, upd_same, hyv]; rfl⟩
  · rintro H4 ⟨as, hal, e4, atD, hat⟩
    rw [List.length_map] at hal
    have hkeys : ((od.map fun x => ((Sum.inr x : Key), (valV kvs (Sum.inr x)).getD .non)).map (·.1)).Nodup := by
      rw [List.map_map]
      exact EX.nodup_map_on (fun a _ b _ h => Sum.inr.inj h) nd
    refine ⟨Dl, as, od.map fun x => ((Sum.inr x : Key), (valV kvs (Sum.inr x)).getD .non), rfl, sq_of atD, paired_of (by simp [hal]) fun n p kv h1 h2 => ?_, fun ed ned => ?_⟩
    · obtain ⟨x, h3, _, h4⟩ := hat n p h1
      rw [List.getElem?_map, h3] at h2
      cases h2
      exact st_of h4
    · rw [mergeK_new _ [] (by simpa using hkeys), List.nil_append]
      exact k ed _ (fresh_back e4 ned) (e4.trans (Ex.new ned)) upd_same
theorem dr_min2 {tp : Addr} {σ : L2.St} {B : Hp} {ta tb : TE} {P P1 P2 : V → Prop} (ha : Dr tp ta σ B P1) (hb : Dr tp tb σ B P2) (h : ∀ x y, P1 x → P2 y → ∃ i j : Int, x = .int i ∧ y = .int j ∧ P (.int (if j < i then j else i))) :
    Dr tp (tCB (fun xs H Q => ∃ i j, xs = [.int i, .int j] ∧ Q (.int (if j < i then j else i)) H) (tCons ta (tCons tb tNil))) σ B P := fun H1 e t Q q =>
  ha H1 e t _ fun x H2 e2 t2 p1 => hb H2 e2 t2 _ fun y H3 e3 t3 p2 => by
    obtain ⟨i, j, rfl, rfl, pz⟩ := h x y p1 p2
    exact ⟨i, j, rfl, q _ H3 e3 t3 pz⟩
theorem el_lcRevN {K : PySem.W.Frag} {σ : L2.St} {H : Hp} {te : TE} {t : TT} {xs : List V} {tl : TE} {j : Nat} {vs : List Nat} (f : Nat → Bool) (v : Nat → V) (h : EvL tl σ H xs) (hz : xs.length ≤ 40000) (hw : ∀ x, wipe ((wipe σ vs).set j (some x)) vs = wipe σ vs)
    (ht : ∀ (i : Nat) (x : V) H1, Ex H H1 → i < xs.length → xs[xs.length - 1 - i]? = some x → EvT t ((wipe σ vs).set j (some x)) H1 (f i)) (he : ∀ (i : Nat) (x : V) H1, Ex H H1 → i < xs.length → xs[xs.length - 1 - i]? = some x → f i = true → Ev te ((wipe σ vs).set j (some x)) H1 (v i)) :
    EvL (tLc (iRev K (tCons tl tNil)) (gName j) t te vs) σ H (given xs.length f v) := fun H0 e Q q => h H0 e _ fun a H1 na e1 at1 => ⟨a, xs, rfl, sq_of at1, fun Dl hD =>
  lc_rev (xs := xs) (Cw H1 f v Dl) ⟨hD, Ex.new hD, upd_same⟩ (fun i H' _ p => ex_l p.2.1 (sq_of at1)) (fun i x H' hlt hi p => ⟨hw x, cw_turn p (by omega) (ht i x H1 (e.trans e1) hlt hi) (fun hf => he i x H1 (e.trans e1) hlt hi hf)⟩)
    (fun H' p => q Dl H' (fresh_back e1 p.1) (e1.trans p.2.1) p.2.2)⟩
theorem dr_int {tp : Addr} {σ : L2.St} {B : Hp} {te : TE} {n : Int} (N : Int) (h0 : 0 < n) (h1 : n ≤ N) (h : Ev te σ B (.int n)) : Dr tp te σ B (fun v => ∃ n : Int, v = .int n ∧ 0 < n ∧ n ≤ N) := (dr_ev h).imp fun v hv => ⟨n, hv, h0, h1⟩
/-- titles, their elders' lists, and the dict that tells them -/
structure Kin (H : Hp) (tp : Addr) (ts : List Str) (es : List (List Str)) (kvs : List (Key × V)) : Prop where
  sch : EM.Sch ts es
  at_ : ∀ (j : Nat) x, ts[j]? = some x → ∃ p l, es[j]? = some l ∧ p ≠ tp ∧ valV kvs (Sum.inr x) = some (.ref p) ∧ H p = some (.lst (l.map V.str))
  keys : (kvs.map (·.1)).Perm (ts.map Sum.inr)
  ez : ∀ l ∈ es, l.length ≤ 12
theorem Kin.mono {H H' : Hp} {tp : Addr} {ts : List Str} {es : List (List Str)} {kvs : List (Key × V)} (g : Kin H tp ts es kvs) (e : Ex (hide tp H) H') : Kin H' tp ts es kvs :=
  ⟨g.sch, fun j x h => let ⟨p, l, a, b, c, d⟩ := g.at_ j x h; ⟨p, l, a, b, c, e _ _ (hide_get d b)⟩, g.keys, g.ez⟩
theorem Kin.mono1 {H H' : Hp} {tp : Addr} {ts : List Str} {es : List (List Str)} {kvs : List (Key × V)} (g : Kin H tp ts es kvs) (e : Ex H H') : Kin H' tp ts es kvs := g.mono (hide_ex.trans e)
/-- the dict itself may be changed: its lists stand elsewhere -/
theorem Kin.upd {H H1 : Hp} {tp d : Addr} {o : HO} {ts : List Str} {es : List (List Str)} {kvs : List (Key × V)} (g : Kin H tp ts es kvs) (hd : H d = some (.dK kvs)) (e : Ex H H1) : Kin (upd H1 d o) tp ts es kvs :=
  ⟨g.sch, fun j x h => let ⟨p, l, a, b, c, d'⟩ := g.at_ j x h; ⟨p, l, a, b, c, by rw [upd_ne (ne_of d' hd (by intro z; cases z))]; exact e _ _ d'⟩, g.keys, g.ez⟩
theorem Kin.klen {H : Hp} {tp : Addr} {ts : List Str} {es : List (List Str)} {kvs : List (Key × V)} (g : Kin H tp ts es kvs) : kvs.length = ts.length := by
  have := g.keys.length_eq
  simpa using this
theorem Kin.knd {H : Hp} {tp : Addr} {ts : List Str} {es : List (List Str)} {kvs : List (Key × V)} (g : Kin H tp ts es kvs) : (kvs.map (·.1)).Nodup := by
  rw [g.keys.nodup_iff]
  exact EX.nodup_map_on (fun a _ b _ h => Sum.inr.inj h) g.sch.nd
/-- a new title -/
theorem Kin.new {H H' : Hp} {tp p : Addr} {ts : List Str} {es : List (List Str)} {kvs : List (Key × V)} {x : Str} {l : List Str} (g : Kin H tp ts es kvs) (hx : x ∉ ts) (hl : ∀ e ∈ l, e ∈ ts) (hz : l.length ≤ 12) (hp : p ≠ tp) (h : H' p = some (.lst (l.map V.str)))
    (e : ∀ q m, q ≠ tp → H q = some (.lst m) → H' q = some (.lst m)) : Kin H' tp (ts ++ [x]) (es ++ [l]) (putK kvs (Sum.inr x) (.ref p)) := by
  have hk : valV kvs (Sum.inr x : Key) = none := by
    cases hv : valV kvs (Sum.inr x : Key) with
    | none => rfl
    | some v =>
      have := g.keys.mem_iff.mp (valV_in hv)
      obtain ⟨y, hy, e⟩ := List.mem_map.mp this
      cases e
      exact absurd hy hx
  refine ⟨g.sch.snoc hx hl, fun j y hy => ?_, ?_, fun m hm => ?_⟩
  · rw [valV_put]
    by_cases hj : j < ts.length
    · rw [List.getElem?_append_left hj] at hy
      obtain ⟨q, m, a, b, c, d⟩ := g.at_ j y hy
      have hyx : ¬ y = x := fun z => hx (z ▸ List.mem_of_getElem? hy)
      refine ⟨q, m, ?_, b, ?_, e _ _ b d⟩
      · rw [List.getElem?_append_left (by rw [g.sch.len]; exact hj)]
        exact a
      · rw [if_neg (fun z => hyx (Sum.inr.inj z))]
        exact c
    · have hj' : j = ts.length := by
        have := (List.getElem?_eq_some_iff.mp hy).1
        simp at this
        omega
      subst hj'
      rw [List.getElem?_append_right (Nat.le_refl _), Nat.sub_self] at hy
      cases hy
      refine ⟨p, l, ?_, hp, by rw [if_pos rfl], h⟩
      rw [List.getElem?_append_right (by rw [g.sch.len]; exact Nat.le_refl _), g.sch.len, Nat.sub_self]
      rfl
  · rw [putK_new _ hk, List.map_append, List.map_append]
    exact g.keys.append_right _
  · rcases List.mem_append.mp hm with q | q
    · exact g.ez m q
    · rw [List.mem_singleton.mp q]
      exact hz
theorem Kin.val {H : Hp} {tp : Addr} {ts : List Str} {es : List (List Str)} {kvs : List (Key × V)} (g : Kin H tp ts es kvs) {x : Str} (hx : x ∈ ts) : ∃ p, valV kvs (Sum.inr x) = some (.ref p) ∧ p ≠ tp ∧ H p = some (.lst ((EM.EF ts es x).map V.str)) := by
  obtain ⟨j, hj, e⟩ := List.getElem_of_mem hx
  have hjx : ts[j]? = some x := by rw [List.getElem?_eq_getElem hj, e]
  obtain ⟨p, l, a, b, c, d⟩ := g.at_ j x hjx
  rw [EM.EF_at g.sch hjx a]
  exact ⟨p, c, b, d⟩
theorem valV_map {od : List Str} {f : Str → V} {x : Str} (h : x ∈ od) : valV (od.map fun y => ((Sum.inr y : Key), f y)) (Sum.inr x) = some (f x) := by
  induction od with
  | nil => cases h
  | cons a od ih =>
    by_cases e : a = x
    · subst e
      exact valV_pos rfl
    · rw [List.map_cons, valV_neg (fun z => e (Sum.inr.inj z))]
      exact ih ((List.mem_cons.mp h).resolve_left (fun z => e z.symm))
/-- the same, told in another order -/
theorem Kin.turn {H H' : Hp} {tp : Addr} {ts od : List Str} {es : List (List Str)} {kvs : List (Key × V)} (g : Kin H tp ts es kvs) (hp : od.Perm ts) (e : Ex (hide tp H) H') : Kin H' tp ts es (od.map fun x => ((Sum.inr x : Key), (valV kvs (Sum.inr x)).getD .non)) := by
  refine ⟨g.sch, fun j x h => ?_, ?_, g.ez⟩
  · obtain ⟨p, l, a, b, c, d⟩ := g.at_ j x h
    refine ⟨p, l, a, b, ?_, e _ _ (hide_get d b)⟩
    rw [valV_map (hp.mem_iff.mpr (List.mem_of_getElem? h)), c]
    rfl
  · rw [List.map_map]
    exact hp.map _
section
variable {P : Program} {w : World} {K : PySem.W.Frag} {mg : Str → Option Value} {base : Heap}
def spOneOf (K : PySem.W.Frag) : Sp := fun vs H Q _ => ∃ (tp p : Addr) (ts : List Str), vs = [.ref tp, .ref p] ∧ Tap H tp ∧ p ≠ tp ∧ H p = some (.lst (ts.map V.str)) ∧ ts ≠ [] ∧ ts.length ≤ 1000 ∧ ∀ (x : Str) (H' : Hp), x ∈ ts → Ex (hide tp H) H' → Tap H' tp → Q (.str x) H'
theorem ok_one_of {f : Addr} {fd : FuncData} (F : Fun K "_law_one_of" "_law_one_of" s__law_one_of f fd) (T : Txt mg) (G__law_next : Def P w K mg base 2 "_law_next" ["_law_tap_here", "_law_size"] spDraw) : FnOk P w K mg base CX0 3 f fd ["_law_tap_here", "_law_some"] (spOneOf K) := by
  refine F.ok sc__law_one_of (fun vs H Q E h => ?_) (fun cdv A outer s H vs Q E hr h => ?_)
  · obtain ⟨tp, p, ts, rfl, _⟩ := h
    rfl
  · obtain ⟨tp, p, ts, rfl, hT, hp, at_, hne, hz, k⟩ := h
    have hu := hu_of hr
    refine ⟨_, pss_one (ps_ret (pe_ix (ixL (K := K)) (pv 1) (pe_def G__law_next (hr.mono (by decide)) (by rfl) (pa_cons (pv 0) (pa_cons (pe_callB (clLen (K := K)) (by rfl) T.len (by decide +kernel) (pa_cons (pv 1) pa_nil)) pa_nil))) (fun _ _ => rfl))), ?_⟩
    have hpos : 0 < ts.length := List.length_pos_iff.mpr hne
    refine ret_raw (dr_op (tp := tp) (P := fun v => ∃ x, v = .str x ∧ x ∈ ts) (dr_var rfl) (dr_draw (ts.length : Int) (by omega) rfl hide_at (dr_int (n := (ts.length : Int)) _ (by omega) (Int.le_refl _) (ev_is (ev_len (K := K) (ev_var rfl) (sq_of (hide_get at_ hp))) (by rw [List.length_map])))) ?_ H hide_ex hT _ ?_)
    · rintro x y rfl ⟨r, rfl, r0, r1⟩
      have hr : r.toNat < ts.length := by omega
      exact ⟨_, ⟨ts[r.toNat], rfl, List.getElem_mem hr⟩, ixAt (K := K) (j := r.toNat) (hide_get at_ hp) (by omega) (by rw [List.getElem?_map, List.getElem?_eq_getElem hr]; rfl)⟩
    · rintro v H1 e1 t1 ⟨x, rfl, hx⟩
      exact k x H1 hx e1 t1
end
end K

set_option Elab.async false
set_option linter.all false
set_option maxRecDepth 100000
namespace K
open PySem L2 Evl EX
section
variable {P : Program} {w : World} {K : PySem.W.Frag} {mg : Str → Option Value} {base : Heap}
theorem take_snoc {ts : List Str} {i : Nat} {x : Str} (h : ts[i]? = some x) : ts.take (i + 1) = ts.take i ++ [x] := by
  rw [List.take_add_one, h]
  rfl
theorem nd_take {ts : List Str} {i : Nat} {x : Str} (nd : ts.Nodup) (h : ts[i]? = some x) : x ∉ ts.take i := fun q => by
  obtain ⟨j, hj, e⟩ := List.getElem_of_mem q
  have hji : j < i := by
    have : (ts.take i).length ≤ i := List.length_take_le _ _
    omega
  have h2 : ts[j]? = some x := by
    have : (ts.take i)[j]? = some x := by rw [List.getElem?_eq_getElem hj, e]
    rwa [List.getElem?_take_of_lt hji] at this
  have := nd_ix nd h h2
  omega
def spElders (K : PySem.W.Frag) : Sp := fun vs H Q _ => ∃ (tp : Addr) (n : Nat) (wild : Int), vs = [.ref tp, .int (n : Int), .int wild] ∧ Tap H tp ∧ n ≤ 12 ∧ 0 < wild ∧ wild < 1000 ∧
  ∀ (ts : List Str) (es : List (List Str)) (kvs : List (Key × V)) (tu ti ed : Addr) (H' : Hp), ts.length = n → (∀ x ∈ ts, Nm x) → Kin H' tp ts es kvs → H ti = none → H ed = none → H' tu = some (.tup [.ref ti, .ref ed]) → H' ti = some (.lst (ts.map V.str)) → H' ed = some (.dK kvs) → Ex (hide tp H) H' → Tap H' tp → Q (.ref tu) H'
theorem ok_elders {f : Addr} {fd : FuncData} (F : Fun K "_law_elders" "_law_elders" s__law_elders f fd) (T : Txt mg) (G__law_next : Def P w K mg base 2 "_law_next" ["_law_tap_here", "_law_size"] spDraw) (G__law_menu : Def P w K mg base 3 "_law_menu" ["_law_tap_here", "_law_many"] spMenu) :
    FnOk P w K mg base CX0 4 f fd ["_law_tap_here", "_law_many", "_law_wild"] (spElders K) := by
  refine F.ok sc__law_elders (fun vs H Q E h => ?_) (fun cdv A outer s H vs Q E hr h => ?_)
  · obtain ⟨tp, n, wild, rfl, _⟩ := h
    rfl
  · obtain ⟨tp, n, wild, rfl, hT, hn, hw0, hw1, k⟩ := h
    have hu := hu_of hr
    refine ⟨_, pss_cons (ps_set (i := 3) sc__law_elders.nd rfl (Or.inl rfl) (pe_def G__law_menu (hr.mono (by decide)) (by rfl) (pa_cons (pv 0) (pa_cons (pv 1) pa_nil))))
      (pss_cons (ps_set (i := 4) sc__law_elders.nd rfl (Or.inr rfl) (pe_dnewK))
      (pss_cons (ps_for PassesOwn.never rfl (pi_range1 (by rfl) T.range (pa_cons (pv 1) pa_nil)) (pg_name (i := 5) sc__law_elders.nd rfl (Or.inl rfl))
        (pss_cons (ps_set (i := 6) sc__law_elders.nd rfl (Or.inr rfl) (pe_lst (pa_nil)))
        (pss_cons (ps_for PassesOwn.never rfl (pi_range1 (by rfl) T.range (pa_cons (pe_callB (call_min2 rfl) (by rfl) T.min (by decide +kernel) (pa_cons (pv 5) (pa_cons (pe_def G__law_next (hr.mono (by decide)) (by rfl) (pa_cons (pv 0) (pa_cons (pe_ix (ixL (K := K)) (pe_lst (pa_cons (pe_int) (pa_cons (pe_int) (pa_cons (pe_int) pa_nil)))) (pe_def G__law_next (hr.mono (by decide)) (by rfl) (pa_cons (pv 0) (pa_cons (pe_int) pa_nil))) (fun _ _ => rfl)) pa_nil))) pa_nil))) pa_nil)) (pg_name (i := 7) sc__law_elders.nd rfl (Or.inl rfl))
          (pss_cons (ps_set (i := 8) sc__law_elders.nd rfl (Or.inl rfl) (pe_ix (ixL (K := K)) (pv 3) (pe_def G__law_next (hr.mono (by decide)) (by rfl) (pa_cons (pv 0) (pa_cons (pv 5) pa_nil))) (fun _ _ => rfl)))
          (pss_one (ps_if (PW.pt (pw_or (pt_cmpR (opNin (K := K)) (pv 8) (pv 6) (by rfl)) (pw_or1 (pt_cmpR op_eq (pe_def G__law_next (hr.mono (by decide)) (by rfl) (pa_cons (pv 0) (pa_cons (pe_int) pa_nil))) (pe_int) (nomark _)))))
            (pss_one (ps_expr (peBm (K := K) PySem.F.plainAttrs_list PySem.F.slot_list_append PySem.F.type_list_append mt_append (pv 6) (pa_cons (pv 8) pa_nil))))
            (pss_nil)))))
        (pss_cut (ps_if (pt_cmpR op_gt (pe_def G__law_next (hr.mono (by decide)) (by rfl) (pa_cons (pv 0) (pa_cons (pv 2) pa_nil))) (pe_int) (nomark _))
          (pss_one (ps_set (i := 6) sc__law_elders.nd rfl (Or.inr rfl) (pe_lc (own := [("_law_title", 10)]) (g := gName 10) rfl sc__law_elders.nd (piRev (K := K) (by rfl) T.reversed (pa_cons (pe_slice (slL (K := K)) (pv 3) po_none (po_some (pv 5))) pa_nil)) (blkOk_by (N := N__law_elders) (sc := defScope s__law_elders) (by decide +kernel)) (fun _ _ _ _ _ => pg_name (i := 10) sc__law_elders.nd rfl (Or.inl rfl)) (fun _ _ _ _ _ => pts_one (pt_cmpR (opIn (K := K)) (pv 10) (pv 6) (by rfl))) (fun _ _ _ _ _ => pv 10))))
          (pss_nil))
        (pss_one (ps_dput hu (pv 4) (pe_ix (ixL (K := K)) (pv 3) (pv 5) (fun _ _ => rfl)) (pv 6) rfl))))))
      (pss_cons (ps_set (i := 9) sc__law_elders.nd rfl (Or.inl rfl) (pe_lst (pa_nil)))
      (pss_cons (ps_for PassesOwn.never rfl (pi_range1 (by rfl) T.range (pa_cons (pv 1) pa_nil)) (pg_name (i := 5) sc__law_elders.nd rfl (Or.inl rfl))
        (pss_one (ps_expr (peBm (K := K) PySem.F.plainAttrs_list PySem.F.slot_list_insert PySem.F.type_list_insert mt_insert (pv 9) (pa_cons (pe_def G__law_next (hr.mono (by decide)) (by rfl) (pa_cons (pv 0) (pa_cons (pe_op op_add (pv 5) (pe_int)) pa_nil))) (pa_cons (pe_ix (ixL (K := K)) (pv 3) (pv 5) (fun _ _ => rfl)) pa_nil))))))
      (pss_one (ps_ret (pe_tup (pa_cons (pv 3) (pa_cons (pe_callTy (clDictP (K := K)) (by rfl) T.dict (by decide +kernel) (pa_cons (pe_lc (own := [("_law_title", 10)]) (g := gName 10) (tt := tYes) rfl sc__law_elders.nd (piL (K := K) (pv 9)) (blkOk_by (N := N__law_elders) (sc := defScope s__law_elders) (by decide +kernel)) (fun _ _ _ _ _ => pg_name (i := 10) sc__law_elders.nd rfl (Or.inl rfl)) (fun _ _ _ _ _ => pts_nil) (fun _ _ _ _ _ => pe_tup (pa_cons (pv 10) (pa_cons (pe_dget hu (pv 4) (pv 10) (fun _ _ => rfl)) pa_nil)))) pa_nil)) pa_nil))))))))), ?_⟩
    -- titles
    refine q_callA (ea_cons (ev_var rfl) (ea_cons (ev_var rfl) ea_nil)) fun H0 e0 => ⟨tp, n, rfl, hT.mono e0, hn, fun ts ti H1 hlen nd nm nti e1 t1 ati => ?_⟩
    have ntiH : H ti = none := fresh_back e0 nti
    have htit : ti ≠ tp := tap_ne hT ntiH
    have eH1 : Ex (hide tp H) H1 := (hide_mono e0).trans e1
    -- own = {}
    refine fun ow now => ?_
    have e2 : Ex H1 (upd H1 ow (.dK [])) := Ex.new now
    have at2 : upd H1 ow (.dK []) ow = some (.dK []) := upd_same
    show tSeq _ _ _ _ _
    generalize upd H1 ow (.dK []) = H2 at e2 at2
    have hott : ow ≠ tp := tap_ne t1 now
    have nowH : H ow = none := by
      have := fresh_back eH1 now
      rwa [hide_ne hott] at this
    have hoti : ow ≠ ti := fun z => by rw [z, ati] at now; cases now
    refine q_forR1 (n := (n : Int)) (ea_cons (ev_var rfl) ea_nil) (by omega) (fun i σ' H' => ∃ (es : List (List Str)) (kvs : List (Key × V)) (v5 v6 v7 v8 v9 v10 : Option V), σ' = [some (.ref tp), some (.int (n : Int)), some (.int wild), some (.ref ti), some (.ref ow), v5, v6, v7, v8, v9, v10] ∧ Tap H' tp ∧ Ex (hide tp H) H' ∧
      H' ti = some (.lst (ts.map V.str)) ∧ H' ow = some (.dK kvs) ∧ Kin H' tp (ts.take i) es kvs) ?_ ?_ ?_
    · intro H3 e3
      have e23 := e2.trans e3
      exact ⟨[], [], _, _, _, _, _, _, rfl, t1.mono e23, eH1.trans e23, e23 _ _ ati, e3 _ _ at2, by rw [List.take_zero]; exact EM.Sch.nil, fun j x h => by simp at h, by simp, fun l hl => nomatch hl⟩
    · clear at2 e2 eH1 now ati e1 t1 nti e0 H0 H1 H2
      rintro i σ' H1 hi ⟨es, kvs, v5, v6, v7, v8, v9, v10, rfl, t1, eH1, ati, ato, g⟩
      have hi12 : i < 12 := by omega
      have hin : i < ts.length := by omega
      -- some = []
      refine q_asgL el_nil fun so H2 nso e2 ats => ?_
      have hst : so ≠ tp := tap_ne t1 nso
      have nsoB : hide tp H1 so = none := by rw [hide_ne hst]; exact nso
      have ati2 := e2 _ _ ati
      -- for turn in range(min(k, ..))
      refine q_forD (tp := tp) ((min i 9 : Nat) + 1) (by omega) (t1.mono e2) (dr_min2 (P1 := fun v => v = .int (i : Nat)) (dr_var rfl) (dr_draw 9 (by decide) rfl hide_at (dr_opL (xs := [.int 3, .int 3, .int 9]) (P2 := fun v => ∃ r : Int, v = .int r ∧ 0 ≤ r ∧ r < 3) hide_at (el_lst (ea_cons ev_c (ea_cons ev_c (ea_cons ev_c ea_nil))) (by simp)) (fun B' _ nB' => dr_draw 3 (by decide) rfl nB' (dr_c.imp fun v hv => ⟨3, hv, by decide, by decide⟩)) ?_)) ?_) (fun m σ' H' => ∃ (sm : List Str) (v7 v8 : Option V), σ' = [some (.ref tp), some (.int (n : Int)), some (.int wild), some (.ref ti), some (.ref ow), some (.int (i : Nat)), some (.ref so), v7, v8, v9, v10] ∧ Tap H' tp ∧ Ex (hide tp H1) H' ∧ H' so = some (.lst (sm.map V.str)) ∧ (∀ e ∈ sm, e ∈ ts.take i) ∧ sm.length ≤ m) ?_ ?_ ?_
      · rintro p y B' _ hp ⟨r, rfl, r0, r1⟩
        have : r = 0 ∨ r = 1 ∨ r = 2 := by omega
        rcases this with rfl | rfl | rfl
        · exact ⟨_, ⟨3, rfl, by decide, by decide⟩, ixAt (K := K) (j := 0) hp rfl rfl⟩
        · exact ⟨_, ⟨3, rfl, by decide, by decide⟩, ixAt (K := K) (j := 1) hp rfl rfl⟩
        · exact ⟨_, ⟨9, rfl, by decide, by decide⟩, ixAt (K := K) (j := 2) hp rfl rfl⟩
      · rintro x y rfl ⟨r, rfl, r0, r1⟩
        exact ⟨_, r, rfl, rfl, _, rfl, by split <;> omega, by split <;> omega⟩
      · intro H3 e3 t3
        exact ⟨[], _, _, rfl, t3, (ex_hide (hide_ex.trans e2) hide_at).trans e3, e3 _ _ (hide_get ats hst), (fun e he => nomatch he), Nat.le_refl _⟩
      · rintro m σ' H3 hm ⟨sm, v7', v8', rfl, t3, e3, ats3, hsub, hsl⟩
        have hi1 : 0 < i := by omega
        have hm9 : m < 9 := by omega
        have ati3 := e3 _ _ (hide_get ati htit)
        -- elder
        refine q_asgD (tp := tp) (P := fun v => ∃ x, v = .str x ∧ x ∈ ts.take i) t3 (dr_op (dr_var rfl) (dr_draw (i : Int) (by omega) rfl hide_at (dr_int (n := (i : Int)) _ (by omega) (Int.le_refl _) (ev_var rfl))) ?_) ?_
        · rintro x y rfl ⟨r, rfl, r0, r1⟩
          have hr : r.toNat < ts.length := by omega
          refine ⟨_, ⟨ts[r.toNat], rfl, ?_⟩, ixAt (K := K) (j := r.toNat) (hide_get ati3 htit) (by omega) (by rw [List.getElem?_map, List.getElem?_eq_getElem hr]; rfl)⟩
          exact EM.mem_take_of (List.getElem?_eq_getElem hr) (by omega)
        rintro v H4 e4 t4 ⟨x, rfl, hx⟩
        have e14 : Ex (hide tp H1) H4 := (ex_hide e3 hide_at).trans e4
        have ats4 := e4 _ _ (hide_get ats3 hst)
        refine s_whenD (tp := tp) t4 (drT_or (drT_ev (et_test (ev_op (ev_var rfl) (ev_var rfl) (rv_niL (K := K) (sq_of (hide_get ats4 hst)) rfl (flat_str _))))) (drT_test (dr_op (P := fun v => ∃ b, v = .bl b) (dr_draw 40 (by decide) rfl hide_at (dr_c.imp fun v hv => ⟨40, hv, by decide, by decide⟩)) dr_c ?_))) (fun _ H5 e5 t5 => ?_) (fun _ H5 e5 t5 => ?_)
        · rintro x y ⟨r, rfl, _, _⟩ rfl
          exact ⟨_, ⟨_, rfl⟩, rv_eq rfl⟩
        · refine s_app (K := K) (e5 _ _ (hide_get ats4 hst)) (ev_var rfl) (ev_var rfl) (by rw [List.length_map]; omega) fun H6 e6 => ?_
          refine ⟨sm ++ [x], _, _, rfl, tap_upd (t5.mono e6) hst, Ex.mut (((ex_hide e14 hide_at).trans e5).trans e6) nsoB, ?_, fun e he => ?_, by simp; omega⟩
          · rw [upd_same, List.map_append]
            rfl
          · rcases List.mem_append.mp he with q | q
            · exact hsub e q
            · rw [List.mem_singleton.mp q]
              exact hx
        · exact ⟨sm, _, _, rfl, t5, (ex_hide e14 hide_at).trans e5, e5 _ _ (hide_get ats4 hst), hsub, by omega⟩
      · rintro m σ' H3 hm ⟨sm, v7', v8', rfl, t3, e3, ats3, hsub, hsl⟩
        have ati3 := e3 _ _ (hide_get ati htit)
        -- if next(tap, wild) > 0
        refine q_cut (M := fun σ' H' => ∃ (so : Addr) (sm : List Str), σ' = [some (.ref tp), some (.int (n : Int)), some (.int wild), some (.ref ti), some (.ref ow), some (.int (i : Nat)), some (.ref so), v7', v8', v9, v10] ∧ Tap H' tp ∧ Ex (hide tp H1) H' ∧ so ≠ tp ∧ H' so = some (.lst (sm.map V.str)) ∧ (∀ e ∈ sm, e ∈ ts.take i) ∧ sm.length ≤ 12) (s_whenD (tp := tp) t3 (drT_test (dr_op (P := fun v => ∃ b, v = .bl b) (dr_draw wild (by omega) rfl hide_at (dr_int (n := wild) _ hw0 (Int.le_refl _) (ev_var rfl))) dr_c ?_)) (fun _ H4 e4 t4 => ?_) (fun _ H4 e4 t4 => ?_)) ?_
        · rintro x y ⟨r, rfl, _, _⟩ rfl
          exact ⟨_, ⟨_, rfl⟩, rv_I0⟩
        · have ati4 := e4 _ _ (hide_get ati3 htit)
          have ats4 := e4 _ _ (hide_get ats3 hst)
          have e14 : Ex (hide tp H1) H4 := (ex_hide e3 hide_at).trans e4
          have hcut := el_sl (K := K) (ev_var (σ := [some (V.ref tp), some (.int (n : Int)), some (.int wild), some (.ref ti), some (.ref ow), some (.int (i : Nat)), some (.ref so), v7', v8', v9, v10]) (i := 3) rfl) eo_none (eo_some (i := ((i : Nat) : Int)) (ev_var (i := 5) rfl)) (sq_of ati4)
          rw [cutTake, ← List.map_take] at hcut
          have hl : ((ts.take i).map V.str).length = i := by rw [List.length_map, List.length_take]; omega
          have hlt : (ts.take i).length = i := by rw [List.length_take]; omega
          have hel := el_lcRevN (K := K) (j := 10) (vs := [10]) (t := tTest (tOp (rIn K false) (tVar 10) (tVar 6))) (te := tVar 10) (fun j => decide ((ts.take i).getD (i - 1 - j) Str.empty ∈ sm)) (fun j => V.str ((ts.take i).getD (i - 1 - j) Str.empty)) hcut (by omega) (fun x => rfl) (fun j x H5 e5 hj hx => by
            rw [hl] at hj hx
            rw [List.getElem?_map] at hx
            cases hy : (ts.take i)[i - 1 - j]? with
            | none => rw [hy] at hx; cases hx
            | some y =>
              rw [hy] at hx
              cases hx
              rw [getD_of hy]
              exact et_test (ev_is (ev_op (ev_var rfl) (ev_var rfl) (rv_isL (K := K) (sq_of (e5 _ _ ats4)) rfl (flat_str _))) (by rw [inV_str]))) (fun j x H5 e5 hj hx _ => by
            rw [hl] at hj hx
            rw [List.getElem?_map] at hx
            cases hy : (ts.take i)[i - 1 - j]? with
            | none => rw [hy] at hx; cases hx
            | some y =>
              rw [hy] at hx
              cases hx
              rw [getD_of hy]
              exact ev_var rfl)
          obtain ⟨sm', hsm, hsub'⟩ := strs_of (P := fun x => x ∈ ts.take i) (vs := given ((ts.take i).map V.str).length (fun j => decide ((ts.take i).getD (i - 1 - j) Str.empty ∈ sm)) (fun j => V.str ((ts.take i).getD (i - 1 - j) Str.empty))) fun v hv => by
            obtain ⟨j, hj, hf, rfl⟩ := mem_given hv
            exact ⟨_, rfl, hsub _ (of_decide_eq_true hf)⟩
          have hgl := given_len ((ts.take i).map V.str).length (fun j => decide ((ts.take i).getD (i - 1 - j) Str.empty ∈ sm)) (fun j => V.str ((ts.take i).getD (i - 1 - j) Str.empty))
          rw [hsm] at hel
          rw [hsm, List.length_map, hl] at hgl
          refine s_asgL hel fun p H5 np e5 at5 => ?_
          exact ⟨p, sm', rfl, t4.mono e5, e14.trans e5, tap_ne t4 np, at5, hsub', by omega⟩
        · exact ⟨so, sm, rfl, t4, (ex_hide e3 hide_at).trans e4, hst, e4 _ _ (hide_get ats3 hst), hsub, by omega⟩
        · clear ati3 ats3 hsl hsub e3 t3 ats nsoB hst nso e2 ati2
          rintro _ H3 ⟨so, sm, rfl, t3, e3, hst, ats3, hsub, hsl⟩
          have ati3 := e3 _ _ (hide_get ati htit)
          have ato3 := e3 _ _ (hide_get ato hott)
          have g3 := g.mono e3
          obtain ⟨x, hx⟩ : ∃ x, ts[i]? = some x := ⟨_, List.getElem?_eq_getElem hin⟩
          have hkl := g.klen
          rw [List.length_take] at hkl
          refine s_dputG (d := ow) (k := Sum.inr x) (fun v H4 => v = .ref so ∧ Ex H3 H4) (fun Q' q' => ⟨_, rfl, q' _ _ ⟨rfl, Ex.refl _⟩⟩) ?_
          rintro v H4 ⟨rfl, e4⟩
          refine ⟨kvs, e4 _ _ ato3, by omega, ev_var rfl, ev_op (ev_var rfl) (ev_var rfl) (rv_ixL (K := K) (v := .str x) (sq_of (e4 _ _ ati3)) (atI_nat (by rw [List.getElem?_map, hx]; rfl))), fun H5 e5 => ?_⟩
          have e35 := e4.trans e5
          refine ⟨es ++ [sm], _, _, _, _, _, _, _, rfl, tap_upd (t3.mono e35) hott, Ex.mut (((ex_hide eH1 hide_at).trans e3).trans e35) (by rw [hide_ne hott]; exact nowH), ?_, upd_same, ?_⟩
          · rw [upd_ne (Ne.symm hoti)]
            exact e35 _ _ ati3
          · rw [take_snoc hx]
            refine g3.new (nd_take nd hx) hsub hsl hst ?_ fun q m _ hq => ?_
            · rw [upd_ne (ne_of ats3 ato3 (by intro z; cases z))]
              exact e35 _ _ ats3
            · rw [upd_ne (ne_of hq ato3 (by intro z; cases z))]
              exact e35 _ _ hq
    · clear at2 e2 eH1 now ati e1 t1 nti e0 H0 H1 H2
      rintro σ' H1 ⟨es, kvs, v5, v6, v7, v8, v9, v10, rfl, t1, eH1, ati, ato, g⟩
      rw [Int.toNat_natCast, ← hlen, List.take_length] at g
      -- order = []
      refine q_asgL el_nil fun oa H2 noa e2 ato2 => ?_
      have hoat : oa ≠ tp := tap_ne t1 noa
      have noaB : hide tp H1 oa = none := by rw [hide_ne hoat]; exact noa
      have hoati : oa ≠ ti := fun z => by rw [z, ati] at noa; cases noa
      refine q_forR1 (n := (n : Int)) (ea_cons (ev_var rfl) ea_nil) (by omega) (fun i σ' H' => ∃ (od : List Str) (v5 : Option V), σ' = [some (.ref tp), some (.int (n : Int)), some (.int wild), some (.ref ti), some (.ref ow), v5, v6, v7, v8, some (.ref oa), v10] ∧ Tap H' tp ∧ Ex (hide tp H1) H' ∧ H' oa = some (.lst (od.map V.str)) ∧ od.Perm (ts.take i)) ?_ ?_ ?_
      · intro H3 e3
        exact ⟨[], _, rfl, t1.mono (e2.trans e3), hide_ex.trans (e2.trans e3), e3 _ _ ato2, by rw [List.take_zero]⟩
      · rintro i σ' H3 hi ⟨od, v5', rfl, t3, e3, ato3, hp⟩
        have hin : i < ts.length := by omega
        obtain ⟨x, hx⟩ : ∃ x, ts[i]? = some x := ⟨_, List.getElem?_eq_getElem hin⟩
        have hodl : od.length = i := by rw [hp.length_eq, List.length_take]; omega
        refine ⟨_, rfl, Or.inl ⟨rfl, _, sq_of ato3⟩, ?_⟩
        refine dr_draw (tp := tp) (j := 0) ((i : Int) + 1) (by omega) rfl hide_at (dr_int (n := (i : Int) + 1) _ (by omega) (Int.le_refl _) (ev_op (ev_var rfl) ev_c rv_I0)) H3 hide_ex t3 _ fun v H4 e4 t4 hv => ?_
        obtain ⟨r, rfl, r0, r1⟩ := hv
        have ato4 := e4 _ _ (hide_get ato3 hoat)
        have ati4 := e4 _ _ (hide_get (e3 _ _ (hide_get ati htit)) htit)
        refine ev_op (ev_var rfl) (ev_var rfl) (rv_ixL (K := K) (v := .str x) (sq_of ati4) (atI_nat (by rw [List.getElem?_map, hx]; rfl))) H4 (Ex.refl H4) _ fun H5 e5 => ?_
        refine ⟨oa, _, r, _, rfl, rfl, e5 _ _ ato4, by rw [List.length_map]; exact sz_lt (by omega), r0, by omega, ?_⟩
        refine ⟨od.take r.toNat ++ [x] ++ od.drop r.toNat, _, rfl, tap_upd (t4.mono e5) hoat, Ex.mut (((ex_hide e3 hide_at).trans e4).trans e5) noaB, ?_, ?_⟩
        · rw [upd_same]
          simp
        · rw [take_snoc hx]
          refine List.Perm.trans ?_ (hp.append_right [x])
          have h1 : (od.take r.toNat ++ [x] ++ od.drop r.toNat).Perm (od.take r.toNat ++ od.drop r.toNat ++ [x]) := by
            rw [List.append_assoc, List.append_assoc]
            exact List.Perm.append_left _ List.perm_append_comm
          rwa [List.take_append_drop] at h1
      · rintro σ' H3 ⟨od, v5', rfl, t3, e3, ato3, hp⟩
        rw [Int.toNat_natCast, ← hlen, List.take_length] at hp
        have ati3 := e3 _ _ (hide_get ati htit)
        have atw3 := e3 _ _ (hide_get ato hott)
        have g3 := g.mono e3
        have hodl : od.length ≤ 12 := by rw [hp.length_eq]; omega
        -- return (titles, dict([..]))
        refine ret_raw ⟨_, rfl, ?_⟩
        refine dict_of (K := K) (oa := oa) (d := ow) (od := od) (kvs := kvs) rfl ato3 atw3 (hp.nodup_iff.mpr nd) (by omega) (fun x hx => ?_) (fun x => rfl) (fun x => rfl) (fun x => rfl) fun ed H4 ned e4 at4 => ?_
        · obtain ⟨p, hv, _⟩ := g3.val (hp.mem_iff.mp hx)
          exact ⟨_, hv⟩
        · refine ⟨by simp [sizeLine], fun tu ntu => ?_⟩
          have e5 : Ex H4 (upd H4 tu (.tup [.ref ti, .ref ed])) := Ex.new ntu
          have e35 := e4.trans e5
          have hedt : ed ≠ tp := tap_ne t3 ned
          have nedH : H ed = none := by
            have h1 := fresh_back e3 ned
            rw [hide_ne hedt] at h1
            have h2 := fresh_back eH1 h1
            rwa [hide_ne hedt] at h2
          exact k ts es _ tu ti ed _ hlen nm (g3.turn hp (hide_ex.trans e35)) ntiH nedH upd_same (e35 _ _ ati3) (e5 _ _ at4) (((ex_hide eH1 hide_at).trans e3).trans e35) (t3.mono e35)
end
end K

set_option Elab.async false
set_option linter.all false
set_option maxRecDepth 100000
/-! more statements for the laws' own heads -/
namespace EX
open PySem L2 Evl
theorem clIsi {X : Cx} {K : PySem.W.Frag} (h : X.K = K := by rfl) : CallR X (.builtin "isinstance") (rIsi K) := h ▸ call_isi
end EX
namespace K
open PySem L2 Evl EX
section
variable {K : PySem.W.Frag} {σ : L2.St} {H : Hp} {ta tb tc te td ty tv : TE} {D : Ends} {tu tz : TS} {tp ed : Addr} {Ts : List Str} {ES : List (List Str)} {kvs : List (Key × V)} {x : Str} {l : List Str}
/-- isinstance(x, list) of a list -/
theorem ev_isL {p : Addr} {xs : List V} (h : Ev ta σ H (.ref p)) (hp : H p = some (.lst xs)) (hb : Ev tb σ H (.ty "list")) : Ev (tCB (rIsi K) (tCons ta (tCons tb tNil))) σ H (.bl true) := fun H1 e Q q =>
  h H1 e _ fun H2 e2 => hb H2 (e.trans e2) _ fun H3 e3 => ⟨_, _, _, _, true, rfl, .ty "list", .base (.lst ((e.trans (e2.trans e3)) _ _ hp)), kit_ty (by decide +kernel), q H3 (e2.trans e3)⟩
theorem dput_raw (h : tv σ H fun v H1 => td σ H1 fun x H2 => ty σ H2 fun y H3 => ∃ a H4, x = .ref a ∧ DPut H3 a y v H4 ∧ D.nx σ H4) : sDPut td ty tv D σ H := h
theorem q_dput_raw (h : tv σ H fun v H1 => td σ H1 fun x H2 => ty σ H2 fun y H3 => ∃ a H4, x = .ref a ∧ DPut H3 a y v H4 ∧ tz D σ H4) : tSeq (sDPut td ty tv) tz D σ H := h
theorem asg_raw {g : TG} (h : te σ H fun v H1 => g v σ H1 (tz D)) : tSeq (tAsg te g) tz D σ H := h
/-- for i, x in enumerate(a new list) -/
theorem s_forEN {xs : List V} {tl : TE} {i j : Nat} (h : EvL tl σ H xs) (Pv : Addr → Nat → L2.St → Hp → Prop) (h0 : ∀ a H1, H a = none → Ex H H1 → H1 a = some (.lst xs) → Pv a 0 σ H1) (hl : ∀ a n σ' H', n ≤ xs.length → Pv a n σ' H' → SqL K H' a xs)
    (hs : ∀ (a : Addr) (n : Nat) (x : V) σ' H' T, xs[n]? = some x → Pv a n σ' H' → H' T = none → tu { D with nx := Pv a (n + 1), ct := Pv a (n + 1), bk := D.nx } ((σ'.set i (some (.int (n : Nat)))).set j (some x)) (upd H' T (.tup [.int (n : Nat), x]))) (hd : ∀ a σ' H', Pv a xs.length σ' H' → D.nx σ' H') :
    tFor (iEnum K (tCons tl tNil)) (gTup K 2 (gCons (gName i) (gCons (gName j) gNil))) tu D σ H :=
  h H (Ex.refl H) _ fun a H1 na e at1 => ⟨a, xs, rfl, sq_of at1, fun n m σ' H' => m = xs.length - n ∧ n ≤ xs.length ∧ Pv a n σ' H', ⟨xs.length, rfl, Nat.zero_le _, h0 a H1 na e at1⟩, by
    rintro n m σ' H' ⟨rfl, hn, p⟩
    have hS := hl a n σ' H' hn p
    by_cases hlt : n < xs.length
    · refine .inr ⟨⟨xs, xs[n], hS, List.getElem?_eq_getElem hlt⟩, fun σ2 H2 => Pv a (n + 1) σ2 H2, fun σ2 H2 q => ⟨xs.length - (n + 1), by omega, rfl, by omega, q⟩, ?_⟩
      rintro v H2 ⟨T, x, rfl, nT, rfl, hv⟩
      exact ⟨T, _, rfl, st_of upd_same, rfl, _, _, rfl, _, _, rfl, rfl, hs a n x σ' H' T (hv xs hS) p nT⟩
    · have e : n = xs.length := by omega
      subst e
      exact .inl ⟨⟨xs, hS, Nat.le_refl _⟩, hd a σ' H' p⟩⟩
theorem q_forEN {xs : List V} {tl : TE} {i j : Nat} (h : EvL tl σ H xs) (Pv : Addr → Nat → L2.St → Hp → Prop) (h0 : ∀ a H1, H a = none → Ex H H1 → H1 a = some (.lst xs) → Pv a 0 σ H1) (hl : ∀ a n σ' H', n ≤ xs.length → Pv a n σ' H' → SqL K H' a xs)
    (hs : ∀ (a : Addr) (n : Nat) (x : V) σ' H' T, xs[n]? = some x → Pv a n σ' H' → H' T = none → tu { D with nx := Pv a (n + 1), ct := Pv a (n + 1), bk := tz D } ((σ'.set i (some (.int (n : Nat)))).set j (some x)) (upd H' T (.tup [.int (n : Nat), x]))) (hd : ∀ a σ' H', Pv a xs.length σ' H' → tz D σ' H') :
    tSeq (tFor (iEnum K (tCons tl tNil)) (gTup K 2 (gCons (gName i) (gCons (gName j) gNil))) tu) tz D σ H := s_forEN (D := { D with nx := tz D }) h Pv h0 hl hs hd
/-- list(d) -/
theorem el_keys {d : Addr} {kvs : List (Key × V)} (h : Ev ta σ H (.ref d)) (hd : H d = some (.dK kvs)) : EvL (tCB (fun xs H Q => ∃ (a : Addr) (kvs : List (Key × V)), xs = [.ref a] ∧ Rd H a (.dK kvs) ∧ ∀ p, H p = none → Q (.ref p) (upd H p (.lst (kvs.map fun kv => kV kv.1)))) (tCons ta tNil)) σ H (kvs.map fun kv => kV kv.1) := fun H1 e Q q =>
  h H1 e _ fun H2 e2 => ⟨d, kvs, rfl, .inl ((e.trans e2) _ _ hd), fun p np => q p _ (fresh_back e2 np) (e2.trans (Ex.new np)) upd_same⟩
/-- [[..], [..], [..]][a draw] -/
theorem pick3 {xs ys zs : List V} {Q : VK} (ht : Tap H tp) (ha : EvL ta σ H xs) (hb : EvL tb σ H ys) (hc : EvL tc σ H zs) (hd : ∀ B : Hp, B tp = none → Dr tp te σ B (fun v => ∃ r : Int, v = .int r ∧ 0 ≤ r ∧ r < 3))
    (k : ∀ (p : Addr) (H' : Hp) (l : List V), (l = xs ∨ l = ys ∨ l = zs) → H p = none → H' p = some (.lst l) → Ex (hide tp H) H' → Tap H' tp → Q (.ref p) H') : tOp (rIxL K) (tLst (tCons ta (tCons tb (tCons tc tNil)))) te σ H Q :=
  ha H (Ex.refl H) _ fun p1 H1 n1 e1 at1 => hb H1 e1 _ fun p2 H2 n2 e2 at2 => hc H2 (e1.trans e2) _ fun p3 H3 n3 e3 at3 => ⟨by simp [sizeLine], fun p4 n4 => by
    have e4 : Ex H3 (upd H3 p4 (.lst [.ref p1, .ref p2, .ref p3])) := Ex.new n4
    have at4 : upd H3 p4 (.lst [.ref p1, .ref p2, .ref p3]) p4 = some (.lst [.ref p1, .ref p2, .ref p3]) := upd_same
    generalize upd H3 p4 (.lst [.ref p1, .ref p2, .ref p3]) = H4 at e4 at4
    have e04 := e1.trans (e2.trans (e3.trans e4))
    have n20 : H p2 = none := fresh_back e1 n2
    have n30 : H p3 = none := fresh_back (e1.trans e2) n3
    have n40 : H p4 = none := fresh_back (e1.trans (e2.trans e3)) n4
    refine hd (hide tp H4) hide_at H4 hide_ex (ht.mono e04) _ fun v H5 e5 t5 hv => ?_
    obtain ⟨r, rfl, r0, r1⟩ := hv
    have hB : Ex (hide tp H) H5 := (hide_mono e04).trans e5
    have at45 := e5 _ _ (hide_get at4 (tap_ne ht n40))
    have : r = 0 ∨ r = 1 ∨ r = 2 := by omega
    rcases this with rfl | rfl | rfl
    · exact ⟨p4, _, 0, .ref p1, rfl, rfl, sq_of at45, atI_nat (j := 0) rfl, k p1 H5 xs (.inl rfl) n1 (e5 _ _ (hide_get ((e2.trans (e3.trans e4)) _ _ at1) (tap_ne ht n1))) hB t5⟩
    · exact ⟨p4, _, 1, .ref p2, rfl, rfl, sq_of at45, atI_nat (j := 1) rfl, k p2 H5 ys (.inr (.inl rfl)) n20 (e5 _ _ (hide_get ((e3.trans e4) _ _ at2) (tap_ne ht n20))) hB t5⟩
    · exact ⟨p4, _, 2, .ref p3, rfl, rfl, sq_of at45, atI_nat (j := 2) rfl, k p3 H5 zs (.inr (.inr rfl)) n30 (e5 _ _ (hide_get (e4 _ _ at3) (tap_ne ht n30))) hB t5⟩⟩
end
/-- the keys, as texts -/
def getR : Key → Str
  | .inr y => y
  | .inl _ => Str.empty
theorem Kin.keyL {H : Hp} {tp : Addr} {ts : List Str} {es : List (List Str)} {kvs : List (Key × V)} (g : Kin H tp ts es kvs) : ∃ ks : List Str, kvs.map (·.1) = ks.map Sum.inr ∧ ks.Perm ts := by
  refine ⟨(kvs.map (·.1)).map getR, ?_, ?_⟩
  · rw [List.map_map]
    conv => lhs; rw [← List.map_id (kvs.map (·.1))]
    apply List.map_congr_left
    intro k hk
    obtain ⟨y, _, rfl⟩ := List.mem_map.mp (g.keys.mem_iff.mp hk)
    rfl
  · have := g.keys.map getR
    rw [List.map_map (g := getR) (f := Sum.inr)] at this
    have h2 : ts.map (getR ∘ Sum.inr) = ts := by
      conv => rhs; rw [← List.map_id ts]
      apply List.map_congr_left
      intro y _
      rfl
    rwa [h2] at this
theorem keys_strs {kvs : List (Key × V)} {ks : List Str} (h : kvs.map (·.1) = ks.map Sum.inr) : (kvs.map fun kv => kV kv.1) = ks.map V.str := by
  have := congrArg (List.map kV) h
  rw [List.map_map, List.map_map] at this
  exact this
theorem putK_old {kvs : List (Key × V)} {k : Key} {v v' : V} (h : valV kvs k = some v) : (putK kvs k v').map (·.1) = kvs.map (·.1) := by
  have : (kvs.any fun kv => decide (kv.1 = k)) = true := by rw [valV_any, h]; rfl
  unfold putK
  rw [if_pos this, List.map_map]
  apply List.map_congr_left
  intro kv _
  show (if kv.1 = k then (kv.1, v') else kv).1 = kv.1
  split <;> rfl
/-- an old title's elders changed -/
theorem kin_set {H : Hp} {tp ed p : Addr} {ts : List Str} {es : List (List Str)} {kvs : List (Key × V)} {x : Str} {l : List Str} {j : Nat} (g : Kin H tp ts es kvs) (hd : H ed = some (.dK kvs)) (hx : ts[j]? = some x) (hl : ∀ e ∈ l, e ∈ ts.take j) (hz : l.length ≤ 12) (hp : p ≠ tp) (hat : H p = some (.lst (l.map V.str))) :
    Kin (upd H ed (.dK (putK kvs (Sum.inr x) (.ref p)))) tp ts (es.set j l) (putK kvs (Sum.inr x) (.ref p)) := by
  have hjl : j < es.length := by rw [g.sch.len]; exact (List.getElem?_eq_some_iff.mp hx).1
  obtain ⟨p0, l0, _, _, hv0, _⟩ := g.at_ j x hx
  refine ⟨⟨by rw [List.length_set]; exact g.sch.len, g.sch.nd, fun i m hm => ?_⟩, fun i y hy => ?_, by rw [putK_old hv0]; exact g.keys, fun m hm => ?_⟩
  · by_cases hij : i = j
    · subst hij
      rw [List.getElem?_set_self hjl] at hm
      cases hm
      exact hl
    · rw [List.getElem?_set_ne (fun z => hij z.symm)] at hm
      exact g.sch.ahead i m hm
  · rw [valV_put]
    by_cases hij : i = j
    · subst hij
      rw [hx] at hy
      cases hy
      refine ⟨p, l, List.getElem?_set_self hjl, hp, by rw [if_pos rfl], ?_⟩
      rw [upd_ne (ne_of hat hd (by intro z; cases z))]
      exact hat
    · obtain ⟨q, m, a, b, c, d⟩ := g.at_ i y hy
      have hyx : ¬ y = x := fun z => hij (nd_ix g.sch.nd hy (by rw [z]; exact hx))
      refine ⟨q, m, by rw [List.getElem?_set_ne (fun z => hij z.symm)]; exact a, b, by rw [if_neg (fun z => hyx (Sum.inr.inj z))]; exact c, ?_⟩
      rw [upd_ne (ne_of d hd (by intro z; cases z))]
      exact d
  · rcases List.mem_or_eq_of_mem_set hm with q | q
    · exact g.ez m q
    · rw [q]
      exact hz
section
variable {K : PySem.W.Frag} {σ : L2.St} {H : Hp} {ta tb te td ty tv : TE} {D : Ends} {tz : TS} {tp ed : Addr} {Ts : List Str} {ES : List (List Str)} {kvs : List (Key × V)} {x : Str} {l : List Str}
theorem kin_put {p : Addr} (g : Kin H tp Ts ES kvs) (hd : H ed = some (.dK kvs)) (hx : x ∉ Ts) (hl : ∀ e ∈ l, e ∈ Ts) (hz : l.length ≤ 12) (hp : p ≠ tp) (hat : H p = some (.lst (l.map V.str))) : Kin (upd H ed (.dK (putK kvs (Sum.inr x) (.ref p)))) tp (Ts ++ [x]) (ES ++ [l]) (putK kvs (Sum.inr x) (.ref p)) :=
  g.new hx hl hz hp (by rw [upd_ne (ne_of hat hd (by intro z; cases z))]; exact hat) fun q m _ hq => by rw [upd_ne (ne_of hq hd (by intro z; cases z))]; exact hq
/-- d[x] = [..], x new -/
theorem s_putNew (g : Kin H tp Ts ES kvs) (hd : H ed = some (.dK kvs)) (hx : x ∉ Ts) (hl : ∀ e ∈ l, e ∈ Ts) (hz : l.length ≤ 12) (hT : Ts.length ≤ 100) (t : Tap H tp) (hed : ed ≠ tp) (hv : EvL tv σ H (l.map V.str)) (ha : Ev td σ H (.ref ed)) (hk : Ev ty σ H (.str x))
    (k : ∀ H' kvs', Kin H' tp (Ts ++ [x]) (ES ++ [l]) kvs' → H' ed = some (.dK kvs') → Tap H' tp → Ex (hide ed H) H' → D.nx σ H') : sDPut td ty tv D σ H :=
  hv H (Ex.refl H) _ fun p H1 np e1 at1 => ha H1 e1 _ fun H2 e2 => hk H2 (e1.trans e2) _ fun H3 e3 => by
    have e03 := e1.trans (e2.trans e3)
    have hkl := g.klen
    exact ⟨ed, _, rfl, DPut.k (k := Sum.inr x) (e03 _ _ hd) (sz_lt (by omega)), k _ _ (kin_put (g.mono1 e03) (e03 _ _ hd) hx hl hz (tap_ne t np) ((e2.trans e3) _ _ at1)) upd_same (tap_upd (t.mono e03) hed) (Ex.mut (hide_ex.trans e03) hide_at)⟩
theorem q_putNew (g : Kin H tp Ts ES kvs) (hd : H ed = some (.dK kvs)) (hx : x ∉ Ts) (hl : ∀ e ∈ l, e ∈ Ts) (hz : l.length ≤ 12) (hT : Ts.length ≤ 100) (t : Tap H tp) (hed : ed ≠ tp) (hv : EvL tv σ H (l.map V.str)) (ha : Ev td σ H (.ref ed)) (hk : Ev ty σ H (.str x))
    (k : ∀ H' kvs', Kin H' tp (Ts ++ [x]) (ES ++ [l]) kvs' → H' ed = some (.dK kvs') → Tap H' tp → Ex (hide ed H) H' → tz D σ H') : tSeq (sDPut td ty tv) tz D σ H := s_putNew (D := { D with nx := tz D }) g hd hx hl hz hT t hed hv ha hk k
theorem el_rep {xs : List V} {n : Nat} (ha : EvL ta σ H xs) (hb : Ev tb σ H (.int (n : Nat))) (hz : xs.length * n ≤ 100000) (hn : n ≤ 1000) : EvL (tOp rRep ta tb) σ H (List.replicate n xs).flatten := fun H1 e Q q =>
  ha H1 e _ fun p H2 np e2 at2 => hb H2 (e.trans e2) _ fun H3 e3 => ⟨p, _, xs, rfl, rfl, e3 _ _ at2, by omega, by omega, by rw [Int.toNat_natCast]; exact sz_of hz, fun p' np' => by
    rw [Int.toNat_natCast]
    exact q p' _ (fresh_back (e2.trans e3) np') ((e2.trans e3).trans (Ex.new np')) upd_same⟩
end
theorem cut_cells (ns : List Int) : cutV (ns.map V.int) none (some ((6 : Nat) : Int)) = (ns.take 6).map V.int := by
  rw [cutTake, List.map_take]
/-- what order_of asks of the dict -/
theorem Kin.eld {K : PySem.W.Frag} {H : Hp} {tp : Addr} {ts : List Str} {es : List (List Str)} {kvs : List (Key × V)} (g : Kin H tp ts es kvs) : Eld K H kvs (EM.EF ts es) ts :=
  ⟨fun x hx => let ⟨p, a, _, b⟩ := g.val hx; ⟨p, a, b⟩, fun x _ => EM.EF_sub g.sch x⟩
theorem Kin.efz {H : Hp} {tp : Addr} {ts : List Str} {es : List (List Str)} {kvs : List (Key × V)} (g : Kin H tp ts es kvs) (x : Str) : (EM.EF ts es x).length ≤ 50 := by
  unfold EM.EF
  rw [List.getD_eq_getElem?_getD]
  cases hq : es[EM.rk ts x]? with
  | none => simp
  | some l =>
    have := g.ez l (List.mem_of_getElem? hq)
    simp
    omega
/-- found = order_of(d, t) -/
theorem of_order {K : PySem.W.Frag} {H : Hp} {tp md : Addr} {ts : List Str} {es : List (List Str)} {kvs : List (Key × V)} {t : Str} {Q : VK} {E : XK} (g : Kin H tp ts es kvs) (hd : H md = some (.dK kvs)) (ht : t ∈ ts) (hz : ts.length ≤ 100) (hok : Oks ts) (k : RetO (EM.OO ts es t) H Q) : spOrderOf K [.ref md, .str t] H Q E :=
  ⟨md, t, kvs, EM.EF ts es, ts, EM.rk ts, rfl, .inl hd, g.eld, ht, hz, hok, g.efz, EM.EF_rank g.sch, Nat.le_trans (EM.rk_le ts t) hz, k⟩
/-- none, or a list that is new since H -/
def NewO (H H' : Hp) (v : V) (r : Option (List Str)) : Prop := match r with
  | none => v = .non
  | some l => ∃ p, v = .ref p ∧ H p = none ∧ H' p = some (.lst (l.map V.str))
theorem NewO.mono {H H' H2 : Hp} {v : V} {r : Option (List Str)} (h : NewO H H' v r) (e : Ex H' H2) : NewO H H2 v r := by
  cases r with
  | none => exact h
  | some l =>
    obtain ⟨p, a, b, c⟩ := h
    exact ⟨p, a, b, e _ _ c⟩
theorem NewO.back {H H0 H' : Hp} {v : V} {r : Option (List Str)} (h : NewO H H' v r) (e : Ex H0 H) : NewO H0 H' v r := by
  cases r with
  | none => exact h
  | some l =>
    obtain ⟨p, a, b, c⟩ := h
    exact ⟨p, a, fresh_back e b, c⟩
/-- dict([(x, f(x)) for x in order]), f(x) none or a new list -/
theorem dict_call {K : PySem.W.Frag} {σ : L2.St} {H : Hp} {io it : Nat} {oa : Addr} {od : List Str} {O : Str → Option (List Str)} {tv : TE} {Q : VK} (ho : σ[io]? = some (some (.ref oa))) (hoa : H oa = some (.lst (od.map V.str))) (nd : od.Nodup) (hz : od.length ≤ 1000)
    (hw : ∀ x, wipe ((wipe σ [it]).set it (some x)) [it] = wipe σ [it]) (hit : ∀ x, ((wipe σ [it]).set it (some x))[it]? = some (some x))
    (hv : ∀ x ∈ od, ∀ H1, Ex H H1 → ∀ Q' : VK, (∀ v H2, Ex H1 H2 → NewO H1 H2 v (O x) → Q' v H2) → tv ((wipe σ [it]).set it (some (.str x))) H1 Q')
    (k : ∀ p H' kvs, H p = none → Ex H H' → H' p = some (.dK kvs) → kvs.map (·.1) = od.map Sum.inr → (∀ x ∈ od, ∃ v, valV kvs (Sum.inr x) = some v ∧ NewO H H' v (O x)) → Q (.ref p) H') :
    tCB (rDictP K) (tCons (tLc (iList K (tVar io)) (gName it) tYes (tTup (tCons (tVar it) (tCons tv tNil))) [it]) tNil) σ H Q := by
  refine ⟨_, ho, oa, rfl, ⟨_, sq_of hoa⟩, fun Dl nD => ?_⟩
  refine lc_list (K := K) (a := oa) (xs := od.map V.str) (fun i H' => ∃ as : List (Addr × V), as.length = i ∧ Ex H H' ∧ H' Dl = some (.lst (as.map fun a => V.ref a.1)) ∧ ∀ (n : Nat) Tt v, as[n]? = some (Tt, v) → ∃ x, od[n]? = some x ∧ Tt ≠ Dl ∧ H' Tt = some (.tup [.str x, v]) ∧ NewO H (hide Dl H') v (O x)) ?_ ?_ ?_ ?_
  · exact ⟨[], rfl, Ex.new nD, upd_same, fun n Tt v h => by simp at h⟩
  · rintro i H' _ ⟨as, _, e, _⟩
    exact sq_of (e _ _ hoa)
  · rintro i x H4 hi ⟨as, hal, e4, atD, hat⟩
    rw [List.getElem?_map] at hi
    cases hx : od[i]? with
    | none => rw [hx] at hi; cases hi
    | some y =>
      rw [hx] at hi
      cases hi
      have hi' : i < od.length := (List.getElem?_eq_some_iff.mp hx).1
      refine ⟨hw _, yes_raw ?_⟩
      refine ⟨_, hit _, hv y (List.mem_of_getElem? hx) H4 e4 _ fun v H5 e5 hN => ?_⟩
      refine ⟨by simp [sizeLine], fun Tt nT => ?_⟩
      have e7 : Ex H5 (upd H5 Tt (.tup [.str y, v])) := Ex.new nT
      have at7 : upd H5 Tt (.tup [.str y, v]) Tt = some (.tup [.str y, v]) := upd_same
      generalize upd H5 Tt (.tup [.str y, v]) = H7 at e7 at7
      have hTD : Tt ≠ Dl := fun z => by rw [z, e5 _ _ atD] at nT; cases nT
      refine ⟨as.map fun a => V.ref a.1, (e5.trans e7) _ _ atD, by rw [List.length_map]; exact sz_lt (by omega), as ++ [(Tt, v)], by simp [hal], Ex.mut (e4.trans (e5.trans e7)) nD, ?_, ?_⟩
      · rw [upd_same, List.map_append]
        rfl
      · intro n T' v' hn
        by_cases hlt : n < as.length
        · rw [List.getElem?_append_left hlt] at hn
          obtain ⟨y', h1, h2, h3, h4⟩ := hat n T' v' hn
          exact ⟨y', h1, h2, by rw [upd_ne h2]; exact (e5.trans e7) _ _ h3, by rw [hide_upd]; exact h4.mono (hide_mono (e5.trans e7))⟩
        · have hni : n = as.length := by
            have := (List.getElem?_eq_some_iff.mp hn).1
            simp at this
            omega
          subst hni
          rw [List.getElem?_append_right (Nat.le_refl _), Nat.sub_self] at hn
          cases hn
          refine ⟨y, by rw [hal]; exact hx, hTD, by rw [upd_ne hTD]; exact at7, ?_⟩
          rw [hide_upd]
          cases hO : O y with
          | none =>
            rw [hO] at hN
            exact hN
          | some l =>
            rw [hO] at hN
            obtain ⟨p, hp, np, hpl⟩ := hN
            exact ⟨p, hp, fresh_back e4 np, hide_get (e7 _ _ hpl) fun z => by rw [z, atD] at np; cases np⟩
  · rintro H4 ⟨as, hal, e4, atD, hat⟩
    rw [List.length_map] at hal
    have hkeys : ((od.zip as).map fun x => ((Sum.inr x.1 : Key), x.2.2)).map (·.1) = od.map Sum.inr := by
      have h1 : (od.zip as).map (·.1) = od := List.map_fst_zip (by omega)
      conv => rhs; rw [← h1]
      rw [List.map_map, List.map_map]
      rfl
    have hknd : (((od.zip as).map fun x => ((Sum.inr x.1 : Key), x.2.2)).map (·.1)).Nodup := by
      rw [hkeys]
      exact EX.nodup_map_on (fun a _ b _ h => Sum.inr.inj h) nd
    have hkv : ∀ (n : Nat) y a, od[n]? = some y → as[n]? = some a → ((od.zip as).map fun x => ((Sum.inr x.1 : Key), x.2.2))[n]? = some (Sum.inr y, a.2) := fun n y a h1 h2 => by
      rw [List.getElem?_map, List.getElem?_zip_eq_some (z := (y, a)) |>.mpr ⟨h1, h2⟩]
      rfl
    have hkl : ((od.zip as).map fun x => ((Sum.inr x.1 : Key), x.2.2)).length = od.length := by rw [List.length_map, List.length_zip]; omega
    generalize (od.zip as).map (fun x => ((Sum.inr x.1 : Key), x.2.2)) = kvs at hkeys hknd hkv hkl
    refine ⟨Dl, as.map (·.1), kvs, rfl, sq_of (by rw [List.map_map]; exact atD), paired_of (by rw [List.length_map, hkl, hal]) fun n p kv h1 h2 => ?_, fun ed ned => ?_⟩
    · rw [List.getElem?_map] at h1
      cases ha : as[n]? with
      | none => rw [ha] at h1; cases h1
      | some a =>
        rw [ha] at h1
        cases h1
        obtain ⟨x, h3, _, h4, _⟩ := hat n a.1 a.2 ha
        rw [hkv n x a h3 ha] at h2
        cases h2
        exact st_of h4
    · rw [mergeK_new _ [] (by simpa using hknd), List.nil_append]
      refine k ed _ kvs (fresh_back e4 ned) (e4.trans (Ex.new ned)) upd_same hkeys fun x hx => ?_
      obtain ⟨n, hn, e⟩ := List.getElem_of_mem hx
      have hnx : od[n]? = some x := by rw [List.getElem?_eq_getElem hn, e]
      have hna : as[n]? = some as[n] := List.getElem?_eq_getElem (by omega)
      obtain ⟨y, h3, _, _, h5⟩ := hat n as[n].1 as[n].2 hna
      rw [hnx] at h3
      cases h3
      exact ⟨_, valV_at hknd (hkv n x _ hnx hna), h5.mono (hide_ex.trans (Ex.new ned))⟩
theorem s_forNLn {K : PySem.W.Frag} {σ : L2.St} {H : Hp} {tu : TS} {D : Ends} {xs : List V} {tl : TE} {j : Nat} (h : EvL tl σ H xs) (Pv : Addr → Nat → L2.St → Hp → Prop) (h0 : ∀ p H1, H p = none → Ex H H1 → H1 p = some (.lst xs) → Pv p 0 σ H1) (hl : ∀ p i σ' H', i ≤ xs.length → Pv p i σ' H' → SqL K H' p xs)
    (hs : ∀ p i x σ' H', xs[i]? = some x → Pv p i σ' H' → tu { D with nx := Pv p (i + 1), ct := Pv p (i + 1), bk := D.nx } (σ'.set j (some x)) H') (hd : ∀ p σ' H', Pv p xs.length σ' H' → D.nx σ' H') : tFor (iList K tl) (gName j) tu D σ H :=
  q_forNLn (tz := tNext) (D := D) h Pv h0 hl hs hd
end K

set_option Elab.async false
set_option linter.all false
set_option maxRecDepth 100000
namespace K
open PySem L2 Evl EX
/-- what is left of each row -/
def drp (rs : List VR) (ats : List Nat) : List (List Str) := List.zipWith (fun r n => r.2.drop n) rs ats
theorem drp_len {rs : List VR} {ats : List Nat} (h : ats.length = rs.length) : (drp rs ats).length = rs.length := by
  unfold drp
  rw [List.length_zipWith]
  omega
theorem drp_at {rs : List VR} {ats : List Nat} {k : Nat} {r : VR} {n : Nat} (hr : rs[k]? = some r) (hn : ats[k]? = some n) : (drp rs ats)[k]? = some (r.2.drop n) := by
  unfold drp
  rw [List.getElem?_zipWith, hr, hn]
/-- rows and places at k -/
theorem both {rs : List VR} {ats : List Nat} (h : ats.length = rs.length) {k : Nat} (hk : k < rs.length) : ∃ r n, rs[k]? = some r ∧ ats[k]? = some n := ⟨_, _, List.getElem?_eq_getElem hk, List.getElem?_eq_getElem (by omega)⟩
section
variable {K : PySem.W.Frag} {σ : L2.St} {H : Hp} {ta tb te tk : TE} {ra aa : Addr} {rs : List VR} {ats : List Nat} {k : Nat} {r : VR} {n : Nat}
/-- rows[k] -/
theorem ev_row (hra : SqL K H ra (rs.map (·.1))) (hR : RowsP K H rs) (h1 : Ev ta σ H (.ref ra)) (h2 : Ev tk σ H (.int (k : Nat))) (hr : rs[k]? = some r) : ∃ p, r.1 = .ref p ∧ SqL K H p (r.2.map V.str) ∧ Ev (tOp (rIxL K) ta tk) σ H (.ref p) := by
  obtain ⟨p, a, b⟩ := hR r (List.mem_of_getElem? hr)
  exact ⟨p, a, b, ev_op h1 h2 (rv_ixL hra (atI_nat (by rw [List.getElem?_map, hr, ← a]; rfl)))⟩
theorem ev_at (haa : SqL K H aa (ats.map fun n => V.int (n : Nat))) (h1 : Ev ta σ H (.ref aa)) (h2 : Ev tk σ H (.int (k : Nat))) (hn : ats[k]? = some n) : Ev (tOp (rIxL K) ta tk) σ H (.int (n : Nat)) :=
  ev_op h1 h2 (rv_ixL haa (atI_nat (by rw [List.getElem?_map, hn]; rfl)))
end
section
variable {P : Program} {w : World} {K : PySem.W.Frag} {mg : Str → Option Value} {base : Heap}
def spHead (K : PySem.W.Frag) : Sp := fun vs H Q _ => ∃ (ra aa : Addr) (rs : List VR) (ats : List Nat), vs = [.ref ra, .ref aa] ∧ SqL K H ra (rs.map (·.1)) ∧ RowsP K H rs ∧ SqL K H aa (ats.map fun n => V.int (n : Nat)) ∧ ats.length = rs.length ∧ rs.length ≤ 1000 ∧ RetV (optS (EM.nextT (drp rs ats))) H Q
theorem ok_head {f : Addr} {fd : FuncData} (F : Fun K "_law_head" "_law_head" s__law_head f fd) (T : Txt mg) : FnOk P w K mg base CX0 1 f fd ["_law_rows", "_law_at"] (spHead K) := by
  refine F.ok sc__law_head (fun vs H Q E h => ?_) (fun cdv A outer s H vs Q E hr h => ?_)
  · obtain ⟨ra, aa, rs, ats, rfl, _⟩ := h
    rfl
  · obtain ⟨ra, aa, rs, ats, rfl, hra, hR, haa, hl, hz, k⟩ := h
    have hu := hu_of hr
    refine ⟨_, pss_cons (ps_for PassesOwn.never rfl (pi_range1 (by rfl) T.range (pa_cons (pe_callB (clLen (K := K)) (by rfl) T.len (by decide +kernel) (pa_cons (pv 0) pa_nil)) pa_nil)) (pg_name (i := 2) sc__law_head.nd rfl (Or.inl rfl))
        (pss_one (ps_if (pt_cmpR op_lt (pe_ix (ixL (K := K)) (pv 1) (pv 2) (fun _ _ => rfl)) (pe_callB (clLen (K := K)) (by rfl) T.len (by decide +kernel) (pa_cons (pe_ix (ixL (K := K)) (pv 0) (pv 2) (fun _ _ => rfl)) pa_nil)) (nomark _))
          (pss_cons (ps_set (i := 3) sc__law_head.nd rfl (Or.inr rfl) (pe_ix (ixL (K := K)) (pe_ix (ixL (K := K)) (pv 0) (pv 2) (fun _ _ => rfl)) (pe_ix (ixL (K := K)) (pv 1) (pv 2) (fun _ _ => rfl)) (fun _ _ => rfl)))
          (pss_one (ps_if (pt_not (pt_val (pe_callB (crAny (K := K)) (by rfl) T.any (by decide +kernel) (pa_cons (pe_lc (own := [("_law_j", 4)]) (g := gName 4) (tt := tYes) rfl sc__law_head.nd (pi_range1 (by rfl) T.range (pa_cons (pe_callB (clLen (K := K)) (by rfl) T.len (by decide +kernel) (pa_cons (pv 0) pa_nil)) pa_nil)) (blkOk_by (N := N__law_head) (sc := defScope s__law_head) (by decide +kernel)) (fun _ _ _ _ _ => pg_name (i := 4) sc__law_head.nd rfl (Or.inl rfl)) (fun _ _ _ _ _ => pts_nil) (fun _ _ _ _ _ => pe_cmpR (opIn (K := K)) (pv 3) (pe_slice (slL (K := K)) (pe_ix (ixL (K := K)) (pv 0) (pv 4) (fun _ _ => rfl)) (po_some (pe_op op_add (pe_ix (ixL (K := K)) (pv 1) (pv 4) (fun _ _ => rfl)) (pe_int))) po_none) (by rfl))) pa_nil))))
            (pss_one (ps_ret (pv 3)))
            (pss_nil))))
          (pss_nil))))
      (pss_one (ps_ret (pe_non))), ?_⟩
    refine q_forR1 (n := ((rs.length : Nat) : Int)) (ea_cons (ev_is (ev_len (K := K) (ev_var rfl) hra) (by rw [List.length_map])) ea_nil) (by omega) (fun i σ' H' => ∃ v2 v3 v4, σ' = [some (.ref ra), some (.ref aa), v2, v3, v4] ∧ Ex H H' ∧ ∀ l ∈ (drp rs ats).take i, ∀ t, l.head? = some t → EM.free (drp rs ats) t = false) ?_ ?_ ?_
    · intro H1 e1
      exact ⟨_, _, _, rfl, e1, fun l hl => by simp at hl⟩
    · rintro i σ' H1 hi ⟨v2, v3, v4, rfl, e1, hp⟩
      have hi' : i < rs.length := by omega
      obtain ⟨r, n, hri, hni⟩ := both hl hi'
      have hdi := drp_at hri hni
      obtain ⟨p, hp1, hp2, hp3⟩ := ev_row (K := K) (σ := [some (V.ref ra), some (.ref aa), some (.int (i : Nat)), v3, v4]) (H := H1) (ta := tVar 0) (tk := tVar 2) (ex_l e1 hra) (hR.mono e1) (ev_var rfl) (ev_var rfl) hri
      refine s_when (b := decide (n < r.2.length)) (et_test (ev_is (ev_op (ev_at (K := K) (ex_l e1 haa) (ev_var rfl) (ev_var rfl) hni) (ev_len (K := K) hp3 hp2) rv_I0) (by rw [List.length_map]; congr 1; simp))) (fun hb H2 e2 => ?_) (fun hb H2 e2 => ?_)
      · have hn : n < r.2.length := of_decide_eq_true hb
        have e02 := e1.trans e2
        obtain ⟨t, ht⟩ : ∃ t, r.2[n]? = some t := ⟨_, List.getElem?_eq_getElem hn⟩
        have hhd : (r.2.drop n).head? = some t := by rw [List.head?_drop]; exact ht
        obtain ⟨p', hp1', hp2', hp3'⟩ := ev_row (K := K) (σ := [some (V.ref ra), some (.ref aa), some (.int (i : Nat)), v3, v4]) (H := H2) (ta := tVar 0) (tk := tVar 2) (ex_l e02 hra) (hR.mono e02) (ev_var rfl) (ev_var rfl) hri
        refine q_asg (v := .str t) (ev_op hp3' (ev_at (K := K) (ex_l e02 haa) (ev_var rfl) (ev_var rfl) hni) (rv_ixL (K := K) hp2' (atI_nat (by rw [List.getElem?_map, ht]; rfl)))) fun H3 e3 => ?_
        have e03 := e02.trans e3
        refine s_when (b := EM.free (drp rs ats) t) (et_is (et_not (et_B (ev_any (bs := (drp rs ats).map fun o => decide (t ∈ o.tail)) ?_))) ?_) (fun hf H4 e4 => ?_) (fun hf H4 e4 => ?_)
        · have hg : ((drp rs ats).map fun o => decide (t ∈ o.tail)).map V.bl = given (((rs.length : Nat) : Int)).toNat (fun _ => true) (fun j => V.bl (decide (t ∈ ((drp rs ats).getD j []).tail))) := by
            rw [Int.toNat_natCast, ← drp_len hl, given_map (drp rs ats) [] (fun o => V.bl (decide (t ∈ o.tail))), List.map_map]
            rfl
          rw [hg]
          refine el_lcR1 (fun _ => true) _ (ea_cons (ev_is (ev_len (K := K) (ev_var rfl) (ex_l e03 hra)) (by rw [List.length_map])) ea_nil) (by omega) (fun x => rfl) (fun j H5 e5 hj => ?_) (fun j H5 e5 hj _ => ?_)
          · exact fun H6 _ Q q => q H6 (Ex.refl H6)
          · have hj' : j < rs.length := by omega
            obtain ⟨rj, nj, hrj, hnj⟩ := both hl hj'
            have e05 := e03.trans e5
            obtain ⟨q, _, hq2, hq3⟩ := ev_row (K := K) (σ := [some (V.ref ra), some (.ref aa), some (.int (i : Nat)), some (.str t), some (.int (j : Nat))]) (H := H5) (ta := tVar 0) (tk := tVar 4) (ex_l e05 hra) (hR.mono e05) (ev_var rfl) (ev_var rfl) hrj
            have hcut := el_sl (K := K) hq3 (eo_some (i := ((nj + 1 : Nat) : Int)) (te := tOp (rI0 fun i j => V.int (i + j)) (tOp (rIxL K) (tVar 1) (tVar 4)) (tC (V.int 1))) (ev_is (ev_op (ev_at (K := K) (ex_l e05 haa) (ev_var rfl) (ev_var rfl) hnj) ev_c rv_I0) (by congr 1))) eo_none hq2
            rw [cutDrop, ← List.map_drop] at hcut
            rw [getD_of (drp_at hrj hnj), List.tail_drop, ← inV_str]
            exact ev_opL (ev_var rfl) hcut fun q' H6 hq' e6 => rv_isL (K := K) (sq_of hq') rfl (flat_str _)
        · unfold EM.free
          rw [List.any_map]
          rfl
        · refine s_ret (ev_var rfl) fun H5 e5 => ?_
          have := EM.nextT_at hdi hhd hf hp
          rw [this] at k
          exact k _ (e03.trans (e4.trans e5))
        · refine ⟨_, _, _, rfl, e03.trans e4, fun l hl' t' ht' => ?_⟩
          rw [List.take_add_one, hdi] at hl'
          rcases List.mem_append.mp hl' with q | q
          · exact hp l q t' ht'
          · simp at q
            subst q
            rw [hhd] at ht'
            cases ht'
            exact hf
      · have hn : ¬ n < r.2.length := of_decide_eq_false hb
        refine ⟨_, _, _, rfl, e1.trans e2, fun l hl' t' ht' => ?_⟩
        rw [List.take_add_one, hdi] at hl'
        rcases List.mem_append.mp hl' with q | q
        · exact hp l q t' ht'
        · simp at q
          subst q
          rw [List.drop_of_length_le (by omega)] at ht'
          cases ht'
    · rintro σ' H1 ⟨v2, v3, v4, rfl, e1, hp⟩
      rw [Int.toNat_natCast, ← drp_len hl, List.take_length] at hp
      rw [EM.nextT_no hp] at k
      exact s_ret ev_c fun H2 e2 => k _ (e1.trans e2)
end
end K

set_option Elab.async false
set_option linter.all false
set_option maxRecDepth 100000
namespace K
open PySem L2 Evl EX
def dI (l : List Int) : PyData := .list (l.map .int)
theorem shaped_dI (l : List Int) : SeqAt.shaped (dI l) = true := by
  have h : PyData.canLayAll0 (l.map .int) = true ∧ PyData.depthAll (l.map .int) = 0 := by
    induction l with
    | nil => exact ⟨rfl, by simp [PyData.depthAll]⟩
    | cons a l ih => exact ⟨ih.1, by simp [PyData.depthAll, PyData.depth, ih.2]⟩
  unfold SeqAt.shaped dI
  show (PyData.canLayAll0 (l.map .int) && decide (PyData.depth (.list (l.map .int)) ≤ 64)) = true
  rw [h.1]
  simp [PyData.depth, h.2]
theorem dp_I {K : PySem.W.Frag} {H : Hp} {p : Addr} {l : List Int} (h : SqL K H p (l.map V.int)) : Dp K H (.ref p) (dI l) := by
  refine .lst h ?_
  clear h
  induction l with
  | nil => exact .nil
  | cons a l ih => exact .cons (.int a) ih
theorem flat_rep (n : Nat) : (List.replicate n [V.int 0]).flatten = (List.replicate n 0).map fun n => V.int ((n : Nat) : Int) := by
  induction n with
  | zero => rfl
  | succ n ih =>
    rw [List.replicate_succ, List.flatten_cons, ih, List.replicate_succ, List.map_cons]
    rfl
theorem drp_zero (rs : List VR) : drp rs (List.replicate rs.length 0) = rs.map (·.2) := by
  induction rs with
  | nil => rfl
  | cons r rs ih =>
    unfold drp at ih ⊢
    rw [List.length_cons, List.replicate_succ, List.zipWith_cons_cons, ih]
    rfl
theorem live_iff {rs : List VR} {ats : List Nat} (h : ats.length = rs.length) : (∃ k n r, k < rs.length ∧ ats[k]? = some n ∧ rs[k]? = some r ∧ n < r.2.length) ↔ EM.live (drp rs ats) ≠ [] := by
  constructor
  · rintro ⟨k, n, r, _, hn, hr, hlt⟩ hv
    unfold EM.live at hv
    rw [List.filter_eq_nil_iff] at hv
    have := hv _ (List.mem_of_getElem? (drp_at hr hn))
    rw [Bool.not_eq_true, Bool.not_eq_false'] at this
    have := List.isEmpty_iff.mp this
    rw [List.drop_eq_nil_iff] at this
    omega
  · intro hv
    obtain ⟨l, hl⟩ := List.exists_mem_of_ne_nil _ hv
    obtain ⟨h1, h2⟩ := List.mem_filter.mp hl
    obtain ⟨k, hk, e⟩ := List.getElem_of_mem h1
    rw [drp_len h] at hk
    obtain ⟨r, n, hr, hn⟩ := both h hk
    refine ⟨k, n, r, hk, hn, hr, ?_⟩
    have := drp_at hr hn
    rw [List.getElem?_eq_getElem (by rw [drp_len h]; exact hk), e] at this
    cases this
    by_cases hlt : n < r.2.length
    · exact hlt
    · rw [List.drop_of_length_le (by omega)] at h2
      cases h2
theorem take1' (l : List Str) (t : Str) : decide (l.take 1 = [t]) = decide (l.head? = some t) := by
  cases l <;> simp
section
variable {P : Program} {w : World} {K : PySem.W.Frag} {mg : Str → Option Value} {base : Heap}
def spLaid (K : PySem.W.Frag) : Sp := fun vs H Q _ => ∃ (t : Str) (ra : Addr) (rs : List VR), vs = [.str t, .ref ra] ∧ SqL K H ra (rs.map (·.1)) ∧ RowsP K H rs ∧ (∀ r ∈ rs, Oks r.2) ∧ rs.length ≤ 1000 ∧ EM.tot (rs.map (·.2)) ≤ 10000 ∧ RetO ((EM.merge (rs.map (·.2))).map (t :: ·)) H Q
theorem ok_laid {f : Addr} {fd : FuncData} (F : Fun K "_law_laid" "_law_laid" s__law_laid f fd) (T : Txt mg) (G__law_head : Def P w K mg base 1 "_law_head" ["_law_rows", "_law_at"] (spHead K)) : FnOk P w K mg base CX0 2 f fd ["_law_title", "_law_rows"] (spLaid K) := by
  refine F.ok sc__law_laid (fun vs H Q E h => ?_) (fun cdv A outer s H vs Q E hr h => ?_)
  · obtain ⟨t, ra, rs, rfl, _⟩ := h
    rfl
  · obtain ⟨t, ra, rs, rfl, hra, hR, hOk, hz, htot, k⟩ := h
    have hu := hu_of hr
    refine ⟨_, pss_cons (ps_set (i := 2) sc__law_laid.nd rfl (Or.inr rfl) (pe_op op_rep (pe_lst (pa_cons (pe_int) pa_nil)) (pe_callB (clLen (K := K)) (by rfl) T.len (by decide +kernel) (pa_cons (pv 1) pa_nil))))
      (pss_cons (ps_set (i := 3) sc__law_laid.nd rfl (Or.inl rfl) (pe_lst (pa_cons (pv 0) pa_nil)))
      (pss_cons (ps_while PassesOwn.never (pt_cmpR (opNeD (K := K) hr.units) (pe_lc (own := [("_law_k", 5)]) (g := gName 5) rfl sc__law_laid.nd (pi_range1 (by rfl) T.range (pa_cons (pe_callB (clLen (K := K)) (by rfl) T.len (by decide +kernel) (pa_cons (pv 1) pa_nil)) pa_nil)) (blkOk_by (N := N__law_laid) (sc := defScope s__law_laid) (by decide +kernel)) (fun _ _ _ _ _ => pg_name (i := 5) sc__law_laid.nd rfl (Or.inl rfl)) (fun _ _ _ _ _ => pts_one (pt_cmpR op_lt (pe_ix (ixL (K := K)) (pv 2) (pv 5) (fun _ _ => rfl)) (pe_callB (clLen (K := K)) (by rfl) T.len (by decide +kernel) (pa_cons (pe_ix (ixL (K := K)) (pv 1) (pv 5) (fun _ _ => rfl)) pa_nil)) (nomark _))) (fun _ _ _ _ _ => pv 5)) (pe_lst (pa_nil)) (nomark _))
        (pss_cons (ps_set (i := 4) sc__law_laid.nd rfl (Or.inl rfl) (pe_def G__law_head (hr.mono (by decide)) (by rfl) (pa_cons (pv 1) (pa_cons (pv 2) pa_nil))))
        (pss_cons (ps_if (pt_cmpR op_isN (pv 4) (pe_non) (nomark _))
          (pss_one (ps_ret (pe_non)))
          (pss_nil))
        (pss_cons (ps_expr (peBm (K := K) PySem.F.plainAttrs_list PySem.F.slot_list_append PySem.F.type_list_append mt_append (pv 3) (pa_cons (pv 4) pa_nil)))
        (pss_one (ps_for PassesOwn.never rfl (pi_range1 (by rfl) T.range (pa_cons (pe_callB (clLen (K := K)) (by rfl) T.len (by decide +kernel) (pa_cons (pv 1) pa_nil)) pa_nil)) (pg_name (i := 5) sc__law_laid.nd rfl (Or.inl rfl))
          (pss_one (ps_if (pt_cmpR (opEqD (K := K) hr.units) (pe_slice (slL (K := K)) (pe_ix (ixL (K := K)) (pv 1) (pv 5) (fun _ _ => rfl)) (po_some (pe_ix (ixL (K := K)) (pv 2) (pv 5) (fun _ _ => rfl))) (po_some (pe_op op_add (pe_ix (ixL (K := K)) (pv 2) (pv 5) (fun _ _ => rfl)) (pe_int)))) (pe_lst (pa_cons (pv 4) pa_nil)) (nomark _))
            (pss_one (ps_asg (pe_op op_add (pe_ix (ixL (K := K)) (pv 2) (pv 5) (fun _ _ => rfl)) (pe_int)) (pg_sub (pv 2) (pv 5) set_list)))
            (pss_nil)))))))))
      (pss_one (ps_ret (pv 3))))), ?_⟩
    -- at = [0] * len(rows)
    have hrep := el_rep (σ := [some (V.str t), some (V.ref ra), none, none, none, none]) (H := H) (xs := [.int 0]) (n := rs.length) (ta := tLst (tCons (tC (V.int 0)) tNil)) (tb := tCB (rLenS K) (tCons (tVar 1) tNil)) (el_lst (ea_cons ev_c ea_nil) (by simp)) (ev_is (ev_len (K := K) (ev_var (i := 1) rfl) hra) (by rw [List.length_map])) (by simp; omega) hz
    rw [flat_rep] at hrep
    refine q_asgL hrep fun aa H1 naa e1 at1 => ?_
    refine q_asgL (xs := [t].map V.str) (el_lst (ea_cons (ev_var rfl) ea_nil) (by simp)) fun la H2 nla e2 at2 => ?_
    have nlaH : H la = none := fresh_back e1 nla
    have hal : aa ≠ la := fun z => by rw [← z, at1] at nla; cases nla
    refine q_while (fun m σ H' => ∃ (ats : List Nat) (od : List Str) (v4 v5 : Option V), σ = [some (.str t), some (.ref ra), some (.ref aa), some (.ref la), v4, v5] ∧ Ex H H' ∧ H' aa = some (.lst (ats.map fun n => V.int ((n : Nat) : Int))) ∧ H' la = some (.lst ((t :: od).map V.str)) ∧ ats.length = rs.length ∧ m = EM.tot (drp rs ats) ∧ od.length + EM.tot (drp rs ats) ≤ 10000 ∧
      EM.merge (rs.map (·.2)) = (EM.merge (drp rs ats)).map (od ++ ·)) (EM.tot (rs.map (·.2))) ?_ ?_
    · refine ⟨List.replicate rs.length 0, [], _, _, rfl, e1.trans e2, e2 _ _ at1, at2, by simp, by rw [drp_zero], by rw [drp_zero]; simpa using htot, ?_⟩
      rw [drp_zero]
      cases EM.merge (rs.map (·.2)) <;> simp
    · clear at1 at2 e1 e2 nla hrep H1 H2
      rintro m σ H1 ⟨ats, od, v4, v5, rfl, e1, ata, atl, hl, rfl, hB, hm⟩
      have hR1 := hR.mono e1
      -- the test
      have htest : EvL (tLc (iRng1 (tCons (tCB (rLenS K) (tCons (tVar 1) tNil)) tNil)) (gName 5) (tTest (tOp (rI0 fun i j => V.bl (decide (i < j))) (tOp (rIxL K) (tVar 2) (tVar 5)) (tCB (rLenS K) (tCons (tOp (rIxL K) (tVar 1) (tVar 5)) tNil)))) (tVar 5) [5]) [some (V.str t), some (.ref ra), some (.ref aa), some (.ref la), v4, v5] H1 (given (((rs.length : Nat) : Int)).toNat (fun k => decide (ats.getD k 0 < (rs.getD k (.non, [])).2.length)) (fun k => V.int (k : Nat))) := by
        refine el_lcR1 _ _ (ea_cons (ev_is (ev_len (K := K) (ev_var rfl) (ex_l e1 hra)) (by rw [List.length_map])) ea_nil) (by omega) (fun x => rfl) (fun j H5 e5 hj => ?_) (fun j H5 e5 hj _ => ev_var rfl)
        have hj' : j < rs.length := by omega
        obtain ⟨r, n, hrj, hnj⟩ := both hl hj'
        obtain ⟨p, _, hp2, hp3⟩ := ev_row (K := K) (σ := [some (V.str t), some (.ref ra), some (.ref aa), some (.ref la), v4, some (.int (j : Nat))]) (H := H5) (ta := tVar 1) (tk := tVar 5) (ex_l (e1.trans e5) hra) (hR1.mono e5) (ev_var rfl) (ev_var rfl) hrj
        rw [getD_of hrj, getD_of hnj]
        exact et_test (ev_is (ev_op (ev_at (K := K) (sq_of (e5 _ _ ata)) (ev_var rfl) (ev_var rfl) hnj) (ev_len (K := K) hp3 hp2) rv_I0) (by rw [List.length_map]; congr 1; simp))
      have hgI : given (((rs.length : Nat) : Int)).toNat (fun k => decide (ats.getD k 0 < (rs.getD k (.non, [])).2.length)) (fun k => V.int (k : Nat)) = (((List.range rs.length).filter fun k => decide (ats.getD k 0 < (rs.getD k (.non, [])).2.length)).map fun (k : Nat) => (k : Int)).map V.int := by
        unfold given
        rw [Int.toNat_natCast, List.map_map]
        rfl
      rw [hgI] at htest
      have hemp : (((List.range rs.length).filter fun k => decide (ats.getD k 0 < (rs.getD k (.non, [])).2.length)).map fun (k : Nat) => (k : Int)).isEmpty = (EM.live (drp rs ats)).isEmpty := by
        have := live_iff hl
        rw [Bool.eq_iff_iff, List.isEmpty_iff, List.isEmpty_iff, List.map_eq_nil_iff, List.filter_eq_nil_iff]
        constructor
        · intro h
          apply Classical.byContradiction
          intro hv
          obtain ⟨k, n, r, hk, hn, hr, hlt⟩ := this.mpr hv
          have := h k (List.mem_range.mpr hk)
          rw [getD_of hn, getD_of hr] at this
          exact this (decide_eq_true hlt)
        · intro h k hk hd
          have hk := List.mem_range.mp hk
          obtain ⟨r, n, hr, hn⟩ := both hl hk
          rw [getD_of hn, getD_of hr] at hd
          exact this.mp ⟨k, n, r, hk, hn, hr, of_decide_eq_true hd⟩ h
      generalize ((List.range rs.length).filter fun k => decide (ats.getD k 0 < (rs.getD k (.non, [])).2.length)).map (fun (k : Nat) => (k : Int)) = gs at htest hemp
      refine ⟨!(EM.live (drp rs ats)).isEmpty, et_test (ev_is (ev_opLL htest el_nil fun p q H2 hp hq e2 => rv_neD (K := K) (d := dI gs) (e := .list []) (fun H3 e3 => ⟨dp_I (sq_of (e3 _ _ hp)), .lst (sq_of (e3 _ _ hq)) .nil⟩) (shaped_dI _) shaped_nil) ?_), fun hb H2 e2 => ⟨_, fun σ2 H2 h => h, ?_⟩, fun hb H2 e2 => ?_⟩
      · rw [← hemp]
        unfold dI
        rw [eqv_nil]
        cases gs <;> rfl
      · have hlive : EM.live (drp rs ats) ≠ [] := fun z => by rw [z] at hb; cases hb
        have e02 := e1.trans e2
        -- head = _law_head(rows, at)
        refine q_asg (v := optS (EM.nextT (drp rs ats))) (ev_call (ea_cons (ev_var rfl) (ea_cons (ev_var rfl) ea_nil)) fun H3 e3 Q' q' E' => ⟨ra, aa, rs, ats, rfl, ex_l (e02.trans e3) hra, hR1.mono (e2.trans e3), sq_of ((e2.trans e3) _ _ ata), hl, hz, fun H4 e4 => q' H4 e4⟩) fun H3 e3 => ?_
        have e03 := e02.trans e3
        have e13 := e2.trans e3
        cases hn : EM.nextT (drp rs ats) with
        | none =>
          refine q_when (b := true) (et_test (ev_op (ev_var rfl) ev_c rv_isN)) (fun _ H4 e4 => ?_) (fun q => nomatch q)
          refine s_ret ev_c fun H5 e5 => ?_
          rw [hm, EM.merge_none hlive hn] at k
          exact RetV.go (show RetV .non H Q from k) (e03.trans (e4.trans e5))
        | some hd =>
          refine q_when (b := false) (et_test (ev_op (ev_var rfl) ev_c rv_isN)) (fun q => nomatch q) (fun _ H4 e4 => ?_)
          have e14 := e13.trans e4
          have hlt := EM.tot_drop_lt hd _ (EM.nextT_mem hn)
          -- laid.append(head)
          refine q_app (K := K) (e14 _ _ atl) (ev_var rfl) (ev_var rfl) (by rw [List.length_map, List.length_cons]; omega) fun H5 e5 => ?_
          have e15 := e14.trans e5
          have ata5 : upd H5 la (.lst ((t :: od).map V.str ++ [V.str hd])) aa = some (.lst (ats.map fun n => V.int ((n : Nat) : Int))) := by rw [upd_ne hal]; exact e15 _ _ ata
          have atl5 : upd H5 la (.lst ((t :: od).map V.str ++ [V.str hd])) la = some (.lst ((t :: (od ++ [hd])).map V.str)) := by rw [upd_same]; simp
          have e05 : Ex H (upd H5 la (.lst ((t :: od).map V.str ++ [V.str hd]))) := Ex.mut (e1.trans e15) nlaH
          show tFor _ _ _ _ _ (upd H5 la (.lst ((t :: od).map V.str ++ [V.str hd])))
          generalize upd H5 la (.lst ((t :: od).map V.str ++ [V.str hd])) = H6 at ata5 atl5 e05
          -- for k in range(len(rows))
          refine s_forR1 (n := ((rs.length : Nat) : Int)) (ea_cons (ev_is (ev_len (K := K) (ev_var rfl) (ex_l e05 hra)) (by rw [List.length_map])) ea_nil) (by omega) (fun i σ' H' => ∃ (bts : List Nat) (v5 : Option V), σ' = [some (.str t), some (.ref ra), some (.ref aa), some (.ref la), some (.str hd), v5] ∧ Ex H H' ∧ H' aa = some (.lst (bts.map fun n => V.int ((n : Nat) : Int))) ∧ H' la = some (.lst ((t :: (od ++ [hd])).map V.str)) ∧ bts.length = rs.length ∧
            (∀ k n r, ats[k]? = some n → rs[k]? = some r → bts[k]? = some (if k < i ∧ (r.2.drop n).head? = some hd then n + 1 else n))) ?_ ?_ ?_
          · intro H7 e7
            exact ⟨ats, _, rfl, e05.trans e7, e7 _ _ ata5, e7 _ _ atl5, hl, fun k n r h _ => by rw [h, if_neg (by omega)]⟩
          · rintro i σ' H7 hi ⟨bts, v5', rfl, e7, ata7, atl7, hbl, hb7⟩
            have hi' : i < rs.length := by omega
            obtain ⟨r, n, hri, hni⟩ := both hl hi'
            have hbi := hb7 i n r hni hri
            rw [if_neg (by omega)] at hbi
            have hOkr := hOk r (List.mem_of_getElem? hri)
            obtain ⟨p, _, hp2, hp3⟩ := ev_row (K := K) (σ := [some (V.str t), some (.ref ra), some (.ref aa), some (.ref la), some (.str hd), some (.int (i : Nat))]) (H := H7) (ta := tVar 1) (tk := tVar 5) (ex_l e7 hra) (hR.mono e7) (ev_var rfl) (ev_var rfl) hri
            have hev : Ev (tOp (rIxL K) (tVar 2) (tVar 5)) [some (V.str t), some (.ref ra), some (.ref aa), some (.ref la), some (.str hd), some (.int (i : Nat))] H7 (.int (n : Nat)) := ev_at (K := K) (sq_of ata7) (ev_var rfl) (ev_var rfl) hbi
            have hcut := el_sl (K := K) hp3 (eo_some (i := ((n : Nat) : Int)) hev) (eo_some (i := ((n + 1 : Nat) : Int)) (te := tOp (rI0 fun i j => V.int (i + j)) (tOp (rIxL K) (tVar 2) (tVar 5)) (tC (V.int 1))) (ev_is (ev_op hev ev_c rv_I0) (by congr 1))) hp2
            have hcv : cutV (r.2.map V.str) (some ((n : Nat) : Int)) (some ((n + 1 : Nat) : Int)) = ((r.2.drop n).take 1).map V.str := by
              unfold cutV
              rw [HT.sIx_nat, HT.sIx_nat, List.length_map, ← List.map_drop, ← List.map_take]
              congr 1
              by_cases hlt' : n < r.2.length
              · rw [Nat.min_eq_left (by omega), Nat.min_eq_left (by omega), show n + 1 - n = 1 by omega]
              · rw [Nat.min_eq_right (by omega), Nat.min_eq_right (by omega), List.drop_of_length_le (Nat.le_refl _), List.drop_of_length_le (by omega)]
                simp
            rw [hcv] at hcut
            have hok1 : Oks ((r.2.drop n).take 1) := fun y hy => hOkr y (List.mem_of_mem_drop (List.mem_of_mem_take hy))
            have hokh : Oks [hd] := fun y hy => by
              rw [List.mem_singleton.mp hy]
              obtain ⟨o, ho, hho⟩ := EM.mem_heads.mp (EM.nextT_mem hn)
              obtain ⟨kk, hkk, eo⟩ := List.getElem_of_mem ho
              rw [drp_len hl] at hkk
              obtain ⟨r', n', hr', hn'⟩ := both hl hkk
              have := drp_at hr' hn'
              rw [List.getElem?_eq_getElem (by rw [drp_len hl]; exact hkk), eo] at this
              cases this
              exact hOk r' (List.mem_of_getElem? hr') hd (List.mem_of_mem_drop (List.mem_of_mem_head? hho))
            refine s_when (b := decide ((r.2.drop n).head? = some hd)) (et_test (ev_is (ev_opLL hcut (el_lst (ea_cons (ev_var rfl) ea_nil) (by simp)) fun p q H8 hp hq e8 => rv_eqD (K := K) (d := dS ((r.2.drop n).take 1)) (e := dS [hd]) (fun H9 e9 => ⟨dp_S (sq_of (e9 _ _ hp)), dp_S (sq_of (e9 _ _ hq))⟩) (shaped_dS hok1) (shaped_dS hokh)) (by rw [eqv_dS, take1']))) (fun hbb H8 e8 => ?_) (fun hbb H8 e8 => ?_)
            · have hh : (r.2.drop n).head? = some hd := of_decide_eq_true hbb
              refine s_setL (j := i) (e8 _ _ ata7) (ev_op (hev.mono e8) ev_c rv_I0) (ev_var rfl) (ev_var rfl) (by rw [List.length_map, hbl]; exact hi') fun H9 e9 => ?_
              refine ⟨bts.set i (n + 1), _, rfl, Ex.mut (e7.trans (e8.trans e9)) naa, ?_, ?_, by rw [List.length_set]; exact hbl, fun kk n' r' h1 h2 => ?_⟩
              · rw [upd_same, List.map_set]
                rfl
              · rw [upd_ne (Ne.symm hal)]
                exact (e8.trans e9) _ _ atl7
              · by_cases hki : kk = i
                · subst hki
                  rw [hni] at h1
                  rw [hri] at h2
                  cases h1
                  cases h2
                  rw [List.getElem?_set_self (by rw [hbl]; exact hi'), if_pos ⟨by omega, hh⟩]
                · rw [List.getElem?_set_ne (fun z => hki z.symm), hb7 kk n' r' h1 h2]
                  have : (kk < i + 1 ∧ (r'.2.drop n').head? = some hd) ↔ (kk < i ∧ (r'.2.drop n').head? = some hd) := ⟨fun ⟨a, b⟩ => ⟨by omega, b⟩, fun ⟨a, b⟩ => ⟨by omega, b⟩⟩
                  simp only [this]
            · have hh : ¬ (r.2.drop n).head? = some hd := of_decide_eq_false hbb
              refine ⟨bts, _, rfl, e7.trans e8, e8 _ _ ata7, e8 _ _ atl7, hbl, fun kk n' r' h1 h2 => ?_⟩
              rw [hb7 kk n' r' h1 h2]
              by_cases hki : kk = i
              · subst hki
                rw [hni] at h1
                rw [hri] at h2
                cases h1
                cases h2
                rw [if_neg (fun z => hh z.2), if_neg (fun z => hh z.2)]
              · have : (kk < i + 1 ∧ (r'.2.drop n').head? = some hd) ↔ (kk < i ∧ (r'.2.drop n').head? = some hd) := ⟨fun ⟨a, b⟩ => ⟨by omega, b⟩, fun ⟨a, b⟩ => ⟨by omega, b⟩⟩
                simp only [this]
          · rintro σ' H7 ⟨bts, v5', rfl, e7, ata7, atl7, hbl, hb7⟩
            rw [Int.toNat_natCast] at hb7
            have hdr : drp rs bts = (drp rs ats).map (EM.dropH hd) := by
              apply List.ext_getElem?
              intro j
              by_cases hj : j < rs.length
              · obtain ⟨r, n, hrj, hnj⟩ := both hl hj
                rw [drp_at hrj (hb7 j n r hnj hrj), List.getElem?_map, drp_at hrj hnj]
                show some _ = some (EM.dropH hd (r.2.drop n))
                congr 1
                unfold EM.dropH
                by_cases hh : (r.2.drop n).head? = some hd
                · rw [if_pos ⟨hj, hh⟩, if_pos hh, List.tail_drop]
                · rw [if_neg (fun z => hh z.2), if_neg hh]
              · rw [List.getElem?_eq_none (by rw [drp_len hbl]; omega), List.getElem?_eq_none (by rw [List.length_map, drp_len hl]; omega)]
            refine ⟨EM.tot (drp rs bts), by rw [hdr]; exact hlt, bts, od ++ [hd], _, _, rfl, e7, ata7, atl7, hbl, rfl, ?_, ?_⟩
            · rw [hdr, List.length_append, List.length_singleton]
              omega
            · rw [hm, EM.merge_step hn, hdr]
              cases EM.merge ((drp rs ats).map (EM.dropH hd)) <;> simp
      · have hlive : EM.live (drp rs ats) = [] := by
          cases hv : EM.live (drp rs ats) with
          | nil => rfl
          | cons _ _ => rw [hv] at hb; cases hb
        have hm' : EM.merge (rs.map (·.2)) = some od := by
          rw [hm, EM.merge_done hlive]
          simp
        rw [hm'] at k
        exact s_ret (ev_var rfl) fun H3 e3 => (show RetL ((t :: od).map V.str) H Q from k) la H3 nlaH (e1.trans (e2.trans e3)) ((e2.trans e3) _ _ atl)
end
end K

set_option Elab.async false
set_option linter.all false
set_option maxRecDepth 100000
namespace K
open PySem L2 Evl EX
/-- none, or a list -/
def ValH (H : Hp) (v : V) (r : Option (List Str)) : Prop := match r with
  | none => v = .non
  | some l => ∃ p, v = .ref p ∧ H p = some (.lst (l.map V.str))
theorem ValH.mono {H H' : Hp} {v : V} {r : Option (List Str)} (h : ValH H v r) (e : Ex H H') : ValH H' v r := by
  cases r with
  | none => exact h
  | some l =>
    obtain ⟨p, a, b⟩ := h
    exact ⟨p, a, e _ _ b⟩
theorem ValH.past {H H' : Hp} {v : V} {r : Option (List Str)} {kd : Addr} {kk : List (Key × V)} (h : ValH H v r) (hk : H kd = some (.dK kk)) (e : Ex (hide kd H) H') : ValH H' v r := by
  cases r with
  | none => exact h
  | some l =>
    obtain ⟨p, a, b⟩ := h
    exact ⟨p, a, e _ _ (hide_get b (ne_of b hk (by intro z; cases z)))⟩
/-- a list of nones and of things -/
def Thin (vs : List V) : Prop := ∀ v ∈ vs, v = .non ∨ ∃ p, v = .ref p
theorem ValH.thin {H : Hp} {v : V} {r : Option (List Str)} (h : ValH H v r) : v = .non ∨ ∃ p, v = .ref p := by
  cases r with
  | none => exact .inl h
  | some l =>
    obtain ⟨p, a, _⟩ := h
    exact .inr ⟨p, a⟩
theorem ValH.over {H : Hp} {v : V} {r : Option (List Str)} {D : Addr} {vs : List V} {o : HO} (h : ValH H v r) (hD : H D = some (.lst vs)) (ht : Thin vs) (hr : ∀ l, r = some l → l ≠ []) : ValH (upd H D o) v r := by
  cases r with
  | none => exact h
  | some l =>
    obtain ⟨p, a, b⟩ := h
    refine ⟨p, a, ?_⟩
    have : p ≠ D := fun z => by
      rw [z, hD] at b
      injection b with b
      injection b with b
      cases l with
      | nil => exact hr [] rfl rfl
      | cons x l =>
        have := ht (.str x) (by rw [b]; simp)
        rcases this with q | ⟨p, q⟩ <;> cases q
    rw [upd_ne this]
    exact b
theorem ValH.o {K : PySem.W.Frag} {H : Hp} {v : V} {r : Option (List Str)} (h : ValH H v r) : ValO K H v r := by
  cases r with
  | none => exact h
  | some l =>
    obtain ⟨p, a, b⟩ := h
    exact ⟨p, a, sq_of b⟩
/-- what is known so far -/
structure Kno (H : Hp) (ts : List Str) (es : List (List Str)) (kk : List (Key × V)) : Prop where
  ks : ∃ ks : List Str, kk.map (·.1) = ks.map Sum.inr ∧ ks.Nodup ∧ ∀ x ∈ ks, x ∈ ts
  vals : ∀ x v, valV kk (Sum.inr x) = some v → ValH H v (EM.OO ts es x)
section
variable {H H' : Hp} {ts : List Str} {es : List (List Str)} {kk : List (Key × V)} {x : Str} {v : V}
theorem Kno.mem (g : Kno H ts es kk) (h : valV kk (Sum.inr x) = some v) : x ∈ ts := by
  obtain ⟨ks, a, _, c⟩ := g.ks
  have := valV_in h
  rw [a] at this
  obtain ⟨y, hy, e⟩ := List.mem_map.mp this
  cases e
  exact c _ hy
theorem Kno.len (g : Kno H ts es kk) : kk.length ≤ ts.length := by
  obtain ⟨ks, a, b, c⟩ := g.ks
  have h1 := congrArg List.length a
  have h2 := EM.nodup_len b c
  simp at h1
  omega
theorem Kno.mono (g : Kno H ts es kk) (e : Ex H H') : Kno H' ts es kk := ⟨g.ks, fun x v h => (g.vals x v h).mono e⟩
theorem Kno.past {kd : Addr} {k0 : List (Key × V)} (g : Kno H ts es kk) (hk : H kd = some (.dK k0)) (e : Ex (hide kd H) H') : Kno H' ts es kk := ⟨g.ks, fun x v h => (g.vals x v h).past hk e⟩
theorem oo_ne (S : EM.Sch ts es) (hx : x ∈ ts) : ∀ l, EM.OO ts es x = some l → l ≠ [] := fun l hl z => by
  have := (EM.OO_nd S hx hl).2
  rw [z] at this
  cases this
theorem Kno.over {D : Addr} {vs : List V} {o : HO} (g : Kno H ts es kk) (S : EM.Sch ts es) (hD : H D = some (.lst vs)) (ht : Thin vs) : Kno (upd H D o) ts es kk := ⟨g.ks, fun x v h => (g.vals x v h).over hD ht (oo_ne S (g.mem h))⟩
theorem Kno.put (g : Kno H ts es kk) (hx : x ∈ ts) (v0 : V) (hv : ValH H v (EM.OO ts es x)) : Kno H ts es (putK (putK kk (Sum.inr x) v0) (Sum.inr x) v) := by
  obtain ⟨ks, a, b, c⟩ := g.ks
  have a1 := keys_put a x v0
  have a2 := keys_put a1 x v
  have hc : ∀ y ∈ EM.addK (EM.addK ks x) x, y ∈ ts := fun y hy => by
    rcases EM.mem_addK.mp hy with q | q
    · rcases EM.mem_addK.mp q with q | q
      · exact c y q
      · rw [q]; exact hx
    · rw [q]; exact hx
  refine ⟨⟨_, a2, addK_nd (addK_nd b), hc⟩, fun y w hw => ?_⟩
  rw [valV_put] at hw
  by_cases hyx : y = x
  · subst hyx
    rw [if_pos rfl] at hw
    cases hw
    exact hv
  · rw [if_neg (fun z => hyx (Sum.inr.inj z)), valV_put, if_neg (fun z => hyx (Sum.inr.inj z))] at hw
    exact g.vals y w hw
theorem Kno.put1 (g : Kno H ts es kk) (hx : x ∈ ts) (hv : ValH H v (EM.OO ts es x)) : Kno H ts es (putK kk (Sum.inr x) v) := by
  obtain ⟨ks, a, b, c⟩ := g.ks
  have a1 := keys_put a x v
  refine ⟨⟨_, a1, addK_nd b, fun y hy => ?_⟩, fun y w hw => ?_⟩
  · rcases EM.mem_addK.mp hy with q | q
    · exact c y q
    · rw [q]; exact hx
  · rw [valV_put] at hw
    by_cases hyx : y = x
    · subst hyx
      rw [if_pos rfl] at hw
      cases hw
      exact hv
    · rw [if_neg (fun z => hyx (Sum.inr.inj z))] at hw
      exact g.vals y w hw
end
theorem Eld.past {K : PySem.W.Frag} {H H' : Hp} {kvs k0 : List (Key × V)} {E : Str → List Str} {U : List Str} {kd : Addr} (h : Eld K H kvs E U) (hk : H kd = some (.dK k0)) (e : Ex (hide kd H) H') : Eld K H' kvs E U :=
  ⟨fun x hx => let ⟨p, a, b⟩ := h.at_ x hx; ⟨p, a, e _ _ (hide_get b (ne_of b hk (by intro z; cases z)))⟩, h.sub⟩
section
variable {K : PySem.W.Frag} {σ : L2.St} {H : Hp} {ta : TE} {x : V}
theorem rv_notInD {a : Addr} {d : PyData} {ds : List PyData} (s1 : SeqAt.shaped d = true) (s2 : SeqAt.shaped (.list ds) = true) (hm : ∀ H1, Ex H H1 → Dp K H1 x d ∧ Dp K H1 (.ref a) (.list ds)) : RV (rNotInD K) x (.ref a) H (.bl (!ds.any fun z => PyData.eqv z d)) := fun H1 e _ q => ⟨d, ds, (hm H1 e).1, (hm H1 e).2, s1, s2, q H1 (Ex.refl H1)⟩
/-- len(set(xs)) == len(xs) -/
theorem et_lenSetE {l : Addr} {xs : List Str} (h : Ev ta σ H (.ref l)) (hS : SqL K H l (xs.map V.str)) (hz : xs.length ≤ 1000) : EvT (tTest (tOp rEq (tLenSetS K ta) (tCB (rLenS K) (tCons ta tNil)))) σ H (decide xs.Nodup) := fun H1 e Q q =>
  h H1 e _ fun H2 e2 => ⟨l, xs, rfl, ex_l (e.trans e2) hS, hz, fun n hn hi => ev_len (K := K) h hS H2 (e.trans e2) _ fun H3 e3 => ⟨rfl, _, rfl, by
    have hb : decide (V.int (n : Int) = V.int ((xs.map V.str).length : Nat)) = decide xs.Nodup := by
      rw [List.length_map]
      apply decide_eq_decide.mpr
      rw [← hi]
      constructor
      · intro z
        injection z with z
        omega
      · intro z
        rw [z]
    rw [hb]
    exact q H3 (e2.trans e3)⟩⟩
end
section
variable {P : Program} {w : World} {K : PySem.W.Frag} {mg : Str → Option Value} {base : Heap}
def spOrd (K : PySem.W.Frag) (r : Nat) : Sp := fun vs H Q _ => ∃ (ed : Addr) (t : Str) (kd : Addr) (kvs kk : List (Key × V)) (ts : List Str) (es : List (List Str)), vs = [.ref ed, .str t, .ref kd] ∧ EM.rk ts t < r ∧ H ed = some (.dK kvs) ∧ Eld K H kvs (EM.EF ts es) ts ∧ EM.Sch ts es ∧ t ∈ ts ∧ ts.length ≤ 60 ∧ Oks ts ∧ (∀ x, (EM.EF ts es x).length ≤ 50) ∧ ed ≠ kd ∧
  H kd = some (.dK kk) ∧ Kno H ts es kk ∧ ∀ v kk' H', ValH H' v (EM.OO ts es t) → H' kd = some (.dK kk') → Kno H' ts es kk' → Ex (hide kd H) H' → Q v H'
theorem ok_order {f : Addr} {fd : FuncData} (F : Fun K "_law_order" "_law_order" s__law_order f fd) (T : Txt mg) (G__law_laid : Def P w K mg base 2 "_law_laid" ["_law_title", "_law_rows"] (spLaid K)) (m : mg "_law_order" = some (.ref f)) (kp : PySem.W.keepIn K (.ref f) = true) (b : Binds K fd ["_law_elders_here", "_law_title", "_law_known"] []) :
    ∀ r, FnOk P w K mg base CX0 (r + 3) f fd ["_law_elders_here", "_law_title", "_law_known"] (spOrd K r) := by
  intro r
  induction r with
  | zero =>
    refine F.ok sc__law_order (fun vs H Q E h => ?_) (fun cdv A outer s H vs Q E hr h => ?_)
    · obtain ⟨ed, t, kd, kvs, kk, ts, es, rfl, h0, _⟩ := h
      exact absurd h0 (by omega)
    · obtain ⟨ed, t, kd, kvs, kk, ts, es, rfl, h0, _⟩ := h
      exact absurd h0 (by omega)
  | succ r ih =>
    have G__law_order : Def P w K mg base (r + 3) "_law_order" ["_law_elders_here", "_law_title", "_law_known"] (spOrd K r) := ⟨f, fd, ih, m, kp, b⟩
    refine F.ok sc__law_order (fun vs H Q E h => ?_) (fun cdv A outer s H vs Q E hr h => ?_)
    · obtain ⟨ed, t, kd, kvs, kk, ts, es, rfl, _⟩ := h
      rfl
    · obtain ⟨ed, t, kd, kvs, kk, ts, es, rfl, hrk, hd, hE, S, ht, hz, hok, hEz, hek, hk, g, k⟩ := h
      have hu := hu_of hr
      refine ⟨_, pss_cut (ps_if (pt_cmp (pc_dnotin hu (pv 1) (pv 2)) (by rfl))
        (pss_cons (ps_set (i := 3) sc__law_order.nd rfl (Or.inl rfl) (pe_op op_cat (pe_lc (own := [("_law_elder", 4)]) (g := gName 4) (tt := tYes) rfl sc__law_order.nd (piL (K := K) (pe_dget hu (pv 0) (pv 1) (fun _ _ => rfl))) (blkOk_by (N := N__law_order) (sc := defScope s__law_order) (by decide +kernel)) (fun _ _ _ _ _ => pg_name (i := 4) sc__law_order.nd rfl (Or.inl rfl)) (fun _ _ _ _ _ => pts_nil) (fun _ _ _ _ _ => pe_def G__law_order (hr.mono (by omega)) (by rfl) (pa_cons (pv 0) (pa_cons (pv 4) (pa_cons (pv 2) pa_nil))))) (pe_lst (pa_cons (pe_dget hu (pv 0) (pv 1) (fun _ _ => rfl)) pa_nil))))
        (pss_cons (ps_dput hu (pv 2) (pv 1) (pe_non) rfl)
        (pss_one (ps_if (PW.pt (pw_and (pt_cmpR op_eq (pe_lenSetS (K := K) rfl (by rfl) T.len (by rfl) T.set (pe_dget hu (pv 0) (pv 1) (fun _ _ => rfl))) (pe_callB (clLen (K := K)) (by rfl) T.len (by decide +kernel) (pa_cons (pe_dget hu (pv 0) (pv 1) (fun _ _ => rfl)) pa_nil)) (nomark _)) (pw_and1 (pt_cmpR (opNinD (K := K) (hu65 hr)) (pe_non) (pv 3) (by rfl)))))
          (pss_one (ps_dput hu (pv 2) (pv 1) (pe_def G__law_laid (hr.mono (by omega)) (by rfl) (pa_cons (pv 1) (pa_cons (pv 3) pa_nil))) rfl))
          (pss_nil)))))
        (pss_nil))
      (pss_one (ps_ret (pe_dget hu (pv 2) (pv 1) (fun _ _ => rfl)))), ?_⟩
      refine q_cut (M := fun σ' H' => ∃ v kk' v3 v4, σ' = [some (.ref ed), some (.str t), some (.ref kd), v3, v4] ∧ valV kk' (Sum.inr t) = some v ∧ ValH H' v (EM.OO ts es t) ∧ H' kd = some (.dK kk') ∧ Kno H' ts es kk' ∧ Ex (hide kd H) H') (s_when (et_B (ev_dnin (k := Sum.inr t) (ev_var rfl) (ev_var rfl) (.inl hk))) (fun hb H1 e1 => ?_) (fun hb H1 e1 => ?_)) ?_
      · obtain ⟨pE, hpv, hpE⟩ := hE.at_ t ht
        have hpk : pE ≠ kd := ne_of hpE hk (by intro z; cases z)
        -- rows
        refine q_raw (op_raw ?_)
        refine ev_dget (k := Sum.inr t) (ev_var rfl) (ev_var rfl) (.inl (e1 _ _ hd)) hpv H1 (Ex.refl H1) _ fun H2 e2 => ⟨pE, rfl, ⟨_, sq_of ((e1.trans e2) _ _ hpE)⟩, fun Dl nD => ?_⟩
        have e02 := e1.trans e2
        have hk2 := e02 _ _ hk
        have hDk : Dl ≠ kd := fun z => by rw [z, hk2] at nD; cases nD
        refine lc_list (K := K) (a := pE) (xs := (EM.EF ts es t).map V.str) (fun i H' => ∃ (vs : List V) (kk' : List (Key × V)), vs.length = i ∧ H' Dl = some (.lst vs) ∧ Thin vs ∧ Ex (hide kd H2) H' ∧ H' kd = some (.dK kk') ∧ Kno H' ts es kk' ∧ ∀ (n : Nat) v, vs[n]? = some v → ∃ e, (EM.EF ts es t)[n]? = some e ∧ ValH H' v (EM.OO ts es e)) ?_ ?_ ?_ ?_
        · have e3 : Ex H2 (upd H2 Dl (.lst [])) := Ex.new nD
          exact ⟨[], kk, rfl, upd_same, (fun v hv => nomatch hv), hide_ex.trans e3, e3 _ _ hk2, g.mono (e02.trans e3), fun n v h => by simp at h⟩
        · rintro i H' _ ⟨vs, kk', _, _, _, e, _⟩
          exact sq_of (e _ _ (hide_get (e02 _ _ hpE) hpk))
        · rintro i x H3 hi ⟨vs, kk', hvl, atD, hthin, e3, hk3, g3, hvals⟩
          rw [List.getElem?_map] at hi
          cases hx : (EM.EF ts es t)[i]? with
          | none => rw [hx] at hi; cases hi
          | some e =>
            rw [hx] at hi
            cases hi
            have heE := List.mem_of_getElem? hx
            have het := EM.EF_sub S t e heE
            have hrke := EM.EF_rank S t e heE
            have hi' : i < (EM.EF ts es t).length := (List.getElem?_eq_some_iff.mp hx).1
            have hez := hEz t
            refine ⟨rfl, yes_raw ?_⟩
            refine call_raw (ea_cons (ev_var rfl) (ea_cons (ev_var rfl) (ea_cons (ev_var rfl) ea_nil))) fun H4 e4 => ?_
            have hd3 := e3 _ _ (hide_get (e02 _ _ hd) hek)
            refine ⟨ed, e, kd, kvs, kk', ts, es, rfl, by omega, e4 _ _ hd3, ((hE.mono e02).past hk2 e3).mono e4, S, het, hz, hok, hEz, hek, e4 _ _ hk3, g3.mono e4, fun v kk'' H5 hv hk5 g5 e5 => ?_⟩
            have hk4 := e4 _ _ hk3
            have atD5 : H5 Dl = some (.lst vs) := e5 _ _ (hide_get (e4 _ _ atD) hDk)
            have e25 : Ex (hide kd H2) H5 := (ex_hide (e3.trans e4) hide_at).trans e5
            refine ⟨vs, atD5, sz_lt (by omega), vs ++ [v], kk'', by simp [hvl], upd_same, fun v' hv' => ?_, Ex.mut e25 (by rw [hide_ne hDk]; exact nD), ?_, g5.over S atD5 hthin, fun n v' hn => ?_⟩
            · rcases List.mem_append.mp hv' with q | q
              · exact hthin v' q
              · rw [List.mem_singleton.mp q]
                exact hv.thin
            · rw [upd_ne (Ne.symm hDk)]
              exact hk5
            · by_cases hlt : n < vs.length
              · rw [List.getElem?_append_left hlt] at hn
                obtain ⟨e', h1, h2⟩ := hvals n v' hn
                exact ⟨e', h1, ((h2.mono e4).past hk4 e5).over atD5 hthin (oo_ne S (EM.EF_sub S t e' (List.mem_of_getElem? h1)))⟩
              · have hni : n = vs.length := by
                  have := (List.getElem?_eq_some_iff.mp hn).1
                  simp at this
                  omega
                subst hni
                rw [List.getElem?_append_right (Nat.le_refl _), Nat.sub_self] at hn
                cases hn
                exact ⟨e, by rw [hvl]; exact hx, hv.over atD5 hthin (oo_ne S het)⟩
        · rintro H3 ⟨vs, kk', hvl, atD, hthin, e3, hk3, g3, hvals⟩
          rw [List.length_map] at hvl
          have hez := hEz t
          have hd3 := e3 _ _ (hide_get (e02 _ _ hd) hek)
          have hpE3 := e3 _ _ (hide_get (e02 _ _ hpE) hpk)
          -- + [elders[title]]
          refine el_lst (σ := [some (V.ref ed), some (.str t), some (.ref kd), none, none]) (ea_cons (ev_dget (td := tVar 0) (ty := tVar 1) (k := Sum.inr t) (ev_var rfl) (ev_var rfl) (.inl hd3) hpv) ea_nil) (by simp) H3 (Ex.refl H3) _ fun p5 H5 n5 e5 at5 => ?_
          refine ⟨Dl, p5, vs, _, rfl, rfl, e5 _ _ atD, at5, sz_of (by simp; omega), fun R nR => ?_⟩
          have e6 : Ex H5 (upd H5 R (.lst (vs ++ [.ref pE]))) := Ex.new nR
          have at6 : upd H5 R (.lst (vs ++ [.ref pE])) R = some (.lst (vs ++ [.ref pE])) := upd_same
          show tSeq _ _ _ _ _
          generalize upd H5 R (.lst (vs ++ [.ref pE])) = H6 at e6 at6
          have e36 := e5.trans e6
          have hk6 := e36 _ _ hk3
          have g6 := g3.mono e36
          have hRk : R ≠ kd := ne_of at6 hk6 (by intro z; cases z)
          have hkl := g6.len
          -- known[title] = None
          refine q_dput_raw ⟨_, rfl, _, rfl, kd, _, rfl, DPut.k (k := Sum.inr t) hk6 (sz_lt (by omega)), ?_⟩
          have e7 : Ex (hide kd H6) (upd H6 kd (.dK (putK kk' (Sum.inr t) .non))) := Ex.mut hide_ex hide_at
          have hk7 : upd H6 kd (.dK (putK kk' (Sum.inr t) .non)) kd = some (.dK (putK kk' (Sum.inr t) .non)) := upd_same
          show tIfS _ _ _ _ _ _
          generalize upd H6 kd (.dK (putK kk' (Sum.inr t) .non)) = H7 at e7 hk7
          have g7 := g6.past hk6 e7
          have at7 := e7 _ _ (hide_get at6 hRk)
          have hd7 := e7 _ _ (hide_get (e36 _ _ hd3) hek)
          have hpE7 := e7 _ _ (hide_get (e36 _ _ hpE3) hpk)
          have eH3 : Ex (hide kd H) H3 := (hide_mono e02).trans e3
          have eH7 : Ex (hide kd H) H7 := (ex_hide (eH3.trans e36) hide_at).trans e7
          have hvals7 : ∀ (n : Nat) v, vs[n]? = some v → ∃ e, (EM.EF ts es t)[n]? = some e ∧ ValH H7 v (EM.OO ts es e) := fun n v h => by
            obtain ⟨e, h1, h2⟩ := hvals n v h
            exact ⟨e, h1, (h2.mono e36).past hk6 e7⟩
          have hOOk : ∀ e ∈ EM.EF ts es t, OksO (EM.OO ts es e) ∧ ∀ l, EM.OO ts es e = some l → l.length ≤ 60 := fun e he => by
            have het := EM.EF_sub S t e he
            refine ⟨fun l hl y hy => hok y ((EM.O_has (U := ts) (EM.EF_rank S) (fun t _ => EM.EF_sub S t) _ e (Nat.le_refl _) het l hl).2 y hy).1, fun l hl => ?_⟩
            exact Nat.le_trans (EM.O_len (U := ts) (EM.EF_rank S) (fun t _ => EM.EF_sub S t) het hl) hz
          have hokE : Oks (EM.EF ts es t) := fun y hy => hok y (EM.EF_sub S t y hy)
          have hdp : ∀ H8, Ex H7 H8 → Dp K H8 .non .none ∧ Dp K H8 (.ref R) (.list (((EM.EF ts es t).map (EM.OO ts es) ++ [some (EM.EF ts es t)]).map dO)) := fun H8 e8 => ⟨.non, .lst (sq_of (e8 _ _ at7)) (dp_Os (by simp [hvl]) fun n v o h1 h2 => by
            by_cases hlt : n < vs.length
            · rw [List.getElem?_append_left hlt] at h1
              rw [List.getElem?_append_left (by simp; omega), List.getElem?_map] at h2
              obtain ⟨e, h3, h4⟩ := hvals7 n v h1
              rw [h3] at h2
              cases h2
              exact (h4.mono e8).o
            · have hn : n = vs.length := by
                have := (List.getElem?_eq_some_iff.mp h1).1
                simp at this
                omega
              subst hn
              rw [List.getElem?_append_right (Nat.le_refl _), Nat.sub_self] at h1
              cases h1
              rw [List.getElem?_append_right (by simp; omega)] at h2
              simp [hvl] at h2
              subst h2
              exact ⟨pE, rfl, sq_of (e8 _ _ hpE7)⟩)⟩
          have hsh : SeqAt.shaped (.list (((EM.EF ts es t).map (EM.OO ts es) ++ [some (EM.EF ts es t)]).map dO)) = true := shaped_dOs fun o ho => by
            rcases List.mem_append.mp ho with q | q
            · obtain ⟨e, he, rfl⟩ := List.mem_map.mp q
              exact (hOOk e he).1
            · rw [List.mem_singleton.mp q]
              intro l hl
              cases hl
              exact hokE
          have hOt := EM.OO_eq S t
          refine s_when (b := decide (EM.EF ts es t).Nodup && !((EM.EF ts es t).map (EM.OO ts es)).any (·.isNone)) (et_and (et_lenSetE (K := K) (ev_dget (k := Sum.inr t) (ev_var rfl) (ev_var rfl) (.inl hd7) hpv) (sq_of hpE7) (by omega)) fun _ => et_test (ev_is (ev_op ev_c (ev_var rfl) (rv_notInD (K := K) shaped_none hsh hdp)) (by rw [any_none, List.any_append]; simp))) (fun hbb H8 e8 => ?_) (fun hbb H8 e8 => ?_)
          · rw [Bool.and_eq_true, Bool.not_eq_true'] at hbb
            have nd : (EM.EF ts es t).Nodup := of_decide_eq_true hbb.1
            obtain ⟨ls, hls⟩ := mapM_all hbb.2
            have hll : ls.length = (EM.EF ts es t).length := (EM.mapM_some hls).1
            have hOt' : EM.OO ts es t = (EM.merge (ls ++ [EM.EF ts es t])).map (t :: ·) := by
              rw [hOt]
              unfold EM.orderBy
              rw [if_pos nd, hls, Option.bind_some]
            obtain ⟨rs, r1, r2, r3, r4⟩ : ∃ rs : List VR, rs.map (·.1) = vs ++ [V.ref pE] ∧ rs.map (·.2) = ls ++ [EM.EF ts es t] ∧ RowsP K H8 rs ∧ ∀ q ∈ rs, Oks q.2 := by
              refine ⟨vs.zip ls ++ [(V.ref pE, EM.EF ts es t)], ?_, ?_, fun q hq => ?_, fun q hq => ?_⟩
              · rw [List.map_append, List.map_fst_zip (by omega)]
                rfl
              · rw [List.map_append, List.map_snd_zip (by omega)]
                rfl
              · rcases List.mem_append.mp hq with z | z
                · obtain ⟨n, hn, en⟩ := List.getElem_of_mem z
                  rw [List.length_zip] at hn
                  have hn1 : n < vs.length := by omega
                  have hn2 : n < ls.length := by omega
                  rw [List.getElem_zip] at en
                  obtain ⟨e, h1, h2⟩ := hvals7 n vs[n] (List.getElem?_eq_getElem hn1)
                  obtain ⟨e', h3, h4⟩ := mapM_get hls n ls[n] (List.getElem?_eq_getElem hn2)
                  rw [h1] at h3
                  cases h3
                  rw [h4] at h2
                  obtain ⟨p, h5, h6⟩ := h2
                  rw [← en]
                  exact ⟨p, h5, sq_of (e8 _ _ h6)⟩
                · rw [List.mem_singleton.mp z]
                  exact ⟨pE, rfl, sq_of (e8 _ _ hpE7)⟩
              · have : q.2 ∈ ls ++ [EM.EF ts es t] := by
                  rcases List.mem_append.mp hq with z | z
                  · exact List.mem_append_left _ (List.of_mem_zip z).2
                  · rw [List.mem_singleton.mp z]
                    simp
                rcases List.mem_append.mp this with z | z
                · obtain ⟨e, he, hf⟩ := (EM.mapM_some hls).2 _ z
                  exact (hOOk e he).1 _ hf
                · rw [List.mem_singleton.mp z]
                  exact hokE
            have htot : EM.tot (rs.map (·.2)) ≤ 10000 := by
              rw [r2]
              have h1 : EM.tot (ls ++ [EM.EF ts es t]) ≤ 60 * (ls ++ [EM.EF ts es t]).length := tot_le fun l hl => by
                rcases List.mem_append.mp hl with q | q
                · obtain ⟨e, he, hf⟩ := (EM.mapM_some hls).2 l q
                  exact (hOOk e he).2 l hf
                · rw [List.mem_singleton.mp q]
                  omega
              have h2 : (ls ++ [EM.EF ts es t]).length ≤ 51 := by simp; omega
              omega
            have hrl : rs.length ≤ 1000 := by
              have := congrArg List.length r2
              simp at this
              omega
            -- known[title] = _law_laid(title, rows)
            refine dput_raw (call_raw (ea_cons (ev_var rfl) (ea_cons (ev_var rfl) ea_nil)) fun H9 e9 => ⟨t, R, rs, rfl, sq_of (by rw [r1]; exact (e8.trans e9) _ _ at7), r3.mono e9, r4, hrl, htot, ?_⟩)
            rw [r2, ← hOt']
            have e79 := e8.trans e9
            have fin : ∀ v H10, Ex H9 H10 → ValH H10 v (EM.OO ts es t) → ∃ a H4, V.ref kd = .ref a ∧ DPut H10 a (.str t) v H4 ∧ (∃ v kk' v3 v4, [some (V.ref ed), some (.str t), some (.ref kd), some (.ref R), none] = [some (.ref ed), some (.str t), some (.ref kd), v3, v4] ∧ valV kk' (Sum.inr t) = some v ∧ ValH H4 v (EM.OO ts es t) ∧ H4 kd = some (.dK kk') ∧ Kno H4 ts es kk' ∧ Ex (hide kd H) H4) := fun v H10 e10 hv => by
              have e710 := e79.trans e10
              have hk10 := e710 _ _ hk7
              have hpl := length_putK kk' (Sum.inr t : Key) V.non
              have e11 : Ex (hide kd H10) (upd H10 kd (.dK (putK (putK kk' (Sum.inr t) .non) (Sum.inr t) v))) := Ex.mut hide_ex hide_at
              exact ⟨kd, _, rfl, DPut.k (k := Sum.inr t) hk10 (sz_lt (by omega)), v, _, _, _, rfl, by rw [valV_put, if_pos rfl], hv.past hk10 e11, upd_same, ((g7.mono e710).put ht .non hv).past hk10 e11, Ex.mut (eH7.trans e710) hide_at⟩
            cases hO : EM.OO ts es t with
            | none => exact fun H10 e10 => ⟨_, rfl, _, rfl, by rw [hO] at fin; exact fin .non H10 e10 rfl⟩
            | some l => exact fun p H10 np e10 at10 => ⟨_, rfl, _, rfl, by rw [hO] at fin; exact fin (.ref p) H10 e10 ⟨p, rfl, at10⟩⟩
          · have hnone : EM.OO ts es t = none := by
              rw [hOt]
              rw [Bool.and_eq_false_iff] at hbb
              rcases hbb with q | q
              · exact EM.orderBy_twice (of_decide_eq_false q)
              · rw [Bool.not_eq_false', List.any_map, List.any_eq_true] at q
                obtain ⟨e, he, hn⟩ := q
                exact EM.orderBy_lack he (Option.isNone_iff_eq_none.mp hn)
            have hv : ValH H8 .non (EM.OO ts es t) := by rw [hnone]; rfl
            have g8 : Kno H8 ts es (putK kk' (Sum.inr t) .non) := (g7.mono e8).put1 ht hv
            exact ⟨.non, _, _, _, rfl, by rw [valV_put, if_pos rfl], hv, e8 _ _ hk7, g8, eH7.trans e8⟩
      · cases hv : valV kk (Sum.inr t) with
        | none => rw [hv] at hb; cases hb
        | some v => exact ⟨v, kk, _, _, rfl, hv, (g.vals t v hv).mono e1, e1 _ _ hk, g.mono e1, hide_ex.trans e1⟩
      · rintro _ H1 ⟨v, kk', v3, v4, rfl, hv, hval, hk1, g1, e1⟩
        exact s_ret (ev_dget (k := Sum.inr t) (ev_var rfl) (ev_var rfl) (.inl hk1) hv) fun H2 e2 => k v kk' H2 (hval.mono e2) (e2 _ _ hk1) (g1.mono e2) (e1.trans e2)
end
end K

set_option Elab.async false
set_option linter.all false
set_option maxRecDepth 100000
namespace K
open PySem L2 Evl EX
theorem s_rev {K : PySem.W.Frag} {σ : L2.St} {H : Hp} {ta : TE} {D : Ends} {l : Addr} {xs : List V} (hl : H l = some (.lst xs)) (ha : Ev ta σ H (.ref l)) (k : ∀ H1, Ex H H1 → D.nx σ (upd H1 l (.lst xs.reverse))) : tDrop (tBM0 K "list" rReverse ta) D σ H :=
  ha H (Ex.refl H) _ fun H1 e1 => ⟨Or.inl ⟨rfl, _, sq_of (e1 _ _ hl)⟩, l, xs, rfl, rfl, e1 _ _ hl, k H1 e1⟩
theorem ifn_raw {σ : L2.St} {H : Hp} {te : TE} {D : Ends} {tu tw : TS} (h : te σ H fun x H1 => ∃ k, x = .bl k ∧ (if (!k) = true then tu D σ H1 else tw D σ H1)) : tIfS (tNot (tB te)) tu tw D σ H := h
theorem iteN {p q : Prop} (h : q) : if (!true) = true then p else q := by rw [if_neg (by decide)]; exact h
theorem iteF' {p q : Prop} (h : q) : if (false = true) then p else q := by rw [if_neg (by decide)]; exact h
theorem q_lock {σ : L2.St} {H : Hp} {t tz : TS} {D : Ends} {d : Addr} {u : HO} (hd : H d = some u) (mu : Mut (some u)) (h : ∀ od, t ⟨fun σ' H' => H' d = some (.frz od u) ∧ tz D σ' (upd H' d u), fun v H' => H' d = some (.frz od u) ∧ D.rt v (upd H' d u), fun σ' H' => H' d = some (.frz od u) ∧ D.bk σ' (upd H' d u), fun σ' H' => H' d = some (.frz od u) ∧ D.ct σ' (upd H' d u)⟩ σ (upd H d (.frz od u))) : tSeq (tLock t) tz D σ H :=
  ⟨d, u, hd, mu, h⟩
/-- a comprehension over a dict's keys -/
theorem lc_keys {σ : L2.St} {d : Addr} {o : Obj} {kvs : List (Key × V)} {g : TG} {tt : TT} {te : TE} {vs : List Nat} {H1 : Hp} {Dl : Addr} {Qd : Hp → Prop} (Pv : Nat → Hp → Prop) (h0 : Pv 0 (upd H1 Dl (.lst []))) (hl : ∀ i H, i ≤ kvs.length → Pv i H → H d = some (.frz o (.dK kvs)))
    (hs : ∀ i k v H, kvs[i]? = some (k, v) → Pv i H → g (kV k) (wipe σ vs) H fun σ2 H2 => wipe σ2 vs = wipe σ vs ∧ tt σ2 H2 fun b H3 =>
      if b = true then te σ2 H3 fun y H4 => ∃ acc, H4 Dl = some (.lst acc) ∧ acc.length < sizeLine ∧ Pv (i + 1) (upd H4 Dl (.lst (acc ++ [y]))) else Pv (i + 1) H3) (hd : ∀ H, Pv kvs.length H → Qd H) :
    ∃ W : Nat → Nat → Hp → Prop, (∃ m, W 0 m (upd H1 Dl (.lst []))) ∧ ∀ i m H, W i m H →
      ((Itk d o kvs).stop i H ∧ Qd H) ∨ ((Itk d o kvs).go i H ∧ ∃ Nx : Hp → Prop, (∀ H', Nx H' → ∃ m', m' < m ∧ W (i + 1) m' H') ∧ ∀ x H', (Itk d o kvs).yld i H x H' → g x (wipe σ vs) H' fun σ2 H2 => wipe σ2 vs = wipe σ vs ∧ tt σ2 H2 fun b H3 =>
        if b = true then te σ2 H3 fun y H4 => ∃ acc, H4 Dl = some (.lst acc) ∧ acc.length < sizeLine ∧ Nx (upd H4 Dl (.lst (acc ++ [y]))) else Nx H3) := by
  refine ⟨fun i m H => m = kvs.length - i ∧ i ≤ kvs.length ∧ Pv i H, ⟨kvs.length, rfl, Nat.zero_le _, h0⟩, ?_⟩
  rintro i m H ⟨rfl, hi, p⟩
  by_cases hlt : i < kvs.length
  · refine .inr ⟨⟨hl i H hi p, hlt⟩, fun H' => Pv (i + 1) H', fun H' h => ⟨kvs.length - (i + 1), by omega, rfl, by omega, h⟩, ?_⟩
    rintro x H' ⟨rfl, k, v, hk, rfl⟩
    exact hs i k v H' hk p
  · have e : i = kvs.length := by omega
    subst e
    exact .inl ⟨⟨hl _ H hi p, Nat.le_refl _⟩, hd H p⟩
/-! ### the kept pairs as data -/
def dP (E : Str → List Str) (ks : List Str) : PyData := .list (ks.map fun x => .tuple [.str x, dS (E x)])
theorem eqv_dP (E : Str → List Str) (ks : List Str) : PyData.eqv (dP E ks) (dP E ks) = true := by
  unfold dP
  simp only [PyData.eqv]
  induction ks with
  | nil => simp [PyData.eqvAll]
  | cons x ks ih =>
    have h1 := eqv_dS (E x) (E x)
    rw [decide_eq_true rfl] at h1
    simp [PyData.eqvAll, PyData.eqv, ih, h1]
theorem shaped_dP {E : Str → List Str} {ks : List Str} (h : Oks ks) (hE : ∀ x ∈ ks, Oks (E x)) : SeqAt.shaped (dP E ks) = true := by
  have key : PyData.canLayAll0 (ks.map fun x => .tuple [.str x, dS (E x)]) = true ∧ PyData.depthAll (ks.map fun x => .tuple [.str x, dS (E x)]) ≤ 2 := by
    induction ks with
    | nil => exact ⟨rfl, by simp [PyData.depthAll]⟩
    | cons x ks ih =>
      obtain ⟨a, b⟩ := ih (fun y hy => h y (List.mem_cons_of_mem _ hy)) fun y hy => hE y (List.mem_cons_of_mem _ hy)
      have c := shaped_dS (hE x List.mem_cons_self)
      unfold SeqAt.shaped at c
      rw [Bool.and_eq_true] at c
      have hs := h x List.mem_cons_self
      constructor
      · show (PyData.canLay0 (.tuple [.str x, dS (E x)]) && PyData.canLayAll0 (ks.map fun x => .tuple [.str x, dS (E x)])) = true
        rw [a]
        show ((PyData.strOk x && (PyData.canLay0 (dS (E x)) && true)) && true) = true
        rw [hs, c.1]
        rfl
      · rw [List.map_cons]
        simp only [PyData.depthAll, PyData.depth, depth_dS]
        omega
  unfold SeqAt.shaped dP
  show (PyData.canLayAll0 (ks.map fun x => .tuple [.str x, dS (E x)]) && decide (PyData.depth (.list (ks.map fun x => .tuple [.str x, dS (E x)])) ≤ 64)) = true
  rw [key.1]
  have : PyData.depth (.list (ks.map fun x => .tuple [.str x, dS (E x)])) ≤ 64 := by
    simp only [PyData.depth]
    omega
  simp [this]
/-- the list of pairs at kl -/
structure Kept (H : Hp) (kl : Addr) (ks : List Str) (E : Str → List Str) (as : List (Addr × Addr)) : Prop where
  len : as.length = ks.length
  lst : H kl = some (.lst (as.map fun a => V.ref a.1))
  at_ : ∀ (n : Nat) Tt q x, as[n]? = some (Tt, q) → ks[n]? = some x → H Tt = some (.tup [.str x, .ref q]) ∧ H q = some (.lst ((E x).map V.str))
theorem Kept.mono {H H' : Hp} {kl : Addr} {ks : List Str} {E : Str → List Str} {as : List (Addr × Addr)} (g : Kept H kl ks E as) (e : Ex H H') : Kept H' kl ks E as :=
  ⟨g.len, e _ _ g.lst, fun n Tt q x h1 h2 => let ⟨a, b⟩ := g.at_ n Tt q x h1 h2; ⟨e _ _ a, e _ _ b⟩⟩
theorem dp_pairs {K : PySem.W.Frag} {H : Hp} {E : Str → List Str} : ∀ {ts : List Addr} {ks : List Str}, ts.length = ks.length → (∀ (n : Nat) Tt x, ts[n]? = some Tt → ks[n]? = some x → ∃ q, H Tt = some (.tup [.str x, .ref q]) ∧ H q = some (.lst ((E x).map V.str))) → DpAll K H (ts.map V.ref) (ks.map fun x => .tuple [.str x, dS (E x)])
  | [], [], _, _ => .nil
  | a :: ts, x :: ks, hl, h => by
    obtain ⟨q, h1, h2⟩ := h 0 a x rfl rfl
    exact .cons (.tup (st_of h1) (.cons (.str x) (.cons (dp_S (sq_of h2)) .nil))) (dp_pairs (by simpa using hl) fun n Tt y a b => h (n + 1) Tt y (by simpa using a) (by simpa using b))
  | [], _ :: _, hl, _ => by simp at hl
  | _ :: _, [], hl, _ => by simp at hl
section
variable {P : Program} {w : World} {K : PySem.W.Frag} {mg : Str → Option Value} {base : Heap}
def spToldR (K : PySem.W.Frag) : Sp := fun vs H Q _ => ∃ (ed : Addr) (t : Str) (due : V) (kvs : List (Key × V)) (ts : List Str) (es : List (List Str)), vs = [.ref ed, .str t, due] ∧ H ed = some (.dK kvs) ∧ Eld K H kvs (EM.EF ts es) ts ∧ EM.Sch ts es ∧ t ∈ ts ∧ ts.length ≤ 60 ∧ Oks ts ∧ (∀ x, (EM.EF ts es x).length ≤ 50) ∧ ValH H due (EM.OO ts es t) ∧ RetV (.bl true) H Q
theorem ok_told_right {f : Addr} {fd : FuncData} (F : Fun K "_law_told_right" "_law_told_right" s__law_told_right f fd) (T : Txt mg) (G_order_of : Def P w K mg base 4 "order_of" ["elders", "title"] (spOrderOf K)) : FnOk P w K mg base CX0 5 f fd ["_law_elders_here", "_law_title", "_law_due"] (spToldR K) := by
  refine F.ok sc__law_told_right (fun vs H Q E h => ?_) (fun cdv A outer s H vs Q E hr h => ?_)
  · obtain ⟨ed, t, due, kvs, ts, es, rfl, _⟩ := h
    rfl
  · obtain ⟨ed, t, due, kvs, ts, es, rfl, hd, hE, S, ht, hz, hok, hEz, hdue, k⟩ := h
    have hu := hu_of hr
    refine ⟨_, pss_cons (ps_for PassesOwn.never rfl (pi_range1 (by rfl) T.range (pa_cons (pe_int) pa_nil)) (pg_name (i := 3) sc__law_told_right.nd rfl (Or.inl rfl))
        (pss_cons (ps_set (i := 4) sc__law_told_right.nd rfl (Or.inl rfl) (pe_def G_order_of (hr.mono (by decide)) (by rfl) (pa_cons (pv 0) (pa_cons (pv 1) pa_nil))))
        (pss_cons (ps_if (PW.pt (pw_or (pt_cmpR (opNeD (K := K) hr.units) (pv 4) (pv 2) (nomark _)) (pw_or1 (PW.pt (pw_and (pt_cmpR op_notN (pv 2) (pe_non) (nomark _)) (pw_and1 (pt_not (pt_val (pe_callB (clIsi (K := K)) (by rfl) T.isinstance (by decide +kernel) (pa_cons (pv 4) (pa_cons (pe_bltn (v := .ty "list") (by rfl) T.list (by decide +kernel) rfl) pa_nil)))))))))))
          (pss_one (ps_ret (pe_bl)))
          (pss_nil))
        (pss_one (ps_if (pt_cmpR op_notN (pv 4) (pe_non) (nomark _))
          (pss_cons (ps_expr (peBm (K := K) PySem.F.plainAttrs_list PySem.F.slot_list_append PySem.F.type_list_append mt_append (pv 4) (pa_cons (pe_str) pa_nil)))
          (pss_one (ps_expr (pe_bm0 PySem.F.plainAttrs_list PySem.F.slot_list_reverse PySem.F.type_list_reverse mt_reverse (pv 4)))))
          (pss_nil))))))
      (pss_one (ps_ret (pe_bl))), ?_⟩
    have hOk : OksO (EM.OO ts es t) := fun l hl y hy => hok y ((EM.O_has (U := ts) (EM.EF_rank S) (fun t _ => EM.EF_sub S t) _ t (Nat.le_refl _) ht l hl).2 y hy).1
    have hOl : ∀ l, EM.OO ts es t = some l → l.length ≤ 60 := fun l hl => Nat.le_trans (EM.O_len (U := ts) (EM.EF_rank S) (fun t _ => EM.EF_sub S t) ht hl) hz
    have hsh := shaped_dO hOk
    refine q_forR1 (n := 2) (ea_cons ev_c ea_nil) (by decide) (fun i σ' H' => ∃ v3 v4, σ' = [some (.ref ed), some (.str t), some due, v3, v4] ∧ Ex H H') (fun H1 e1 => ⟨_, _, rfl, e1⟩) ?_ ?_
    · rintro i σ' H1 hi ⟨v3, v4, rfl, e1⟩
      refine q_callA (ea_cons (ev_var rfl) (ea_cons (ev_var rfl) ea_nil)) fun H2 e2 => ?_
      have e02 := e1.trans e2
      refine ⟨ed, t, kvs, EM.EF ts es, ts, EM.rk ts, rfl, .inl (e02 _ _ hd), hE.mono e02, ht, by omega, hok, hEz, EM.EF_rank S, by have := EM.rk_le ts t; omega, ?_⟩
      show RetO (EM.OO ts es t) H2 _
      cases hO : EM.OO ts es t with
      | none =>
        intro H3 e3
        rw [hO] at hdue hsh
        have hdue : due = .non := hdue
        subst hdue
        refine q_when (b := false) (et_is (et_or (et_test (ev_op (ev_var rfl) (ev_var rfl) (rv_neD (K := K) (d := .none) (e := .none) (fun _ _ => ⟨.non, .non⟩) shaped_none shaped_none))) fun _ => et_and (b := true) (et_test (ev_op (ev_var rfl) ev_c (rv_notN (x := .non)))) fun q => absurd q (by simp)) (by simp [PyData.eqv])) (fun q => nomatch q) (fun _ H4 e4 => ?_)
        refine s_when (b := false) (et_test (ev_op (ev_var rfl) ev_c (rv_notN (x := .non)))) (fun q => nomatch q) (fun _ H5 e5 => ⟨_, _, rfl, e02.trans (e3.trans (e4.trans e5))⟩)
      | some l =>
        intro p H3 np e3 at3
        have hl60 := hOl l hO
        rw [hO] at hdue hsh
        obtain ⟨pd, rfl, hpd⟩ := hdue
        have e03 := e02.trans e3
        refine q_when (b := false) (et_is (et_or (et_test (ev_op (ev_var rfl) (ev_var rfl) (rv_neD (K := K) (d := dS l) (e := dS l) (fun H9 e9 => ⟨dp_S (sq_of (e9 _ _ at3)), dp_S (sq_of ((e03.trans e9) _ _ hpd))⟩) hsh hsh))) fun _ => et_and (et_test (ev_op (ev_var rfl) ev_c (rv_notN (x := .ref pd)))) fun _ => et_not (et_B (ev_isL (K := K) (ev_var rfl) at3 ev_c))) (by rw [eqv_dS]; simp)) (fun q => nomatch q) (fun _ H4 e4 => ?_)
        refine s_when (b := true) (et_test (ev_op (ev_var rfl) ev_c (rv_notN (x := .ref p)))) (fun _ H5 e5 => ?_) (fun q => nomatch q)
        have e35 := e4.trans e5
        refine q_app (K := K) (e35 _ _ at3) (ev_var rfl) ev_c (by rw [List.length_map]; omega) fun H6 e6 => ?_
        refine s_rev (K := K) upd_same (ev_var rfl) fun H7 e7 => ?_
        have npH : H p = none := fresh_back e02 np
        exact ⟨_, _, rfl, Ex.mut ((Ex.mut (e03.trans (e35.trans e6)) npH).trans e7) npH⟩
    · rintro σ' H1 ⟨v3, v4, rfl, e1⟩
      exact s_ret ev_c fun H2 e2 => k.go (e1.trans e2)
def spLaw (K : PySem.W.Frag) : Sp := fun vs H Q _ => ∃ (a : Addr) (ns : List Int), vs = [.ref a] ∧ SqL K H a (ns.map V.int) ∧ ns.length ≤ 63 ∧ ∀ H', Q (.bl true) H'
theorem ok_law {f : Addr} {fd : FuncData} (F : Fun K "law" "law" s_law f fd) (T : Txt mg) (G__law_tap : Def P w K mg base 1 "_law_tap" ["_law_cell"] spTap) (G__law_next : Def P w K mg base 2 "_law_next" ["_law_tap_here", "_law_size"] spDraw)
    (G__law_elders : Def P w K mg base 4 "_law_elders" ["_law_tap_here", "_law_many", "_law_wild"] (spElders K)) (G__law_order : Def P w K mg base 16 "_law_order" ["_law_elders_here", "_law_title", "_law_known"] (spOrd K 13)) (G__law_told_right : Def P w K mg base 5 "_law_told_right" ["_law_elders_here", "_law_title", "_law_due"] (spToldR K)) :
    FnOk P w K mg base CX0 17 f fd ["_law_script"] (spLaw K) := by
  refine F.ok sc_law (fun vs H Q E h => ?_) (fun cdv A outer s H vs Q E hr h => ?_)
  · obtain ⟨a, ns, rfl, _⟩ := h
    rfl
  · obtain ⟨a, ns, rfl, hS, hz, k⟩ := h
    have hu := hu_of hr
    refine ⟨_, pss_cons (ps_for PassesOwn.never rfl (piEnum (K := K) (by rfl) T.enumerate (pa_cons (pe_op op_cat (pe_slice (slL (K := K)) (pv 0) po_none (po_some (pe_int))) (pe_lst (pa_cons (pe_callB (clLen (K := K)) (by rfl) T.len (by decide +kernel) (pa_cons (pv 0) pa_nil)) pa_nil))) pa_nil)) (pg_tup rfl (pgs_cons (pg_name (i := 1) sc_law.nd rfl (Or.inl rfl)) (pgs_cons (pg_name (i := 2) sc_law.nd rfl (Or.inl rfl)) pgs_nil)))
        (pss_cons (ps_set (i := 3) sc_law.nd rfl (Or.inl rfl) (pe_def G__law_tap (hr.mono (by decide)) (by rfl) (pa_cons (pe_op op_add (pv 2) (pv 1)) pa_nil)))
        (pss_cons (ps_asg (pe_def G__law_elders (hr.mono (by decide)) (by rfl) (pa_cons (pv 3) (pa_cons (pe_op op_add (pe_int) (pe_def G__law_next (hr.mono (by decide)) (by rfl) (pa_cons (pv 3) (pa_cons (pe_ix (ixL (K := K)) (pe_lst (pa_cons (pe_int) (pa_cons (pe_int) pa_nil))) (pe_def G__law_next (hr.mono (by decide)) (by rfl) (pa_cons (pv 3) (pa_cons (pe_int) pa_nil))) (fun _ _ => rfl)) pa_nil)))) (pa_cons (pe_int) pa_nil)))) (pg_tup rfl (pgs_cons (pg_name (i := 4) sc_law.nd rfl (Or.inl rfl)) (pgs_cons (pg_name (i := 5) sc_law.nd rfl (Or.inr rfl)) pgs_nil))))
        (pss_cons (ps_lock (ps_setLc (i := 6) (own := [("_law_title", 8)]) (g := gName 8) (tt := tYes) rfl sc_law.nd rfl rfl (sw_true rfl rfl rfl (by decide +kernel)) (pi_keys (pv 5)) (blkOk_by (N := N_law) (sc := defScope s_law) (by decide +kernel)) (fun _ _ _ _ _ => pg_name (i := 8) sc_law.nd rfl (Or.inl rfl)) (fun _ _ _ _ _ => pts_nil) (fun _ _ _ _ _ => pe_tup (pa_cons (pv 8) (pa_cons (pe_callTy (clList (K := K)) (by rfl) T.list (by decide +kernel) (pa_cons (pe_dget hu (pv 5) (pv 8) (fun _ _ => rfl)) pa_nil)) pa_nil)))))
        (pss_cons (ps_set (i := 7) sc_law.nd rfl (Or.inl rfl) (pe_dnewK))
        (pss_cons (ps_for PassesOwn.never rfl (piL (K := K) (pv 4)) (pg_name (i := 8) sc_law.nd rfl (Or.inl rfl))
          (pss_one (ps_if (pt_not (pt_val (pe_def G__law_told_right (hr.mono (by decide)) (by rfl) (pa_cons (pv 5) (pa_cons (pv 8) (pa_cons (pe_def G__law_order (hr.mono (by decide)) (by rfl) (pa_cons (pe_callTy (clDictP (K := K)) (by rfl) T.dict (by decide +kernel) (pa_cons (pv 6) pa_nil)) (pa_cons (pv 8) (pa_cons (pv 7) pa_nil)))) pa_nil))))))
            (pss_one (ps_ret (pe_bl)))
            (pss_nil))))
        (pss_one (ps_if (pt_cmpR (opNeD (K := K) hr.units) (LiI.pe_listItems rfl (pv 5) (by rfl) T.list (by decide +kernel)) (pv 6) (nomark _))
          (pss_one (ps_ret (pe_bl)))
          (pss_nil)))))))))
      (pss_one (ps_ret (pe_bl))), ?_⟩
    have hcut := el_sl (K := K) (ev_var (σ := [some (V.ref a), none, none, none, none, none, none, none, none]) (i := 0) rfl) eo_none (eo_some (i := ((6 : Nat) : Int)) ev_c) hS
    rw [cut_cells] at hcut
    refine q_forEN (K := K) (xs := (ns.take 6 ++ [(ns.length : Int)]).map V.int) ?_ (fun pc i σ' H' => (∃ v1 v2 v3 v4 v5 v6 v7 v8, σ' = [some (.ref a), v1, v2, v3, v4, v5, v6, v7, v8]) ∧ H' pc = some (.lst ((ns.take 6 ++ [(ns.length : Int)]).map V.int))) ?_ ?_ ?_ ?_
    · rw [List.map_append]
      exact el_cat2 hcut (el_lst (ea_cons (ev_is (ev_len (K := K) (ev_var rfl) hS) (by rw [List.length_map])) ea_nil) (by simp)) (by simp; omega)
    · intro pc H1 np e1 at1
      exact ⟨⟨_, _, _, _, _, _, _, _, rfl⟩, at1⟩
    · rintro pc i σ' H' _ ⟨_, h⟩
      exact sq_of h
    · rintro pc i x σ' H1 Tt hi ⟨⟨v1, v2, v3, v4, v5, v6, v7, v8, rfl⟩, atp1⟩ nT
      obtain ⟨c, rfl⟩ : ∃ c, x = V.int c := by
        rw [List.getElem?_map] at hi
        cases q : (ns.take 6 ++ [(ns.length : Int)])[i]? with
        | none => rw [q] at hi; cases hi
        | some c => rw [q] at hi; exact ⟨c, (Option.some.inj hi).symm⟩
      generalize hcs : (ns.take 6 ++ [(ns.length : Int)]).map V.int = cs at atp1
      have eT : Ex H1 (upd H1 Tt (.tup [.int (i : Nat), .int c])) := Ex.new nT
      show tSeq _ _ _ _ _
      generalize upd H1 Tt (.tup [V.int (i : Nat), V.int c]) = H2 at eT
      -- tap
      refine q_callA (ea_cons (ev_op (ev_var rfl) (ev_var rfl) rv_I0) ea_nil) fun H3 e3 => ⟨_, rfl, fun tp H4 ntp e4 t4 => ?_⟩
      have atp4 := (eT.trans (e3.trans e4)) _ _ atp1
      have hpt : pc ≠ tp := fun z => by rw [← z, (eT.trans e3) _ _ atp1] at ntp; cases ntp
      clear atp1 eT e3 ntp e4 nT
      -- titles, elders
      refine asg_raw ⟨_, rfl, ?_⟩
      refine dr_op (tp := tp) (P := fun v => ∃ n : Nat, 1 ≤ n ∧ n ≤ 12 ∧ v = .int (n : Int)) dr_c (dr_draw 12 (by decide) rfl hide_at (dr_opL (xs := [.int 6, .int 12]) (P2 := fun v => ∃ r : Int, v = .int r ∧ 0 ≤ r ∧ r < 2) hide_at (el_lst (ea_cons ev_c (ea_cons ev_c ea_nil)) (by simp)) (fun B' _ nB' => dr_draw 2 (by decide) rfl nB' (dr_c.imp fun v hv => ⟨2, hv, by decide, by decide⟩)) ?_)) ?_ H4 hide_ex t4 _ ?_
      · rintro p y B' _ hp ⟨r, rfl, r0, r1⟩
        have : r = 0 ∨ r = 1 := by omega
        rcases this with rfl | rfl
        · exact ⟨_, ⟨6, rfl, by decide, by decide⟩, ixAt (K := K) (j := 0) hp rfl rfl⟩
        · exact ⟨_, ⟨12, rfl, by decide, by decide⟩, ixAt (K := K) (j := 1) hp rfl rfl⟩
      · rintro x y rfl ⟨r, rfl, r0, r1⟩
        exact ⟨_, ⟨(1 + r).toNat, by omega, by omega, by congr 1; omega⟩, rv_I0⟩
      rintro v H5 e5 t5 ⟨n, hn1, hn12, rfl⟩
      refine ⟨tp, n, 4, rfl, t5, hn12, by decide, by decide, fun ts es kvs tu ti ed H6 hlen nm g nti ned attu ati atd e6 t6 => ?_⟩
      refine ⟨tu, _, rfl, st_of attu, rfl, _, _, rfl, _, _, rfl, rfl, ?_⟩
      have e46 : Ex (hide tp H4) H6 := (ex_hide e5 hide_at).trans e6
      have atp6 := e46 _ _ (hide_get atp4 hpt)
      have hok : Oks ts := fun x hx => (nm x hx).ok
      have hEld := g.eld (K := K)
      have hefz := g.efz
      have S := g.sch
      obtain ⟨ks, hks, hperm⟩ := g.keyL
      have hkl : ks.length ≤ 12 := by rw [hperm.length_eq]; omega
      have hknd : ks.Nodup := hperm.nodup_iff.mpr S.nd
      have hkvl : kvs.length = ks.length := by
        have := congrArg List.length hks
        simpa using this
      clear e46 e6 e5 t5 attu nti ned atp4 t4
      show tSeq _ _ _ _ _
      -- kept
      refine q_lock atd trivial fun od => s_raw ⟨_, rfl, ed, od, rfl, .inl ⟨kvs, upd_same, fun kl nkl => ?_⟩⟩
      have atf : upd H6 ed (.frz od (.dK kvs)) ed = some (.frz od (.dK kvs)) := upd_same
      have eHf : ∀ b o, b ≠ ed → H6 b = some o → upd H6 ed (.frz od (.dK kvs)) b = some o := fun b o hb h => by rw [upd_ne hb]; exact h
      generalize upd H6 ed (.frz od (.dK kvs)) = Hf at atf eHf nkl
      have hEf : Eld K Hf kvs (EM.EF ts es) ts := ⟨fun x hx => by
        obtain ⟨p, h1, h2⟩ := hEld.at_ x hx
        exact ⟨p, h1, eHf p _ (ne_of h2 atd (by intro z; cases z)) h2⟩, hEld.sub⟩
      refine lc_keys (fun i H' => ∃ as : List (Addr × Addr), as.length = i ∧ Ex Hf H' ∧ H' kl = some (.lst (as.map fun a => V.ref a.1)) ∧ ∀ (n : Nat) Tt q, as[n]? = some (Tt, q) → ∃ x, ks[n]? = some x ∧ Tt ≠ kl ∧ q ≠ kl ∧ Tt ≠ ed ∧ q ≠ ed ∧ H' Tt = some (.tup [.str x, .ref q]) ∧ H' q = some (.lst ((EM.EF ts es x).map V.str))) ?_ ?_ ?_ ?_
      · exact ⟨[], rfl, Ex.new nkl, upd_same, fun n Tt q h => by simp at h⟩
      · rintro j H' _ ⟨as, _, e, _⟩
        exact e _ _ atf
      · rintro j kx vx H7 hj ⟨as, hal, e7, atk, hat⟩
        have hkx : ks[j]? = some (getR kx) ∧ kx = Sum.inr (getR kx) := by
          have h1 : (kvs.map (·.1))[j]? = some kx := by rw [List.getElem?_map, hj]; rfl
          rw [hks, List.getElem?_map] at h1
          cases hy : ks[j]? with
          | none => rw [hy] at h1; cases h1
          | some y =>
            rw [hy] at h1
            cases h1
            exact ⟨rfl, rfl⟩
        obtain ⟨hx, hkx⟩ := hkx
        generalize getR kx = x at hx hkx
        subst hkx
        have hxt : x ∈ ts := hperm.mem_iff.mp (List.mem_of_getElem? hx)
        have hj12 : j < ks.length := (List.getElem?_eq_some_iff.mp hx).1
        obtain ⟨p, hpv, hp⟩ := (hEf.mono e7).at_ x hxt
        refine ⟨rfl, yes_raw ⟨_, rfl, ?_⟩⟩
        refine el_list (K := K) (ev_dget (k := Sum.inr x) (td := tVar 5) (ty := tVar 8) (ev_var rfl) (ev_var rfl) (.inr ⟨od, e7 _ _ atf⟩) hpv) (sq_of hp) H7 (Ex.refl H7) _ fun q H8 nq e8 at8 => ?_
        refine ⟨by simp [sizeLine], fun Tu nT => ?_⟩
        have e9 : Ex H8 (upd H8 Tu (.tup [kV (Sum.inr x), .ref q])) := Ex.new nT
        have at9 : upd H8 Tu (.tup [kV (Sum.inr x), .ref q]) Tu = some (.tup [.str x, .ref q]) := upd_same
        show ∃ acc, _
        generalize upd H8 Tu (.tup [kV (Sum.inr x), .ref q]) = H9 at e9 at9
        have e79 := e8.trans e9
        have nT7 : H7 Tu = none := fresh_back e8 nT
        have hTk : Tu ≠ kl := fun z => by rw [z, atk] at nT7; cases nT7
        have hqk : q ≠ kl := fun z => by rw [z, atk] at nq; cases nq
        have hTe : Tu ≠ ed := fun z => by rw [z, e7 _ _ atf] at nT7; cases nT7
        have hqe : q ≠ ed := fun z => by rw [z, e7 _ _ atf] at nq; cases nq
        refine ⟨as.map fun a => V.ref a.1, e79 _ _ atk, by rw [List.length_map]; exact sz_lt (by omega), as ++ [(Tu, q)], by simp [hal], Ex.mut (e7.trans e79) nkl, ?_, fun m T' q' hm => ?_⟩
        · rw [upd_same, List.map_append]
          rfl
        · by_cases hlt : m < as.length
          · rw [List.getElem?_append_left hlt] at hm
            obtain ⟨y, h1, h2, h3, h4, h5, h6, h7⟩ := hat m T' q' hm
            exact ⟨y, h1, h2, h3, h4, h5, by rw [upd_ne h2]; exact e79 _ _ h6, by rw [upd_ne h3]; exact e79 _ _ h7⟩
          · have hmi : m = as.length := by
              have := (List.getElem?_eq_some_iff.mp hm).1
              simp at this
              omega
            subst hmi
            rw [List.getElem?_append_right (Nat.le_refl _), Nat.sub_self] at hm
            cases hm
            exact ⟨x, by rw [hal]; exact hx, hTk, hqk, hTe, hqe, by rw [upd_ne hTk]; exact at9, by rw [upd_ne hqk]; exact e9 _ _ at8⟩
      · rintro H7 ⟨as, hal, e7, atk, hat⟩
        refine ⟨e7 _ _ atf, ?_⟩
        have e68 : Ex H6 (upd H7 ed (.dK kvs)) := fun b o hb => by
          by_cases hbe : b = ed
          · subst hbe
            rw [atd] at hb
            cases hb
            exact upd_same
          · rw [upd_ne hbe]
            exact e7 _ _ (eHf b o hbe hb)
        have hkle : kl ≠ ed := fun z => by rw [z, atf] at nkl; cases nkl
        have hK8 : Kept (upd H7 ed (.dK kvs)) kl ks (EM.EF ts es) as := ⟨by rw [hal, hkvl], by rw [upd_ne hkle]; exact atk, fun m T' q' x h1 h2 => by
          obtain ⟨y, h3, _, _, h4, h5, h6, h7⟩ := hat m T' q' h1
          rw [h2] at h3
          cases h3
          exact ⟨by rw [upd_ne h4]; exact h6, by rw [upd_ne h5]; exact h7⟩⟩
        show tSeq _ _ _ _ _
        generalize upd H7 ed (.dK kvs) = H8 at e68 hK8
        have atp8 := e68 _ _ atp6
        have ati8 := e68 _ _ ati
        have atd8 := e68 _ _ atd
        have hEld8 := hEld.mono e68
        clear atf eHf hEf hat atk e7 nkl hal H7 Hf atp6 ati atd hEld e68
        -- known = {}
        refine fun kd nkd => ?_
        have e9 : Ex H8 (upd H8 kd (.dK [])) := Ex.new nkd
        have at9 : upd H8 kd (.dK []) kd = some (.dK []) := upd_same
        show tSeq _ _ _ _ _
        generalize upd H8 kd (.dK []) = H9 at e9 at9
        have hedk : ed ≠ kd := fun z => by rw [← z, atd8] at nkd; cases nkd
        have eB : Ex H8 (hide kd H9) := ex_hide e9 nkd
        refine q_forLn (K := K) (ev_var rfl) (sq_of (e9 _ _ ati8)) (fun j σ' H' => ∃ kk v1 v2 v8, σ' = [some (.ref a), v1, v2, some (.ref tp), some (.ref ti), some (.ref ed), some (.ref kl), some (.ref kd), v8] ∧ Ex (hide kd H9) H' ∧ H' kd = some (.dK kk) ∧ Kno H' ts es kk) ?_ ?_ ?_ ?_
        · intro H10 e10
          exact ⟨[], _, _, _, rfl, hide_ex.trans e10, e10 _ _ at9, ⟨[], rfl, List.nodup_nil, fun x hx => nomatch hx⟩, fun x v h => by cases h⟩
        · rintro j σ' H10 _ ⟨_, _, _, _, rfl, e10, _⟩
          exact sq_of (e10 _ _ (eB _ _ ati8))
        · rintro j x σ' H10 hj ⟨kk, v1', v2', v8', rfl, e10, hk10, g10⟩
          rw [List.getElem?_map] at hj
          cases hx : ts[j]? with
          | none => rw [hx] at hj; cases hj
          | some x =>
            rw [hx] at hj
            cases hj
            have hxt := List.mem_of_getElem? hx
            have e810 : Ex H8 H10 := eB.trans e10
            have hK10 := hK8.mono e810
            have hkeys : ((ks.zip as).map fun y => ((Sum.inr y.1 : Key), V.ref y.2.2)).map (·.1) = ks.map Sum.inr := by
              have h1 : (ks.zip as).map (·.1) = ks := List.map_fst_zip (by rw [hK10.len]; exact Nat.le_refl _)
              conv => rhs; rw [← h1]
              rw [List.map_map, List.map_map]
              rfl
            have hkn2 : (((ks.zip as).map fun y => ((Sum.inr y.1 : Key), V.ref y.2.2)).map (·.1)).Nodup := by
              rw [hkeys]
              exact EX.nodup_map_on (fun a _ b _ h => Sum.inr.inj h) hknd
            have hkv : ∀ (m : Nat) y q, ks[m]? = some y → as[m]? = some q → ((ks.zip as).map fun y => ((Sum.inr y.1 : Key), V.ref y.2.2))[m]? = some (Sum.inr y, .ref q.2) := fun m y q h1 h2 => by
              rw [List.getElem?_map, List.getElem?_zip_eq_some (z := (y, q)) |>.mpr ⟨h1, h2⟩]
              rfl
            have hkz : ((ks.zip as).map fun y => ((Sum.inr y.1 : Key), V.ref y.2.2)).length = ks.length := by rw [List.length_map, List.length_zip, hK10.len]; omega
            generalize (ks.zip as).map (fun y => ((Sum.inr y.1 : Key), V.ref y.2.2)) = kv2 at hkeys hkn2 hkv hkz
            refine ifn_raw ⟨_, rfl, _, rfl, ⟨_, rfl, kl, as.map (·.1), kv2, rfl, sq_of (by rw [List.map_map]; exact hK10.lst), paired_of (by rw [List.length_map, hkz, hK10.len]) fun m p kv h1 h2 => ?_, fun d2 nd2 => ?_⟩⟩
            · rw [List.getElem?_map] at h1
              cases ha : as[m]? with
              | none => rw [ha] at h1; cases h1
              | some q =>
                rw [ha] at h1
                cases h1
                have hml : m < ks.length := by rw [← hK10.len]; exact (List.getElem?_eq_some_iff.mp ha).1
                have hy : ks[m]? = some ks[m] := List.getElem?_eq_getElem hml
                rw [hkv m _ q hy ha] at h2
                cases h2
                exact st_of (hK10.at_ m q.1 q.2 _ ha hy).1
            · rw [mergeK_new _ [] (by simpa using hkn2), List.nil_append]
              have e11 : Ex H10 (upd H10 d2 (.dK kv2)) := Ex.new nd2
              have at11 : upd H10 d2 (.dK kv2) d2 = some (.dK kv2) := upd_same
              generalize upd H10 d2 (.dK kv2) = H11 at e11 at11
              have hd2k : d2 ≠ kd := fun z => by rw [z, hk10] at nd2; cases nd2
              have hrk := EM.rk_mem_lt hxt
              refine ⟨_, rfl, _, rfl, d2, x, kd, kv2, kk, ts, es, rfl, by omega, at11, ⟨fun y hy => ?_, fun y _ => EM.EF_sub S y⟩, S, hxt, by omega, hok, hefz, hd2k, e11 _ _ hk10, g10.mono e11, fun v kk' H12 hv hk12 g12 e12 => ?_⟩
              · obtain ⟨m, hm, em⟩ := List.getElem_of_mem (hperm.mem_iff.mpr hy)
                have hmy : ks[m]? = some y := by rw [List.getElem?_eq_getElem hm, em]
                obtain ⟨q, hma⟩ : ∃ q, as[m]? = some q := ⟨_, List.getElem?_eq_getElem (by rw [hK10.len]; exact hm)⟩
                exact ⟨q.2, valV_at hkn2 (hkv m y _ hmy hma), e11 _ _ (hK10.at_ m q.1 q.2 y hma hmy).2⟩
              · have e912 : Ex (hide kd H9) H12 := (ex_hide (e10.trans e11) hide_at).trans e12
                have e812 : Ex H8 H12 := eB.trans e912
                refine ⟨ed, x, v, kvs, ts, es, rfl, e812 _ _ atd8, hEld8.mono e812, S, hxt, by omega, hok, hefz, hv, fun H13 e13 => ⟨true, rfl, iteN ⟨kk', _, _, _, rfl, e912.trans e13, e13 _ _ hk12, g12.mono e13⟩⟩⟩
        · rintro σ' H10 ⟨kk, v1', v2', v8', rfl, e10, hk10, g10⟩
          have e810 : Ex H8 H10 := eB.trans e10
          -- if list(elders.items()) != kept
          refine if_raw (op_raw ⟨_, rfl, ed, kvs, rfl, e810 _ _ atd8, fun H11 p tsA ex np _ _ atp11 hpair => ?_⟩)
          have e11 : Ex H10 H11 := fun b o h => ex b o h
          have e811 := e810.trans e11
          have hK11 := hK8.mono e811
          have hoks : Oks ks := fun y hy => hok y (hperm.mem_iff.mp hy)
          have hokE : ∀ y ∈ ks, Oks (EM.EF ts es y) := fun y _ z hz => hok z (EM.EF_sub S y z hz)
          have hpl : tsA.length = kvs.length := hpair.length
          refine ⟨_, rfl, dP (EM.EF ts es) ks, dP (EM.EF ts es) ks, .lst (sq_of atp11) (dp_pairs (by omega) fun m Tu y h1 h2 => ?_), .lst (sq_of hK11.lst) (by
            rw [show (as.map fun a => V.ref a.1) = (as.map (·.1)).map V.ref by rw [List.map_map]; rfl]
            refine dp_pairs (by rw [List.length_map, hK11.len]) fun m Tu y h1 h2 => ?_
            rw [List.getElem?_map] at h1
            cases ha : as[m]? with
            | none => rw [ha] at h1; cases h1
            | some q =>
              rw [ha] at h1
              cases h1
              exact ⟨q.2, hK11.at_ m q.1 q.2 y ha h2⟩), shaped_dP hoks hokE, shaped_dP hoks hokE, false, by rw [eqv_dP]; rfl, iteF' ⟨⟨_, _, _, _, _, _, _, _, rfl⟩, e811 _ _ atp8⟩⟩
          obtain ⟨kvm, h3, h4⟩ := LiI.paired_get hpair h1
          have hyk : kvm.1 = Sum.inr y := by
            have h5 : (kvs.map (·.1))[m]? = some kvm.1 := by rw [List.getElem?_map, h3]; rfl
            rw [hks, List.getElem?_map, h2] at h5
            exact (Option.some.inj h5).symm
          obtain ⟨q, hqv, hq⟩ := (hEld8.mono e811).at_ y (hperm.mem_iff.mp (List.mem_of_getElem? h2))
          have hvy : valV kvs (Sum.inr y) = some kvm.2 := valV_at (by rw [hks]; exact EX.nodup_map_on (fun a _ b _ h => Sum.inr.inj h) hknd) (by rw [h3, ← hyk])
          rw [hqv] at hvy
          have hvq := Option.some.inj hvy
          rw [hyk, ← hvq] at h4
          exact ⟨q, h4, hq⟩
    · rintro pc σ' H1 ⟨⟨v1, v2, v3, v4, v5, v6, v7, v8, rfl⟩, _⟩
      exact s_ret ev_c fun H2 _ => k H2
end
end K

set_option Elab.async false
set_option linter.all false
set_option maxRecDepth 100000
namespace K
open PySem L2 Evl EX
section
theorem all_mk {l : PySem.W.OpenLaw} {w : World} {K : PySem.W.Frag} {h : Heap} {mg : Str → Option Value} {fa : Addr} (X : K.In h) (G : h.Ns mainGlobals mg) (hfa : mg "law" = some (.ref fa))
    {f1 : Addr} {od1 an1 : Option Addr} {sl1 : Array (Option Value)} {oc1 kV1 dc1 pm1 cd1 ct1 : Value}
    {f2 : Addr} {od2 an2 : Option Addr} {sl2 : Array (Option Value)} {oc2 kV2 dc2 pm2 cd2 ct2 : Value}
    {f3 : Addr} {od3 an3 : Option Addr} {sl3 : Array (Option Value)} {oc3 kV3 dc3 pm3 cd3 ct3 : Value}
    {f4 : Addr} {od4 an4 : Option Addr} {sl4 : Array (Option Value)} {oc4 kV4 dc4 pm4 cd4 ct4 : Value}
    {f5 : Addr} {od5 an5 : Option Addr} {sl5 : Array (Option Value)} {oc5 kV5 dc5 pm5 cd5 ct5 : Value}
    {f6 : Addr} {od6 an6 : Option Addr} {sl6 : Array (Option Value)} {oc6 kV6 dc6 pm6 cd6 ct6 : Value}
    {f7 : Addr} {od7 an7 : Option Addr} {sl7 : Array (Option Value)} {oc7 kV7 dc7 pm7 cd7 ct7 : Value}
    {f8 : Addr} {od8 an8 : Option Addr} {sl8 : Array (Option Value)} {oc8 kV8 dc8 pm8 cd8 ct8 : Value}
    {f9 : Addr} {od9 an9 : Option Addr} {sl9 : Array (Option Value)} {oc9 kV9 dc9 pm9 cd9 ct9 : Value}
    {f10 : Addr} {od10 an10 : Option Addr} {sl10 : Array (Option Value)} {oc10 kV10 dc10 pm10 cd10 ct10 : Value}
    {f11 : Addr} {od11 an11 : Option Addr} {sl11 : Array (Option Value)} {oc11 kV11 dc11 pm11 cd11 ct11 : Value}
    {f12 : Addr} {od12 an12 : Option Addr} {sl12 : Array (Option Value)} {oc12 kV12 dc12 pm12 cd12 ct12 : Value}
    {f13 : Addr} {od13 an13 : Option Addr} {sl13 : Array (Option Value)} {oc13 kV13 dc13 pm13 cd13 ct13 : Value}
    {f14 : Addr} {od14 an14 : Option Addr} {sl14 : Array (Option Value)} {oc14 kV14 dc14 pm14 cd14 ct14 : Value}
    (a1 : PySem.W.nsIn K mainGlobals "next_title" = some (some (.ref f1))) (l1 : K.lookup f1 = some ⟨oc1, od1, .func (PySem.W.fnOf "next_title" "next_title" (defArgs s_next_title) (defBody s_next_title) (defScope s_next_title) .none kV1 dc1 pm1 an1 cd1 ct1), sl1⟩) (c1 : PySem.W.codeIn K cd1 "next_title" = true) (k1 : PySem.W.keepIn K (.ref f1) = true)
    (a2 : PySem.W.nsIn K mainGlobals "merged" = some (some (.ref f2))) (l2 : K.lookup f2 = some ⟨oc2, od2, .func (PySem.W.fnOf "merged" "merged" (defArgs s_merged) (defBody s_merged) (defScope s_merged) .none kV2 dc2 pm2 an2 cd2 ct2), sl2⟩) (c2 : PySem.W.codeIn K cd2 "merged" = true) (k2 : PySem.W.keepIn K (.ref f2) = true)
    (a3 : PySem.W.nsIn K mainGlobals "order_by" = some (some (.ref f3))) (l3 : K.lookup f3 = some ⟨oc3, od3, .func (PySem.W.fnOf "order_by" "order_by" (defArgs s_order_by) (defBody s_order_by) (defScope s_order_by) .none kV3 dc3 pm3 an3 cd3 ct3), sl3⟩) (c3 : PySem.W.codeIn K cd3 "order_by" = true) (k3 : PySem.W.keepIn K (.ref f3) = true)
    (a4 : PySem.W.nsIn K mainGlobals "order_of" = some (some (.ref f4))) (l4 : K.lookup f4 = some ⟨oc4, od4, .func (PySem.W.fnOf "order_of" "order_of" (defArgs s_order_of) (defBody s_order_of) (defScope s_order_of) .none kV4 dc4 pm4 an4 cd4 ct4), sl4⟩) (c4 : PySem.W.codeIn K cd4 "order_of" = true) (k4 : PySem.W.keepIn K (.ref f4) = true)
    (a5 : PySem.W.nsIn K mainGlobals "_law_mixed" = some (some (.ref f5))) (l5 : K.lookup f5 = some ⟨oc5, od5, .func (PySem.W.fnOf "_law_mixed" "_law_mixed" (defArgs s__law_mixed) (defBody s__law_mixed) (defScope s__law_mixed) .none kV5 dc5 pm5 an5 cd5 ct5), sl5⟩) (c5 : PySem.W.codeIn K cd5 "_law_mixed" = true) (k5 : PySem.W.keepIn K (.ref f5) = true)
    (a6 : PySem.W.nsIn K mainGlobals "_law_tap" = some (some (.ref f6))) (l6 : K.lookup f6 = some ⟨oc6, od6, .func (PySem.W.fnOf "_law_tap" "_law_tap" (defArgs s__law_tap) (defBody s__law_tap) (defScope s__law_tap) .none kV6 dc6 pm6 an6 cd6 ct6), sl6⟩) (c6 : PySem.W.codeIn K cd6 "_law_tap" = true) (k6 : PySem.W.keepIn K (.ref f6) = true)
    (a7 : PySem.W.nsIn K mainGlobals "_law_next" = some (some (.ref f7))) (l7 : K.lookup f7 = some ⟨oc7, od7, .func (PySem.W.fnOf "_law_next" "_law_next" (defArgs s__law_next) (defBody s__law_next) (defScope s__law_next) .none kV7 dc7 pm7 an7 cd7 ct7), sl7⟩) (c7 : PySem.W.codeIn K cd7 "_law_next" = true) (k7 : PySem.W.keepIn K (.ref f7) = true)
    (a8 : PySem.W.nsIn K mainGlobals "_law_menu" = some (some (.ref f8))) (l8 : K.lookup f8 = some ⟨oc8, od8, .func (PySem.W.fnOf "_law_menu" "_law_menu" (defArgs s__law_menu) (defBody s__law_menu) (defScope s__law_menu) .none kV8 dc8 pm8 an8 cd8 ct8), sl8⟩) (c8 : PySem.W.codeIn K cd8 "_law_menu" = true) (k8 : PySem.W.keepIn K (.ref f8) = true)
    (a9 : PySem.W.nsIn K mainGlobals "_law_elders" = some (some (.ref f9))) (l9 : K.lookup f9 = some ⟨oc9, od9, .func (PySem.W.fnOf "_law_elders" "_law_elders" (defArgs s__law_elders) (defBody s__law_elders) (defScope s__law_elders) .none kV9 dc9 pm9 an9 cd9 ct9), sl9⟩) (c9 : PySem.W.codeIn K cd9 "_law_elders" = true) (k9 : PySem.W.keepIn K (.ref f9) = true)
    (a10 : PySem.W.nsIn K mainGlobals "_law_head" = some (some (.ref f10))) (l10 : K.lookup f10 = some ⟨oc10, od10, .func (PySem.W.fnOf "_law_head" "_law_head" (defArgs s__law_head) (defBody s__law_head) (defScope s__law_head) .none kV10 dc10 pm10 an10 cd10 ct10), sl10⟩) (c10 : PySem.W.codeIn K cd10 "_law_head" = true) (k10 : PySem.W.keepIn K (.ref f10) = true)
    (a11 : PySem.W.nsIn K mainGlobals "_law_laid" = some (some (.ref f11))) (l11 : K.lookup f11 = some ⟨oc11, od11, .func (PySem.W.fnOf "_law_laid" "_law_laid" (defArgs s__law_laid) (defBody s__law_laid) (defScope s__law_laid) .none kV11 dc11 pm11 an11 cd11 ct11), sl11⟩) (c11 : PySem.W.codeIn K cd11 "_law_laid" = true) (k11 : PySem.W.keepIn K (.ref f11) = true)
    (a12 : PySem.W.nsIn K mainGlobals "_law_order" = some (some (.ref f12))) (l12 : K.lookup f12 = some ⟨oc12, od12, .func (PySem.W.fnOf "_law_order" "_law_order" (defArgs s__law_order) (defBody s__law_order) (defScope s__law_order) .none kV12 dc12 pm12 an12 cd12 ct12), sl12⟩) (c12 : PySem.W.codeIn K cd12 "_law_order" = true) (k12 : PySem.W.keepIn K (.ref f12) = true)
    (a13 : PySem.W.nsIn K mainGlobals "_law_told_right" = some (some (.ref f13))) (l13 : K.lookup f13 = some ⟨oc13, od13, .func (PySem.W.fnOf "_law_told_right" "_law_told_right" (defArgs s__law_told_right) (defBody s__law_told_right) (defScope s__law_told_right) .none kV13 dc13 pm13 an13 cd13 ct13), sl13⟩) (c13 : PySem.W.codeIn K cd13 "_law_told_right" = true) (k13 : PySem.W.keepIn K (.ref f13) = true)
    (a14 : PySem.W.nsIn K mainGlobals "law" = some (some (.ref f14))) (l14 : K.lookup f14 = some ⟨oc14, od14, .func (PySem.W.fnOf "law" "law" (defArgs s_law) (defBody s_law) (defScope s_law) .none kV14 dc14 pm14 an14 cd14 ct14), sl14⟩) (c14 : PySem.W.codeIn K cd14 "law" = true) (k14 : PySem.W.keepIn K (.ref f14) = true)
    (z1 : PySem.W.nsIn K mainGlobals "any" = some none)
    (z2 : PySem.W.nsIn K mainGlobals "len" = some none)
    (z3 : PySem.W.nsIn K mainGlobals "list" = some none)
    (z4 : PySem.W.nsIn K mainGlobals "set" = some none)
    (z5 : PySem.W.nsIn K mainGlobals "abs" = some none)
    (z6 : PySem.W.nsIn K mainGlobals "int" = some none)
    (z7 : PySem.W.nsIn K mainGlobals "range" = some none)
    (z8 : PySem.W.nsIn K mainGlobals "reversed" = some none)
    (z9 : PySem.W.nsIn K mainGlobals "enumerate" = some none)
    (z10 : PySem.W.nsIn K mainGlobals "dict" = some none)
    (z11 : PySem.W.nsIn K mainGlobals "max" = some none)
    (z12 : PySem.W.nsIn K mainGlobals "min" = some none)
    (z13 : PySem.W.nsIn K mainGlobals "str" = some none)
    (z14 : PySem.W.nsIn K mainGlobals "isinstance" = some none)
    (z15 : PySem.W.nsIn K mainGlobals "sorted" = some none)
    (z16 : PySem.W.nsIn K mainGlobals "all" = some none)
    (z17 : PySem.W.nsIn K mainGlobals "tuple" = some none)
    (z18 : PySem.W.nsIn K mainGlobals "bool" = some none) :
    ∃ fd : FuncData, (∀ (s : Shared) (v : Value), BindsTo s fd ⟨[v], []⟩ [("_law_script", v)]) ∧ ∀ base : Heap, K.In base → base.Ns mainGlobals mg → FnOk l.prog w K mg base CX0 17 fa fd ["_law_script"] (spLaw K) := by
  have e := hfa.symm.trans (PySem.W.mg_of X G a14)
  cases e
  have T : Txt mg := ⟨PySem.W.mg_none_of X G z1, PySem.W.mg_none_of X G z2, PySem.W.mg_none_of X G z3, PySem.W.mg_none_of X G z4, PySem.W.mg_none_of X G z5, PySem.W.mg_none_of X G z6, PySem.W.mg_none_of X G z7, PySem.W.mg_none_of X G z8, PySem.W.mg_none_of X G z9, PySem.W.mg_none_of X G z10, PySem.W.mg_none_of X G z11, PySem.W.mg_none_of X G z12, PySem.W.mg_none_of X G z13, PySem.W.mg_none_of X G z14, PySem.W.mg_none_of X G z15, PySem.W.mg_none_of X G z16, PySem.W.mg_none_of X G z17, PySem.W.mg_none_of X G z18⟩
  have F1 := fun_mk (st := s_next_title) l1 c1 k1
  have b1 := F1.binds (ps := ["lists"]) fun _ _ _ _ _ _ us hl => match us, hl with | [_], _ => rfl
  have F2 := fun_mk (st := s_merged) l2 c2 k2
  have b2 := F2.binds (ps := ["lists"]) fun _ _ _ _ _ _ us hl => match us, hl with | [_], _ => rfl
  have F3 := fun_mk (st := s_order_by) l3 c3 k3
  have b3 := F3.binds (ps := ["title", "elders", "orders"]) fun _ _ _ _ _ _ us hl => match us, hl with | [_, _, _], _ => rfl
  have F4 := fun_mk (st := s_order_of) l4 c4 k4
  have b4 := F4.binds (ps := ["elders", "title"]) fun _ _ _ _ _ _ us hl => match us, hl with | [_, _], _ => rfl
  have F5 := fun_mk (st := s__law_mixed) l5 c5 k5
  have b5 := F5.binds (ps := ["_law_number", "_law_k"]) fun _ _ _ _ _ _ us hl => match us, hl with | [_, _], _ => rfl
  have F6 := fun_mk (st := s__law_tap) l6 c6 k6
  have b6 := F6.binds (ps := ["_law_cell"]) fun _ _ _ _ _ _ us hl => match us, hl with | [_], _ => rfl
  have F7 := fun_mk (st := s__law_next) l7 c7 k7
  have b7 := F7.binds (ps := ["_law_tap_here", "_law_size"]) fun _ _ _ _ _ _ us hl => match us, hl with | [_, _], _ => rfl
  have F8 := fun_mk (st := s__law_menu) l8 c8 k8
  have b8 := F8.binds (ps := ["_law_tap_here", "_law_many"]) fun _ _ _ _ _ _ us hl => match us, hl with | [_, _], _ => rfl
  have F9 := fun_mk (st := s__law_elders) l9 c9 k9
  have b9 := F9.binds (ps := ["_law_tap_here", "_law_many", "_law_wild"]) fun _ _ _ _ _ _ us hl => match us, hl with | [_, _, _], _ => rfl
  have F10 := fun_mk (st := s__law_head) l10 c10 k10
  have b10 := F10.binds (ps := ["_law_rows", "_law_at"]) fun _ _ _ _ _ _ us hl => match us, hl with | [_, _], _ => rfl
  have F11 := fun_mk (st := s__law_laid) l11 c11 k11
  have b11 := F11.binds (ps := ["_law_title", "_law_rows"]) fun _ _ _ _ _ _ us hl => match us, hl with | [_, _], _ => rfl
  have F12 := fun_mk (st := s__law_order) l12 c12 k12
  have b12 := F12.binds (ps := ["_law_elders_here", "_law_title", "_law_known"]) fun _ _ _ _ _ _ us hl => match us, hl with | [_, _, _], _ => rfl
  have F13 := fun_mk (st := s__law_told_right) l13 c13 k13
  have b13 := F13.binds (ps := ["_law_elders_here", "_law_title", "_law_due"]) fun _ _ _ _ _ _ us hl => match us, hl with | [_, _, _], _ => rfl
  have F14 := fun_mk (st := s_law) l14 c14 k14
  refine ⟨PySem.W.fnOf "law" "law" (defArgs s_law) (defBody s_law) (defScope s_law) .none kV14 dc14 pm14 an14 cd14 ct14, fun s v => .of_eq rfl, fun base _ _ => ?_⟩
  have G_next_title : Def l.prog w K mg base _ "next_title" ["lists"] _ := ⟨f1, _, ok_next F1 T, PySem.W.mg_of X G a1, k1, b1⟩
  have G_merged : Def l.prog w K mg base _ "merged" ["lists"] _ := ⟨f2, _, ok_merged F2 T G_next_title, PySem.W.mg_of X G a2, k2, b2⟩
  have G_order_by : Def l.prog w K mg base _ "order_by" ["title", "elders", "orders"] _ := ⟨f3, _, ok_order_by F3 T G_merged, PySem.W.mg_of X G a3, k3, b3⟩
  have G_order_of : Def l.prog w K mg base _ "order_of" ["elders", "title"] _ := ⟨f4, _, ok_order_of F4 T G_order_by, PySem.W.mg_of X G a4, k4, b4⟩
  have G__law_mixed : Def l.prog w K mg base _ "_law_mixed" ["_law_number", "_law_k"] _ := ⟨f5, _, ok_mixed F5, PySem.W.mg_of X G a5, k5, b5⟩
  have G__law_tap : Def l.prog w K mg base _ "_law_tap" ["_law_cell"] _ := ⟨f6, _, ok_tap F6 T, PySem.W.mg_of X G a6, k6, b6⟩
  have G__law_next : Def l.prog w K mg base _ "_law_next" ["_law_tap_here", "_law_size"] _ := ⟨f7, _, ok_draw F7 G__law_mixed, PySem.W.mg_of X G a7, k7, b7⟩
  have G__law_menu : Def l.prog w K mg base _ "_law_menu" ["_law_tap_here", "_law_many"] _ := ⟨f8, _, ok_menu F8 T G__law_next, PySem.W.mg_of X G a8, k8, b8⟩
  have G__law_elders : Def l.prog w K mg base _ "_law_elders" ["_law_tap_here", "_law_many", "_law_wild"] _ := ⟨f9, _, ok_elders F9 T G__law_next G__law_menu, PySem.W.mg_of X G a9, k9, b9⟩
  have G__law_head : Def l.prog w K mg base _ "_law_head" ["_law_rows", "_law_at"] _ := ⟨f10, _, ok_head F10 T, PySem.W.mg_of X G a10, k10, b10⟩
  have G__law_laid : Def l.prog w K mg base _ "_law_laid" ["_law_title", "_law_rows"] _ := ⟨f11, _, ok_laid F11 T G__law_head, PySem.W.mg_of X G a11, k11, b11⟩
  have G__law_order : Def l.prog w K mg base _ "_law_order" ["_law_elders_here", "_law_title", "_law_known"] _ := ⟨f12, _, ok_order F12 T G__law_laid (PySem.W.mg_of X G a12) k12 b12 13, PySem.W.mg_of X G a12, k12, b12⟩
  have G__law_told_right : Def l.prog w K mg base _ "_law_told_right" ["_law_elders_here", "_law_title", "_law_due"] _ := ⟨f13, _, ok_told_right F13 T G_order_of, PySem.W.mg_of X G a13, k13, b13⟩
  exact ok_law F14 T G__law_tap G__law_next G__law_elders G__law_order G__law_told_right
theorem walk {l : PySem.W.OpenLaw} {q : Program} {loose : List Str} {XP : (Str → Option Value) → Heap → Prop} {YP : World → Heap → Prop} {d : DefRec} {K : Params → PySem.W.Frag} (hn : l.most = some 63) (hdf : d.params.defaults = [])
    (hY : ∀ (w : World) (h : Heap), YP w h → (K w.params).In h)
    (F : ∀ (w : World) (mg : Str → Option Value) (fa : Addr) (h : Heap), (K w.params).In h → h.Ns mainGlobals mg → mg d.name = some (.ref fa) →
      ∃ fd : FuncData, (∀ (s : Shared) (u : Value), BindsTo s fd ⟨[u], []⟩ [("_law_script", u)]) ∧ ∀ base : Heap, (K w.params).In base → base.Ns mainGlobals mg → FnOk l.prog w (K w.params) mg base CX0 17 fa fd ["_law_script"] (spLaw (K w.params))) :
    PySem.W.WalkO q loose XP YP l.row.toRowW d [] (fun f vs => PySem.call f vs) :=
  L2.walk_of (n := 63) (k := 17) (x := "_law_script") (CX := fun _ => CX0) (sp := fun w => spLaw (K w.params)) hn (by decide) hdf ⟨rfl, by decide, by decide⟩ hY F (fun _ _ a ns hl _ hS => ⟨a, ns, rfl, hS, hl, fun _ => rfl⟩) fun _ _ _ _ _ z => z
end
end K
open PySem PySem.W PyProof.Rows
set_option maxRecDepth 100000 in
set_option maxHeartbeats 0 in
theorem PySem.Challenge.cw_snakehall_k19_orders_of_elders_holds : PySem.Challenge.rw_snakehall_k19_orders_of_elders.Holds := by
  w_on; o_law; k_head; (case hw => w_witness2)
  k_fill
  refine K.walk (l := PySem.Challenge.rw_snakehall_k19_orders_of_elders) rfl rfl (fun w h Y => PySem.W.kIn_of Y) ?F
  case F =>
    intro w mg fa h KX G hmg
    refine' K.all_mk KX G hmg ?a1 ?l1 ?c1 ?k1 ?a2 ?l2 ?c2 ?k2 ?a3 ?l3 ?c3 ?k3 ?a4 ?l4 ?c4 ?k4 ?a5 ?l5 ?c5 ?k5 ?a6 ?l6 ?c6 ?k6 ?a7 ?l7 ?c7 ?k7 ?a8 ?l8 ?c8 ?k8 ?a9 ?l9 ?c9 ?k9 ?a10 ?l10 ?c10 ?k10 ?a11 ?l11 ?c11 ?k11 ?a12 ?l12 ?c12 ?k12 ?a13 ?l13 ?c13 ?k13 ?a14 ?l14 ?c14 ?k14 ?z1 ?z2 ?z3 ?z4 ?z5 ?z6 ?z7 ?z8 ?z9 ?z10 ?z11 ?z12 ?z13 ?z14 ?z15 ?z16 ?z17 ?z18
    (case a1 => k_is)
    (case l1 => k_is)
    (case c1 => k_is)
    (case k1 => k_is)
    (case a2 => k_is)
    (case l2 => k_is)
    (case c2 => k_is)
    (case k2 => k_is)
    (case a3 => k_is)
    (case l3 => k_is)
    (case c3 => k_is)
    (case k3 => k_is)
    (case a4 => k_is)
    (case l4 => k_is)
    (case c4 => k_is)
    (case k4 => k_is)
    (case a5 => k_is)
    (case l5 => k_is)
    (case c5 => k_is)
    (case k5 => k_is)
    (case a6 => k_is)
    (case l6 => k_is)
    (case c6 => k_is)
    (case k6 => k_is)
    (case a7 => k_is)
    (case l7 => k_is)
    (case c7 => k_is)
    (case k7 => k_is)
    (case a8 => k_is)
    (case l8 => k_is)
    (case c8 => k_is)
    (case k8 => k_is)
    (case a9 => k_is)
    (case l9 => k_is)
    (case c9 => k_is)
    (case k9 => k_is)
    (case a10 => k_is)
    (case l10 => k_is)
    (case c10 => k_is)
    (case k10 => k_is)
    (case a11 => k_is)
    (case l11 => k_is)
    (case c11 => k_is)
    (case k11 => k_is)
    (case a12 => k_is)
    (case l12 => k_is)
    (case c12 => k_is)
    (case k12 => k_is)
    (case a13 => k_is)
    (case l13 => k_is)
    (case c13 => k_is)
    (case k13 => k_is)
    (case a14 => k_is)
    (case l14 => k_is)
    (case c14 => k_is)
    (case k14 => k_is)
    (case z1 => k_is)
    (case z2 => k_is)
    (case z3 => k_is)
    (case z4 => k_is)
    (case z5 => k_is)
    (case z6 => k_is)
    (case z7 => k_is)
    (case z8 => k_is)
    (case z9 => k_is)
    (case z10 => k_is)
    (case z11 => k_is)
    (case z12 => k_is)
    (case z13 => k_is)
    (case z14 => k_is)
    (case z15 => k_is)
    (case z16 => k_is)
    (case z17 => k_is)
    (case z18 => k_is)
