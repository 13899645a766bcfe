import PyProof.Rows.All
import Wide.All
import OpenK.AllK
import Wide.FinOn
import HandS.ForMost
import HandS.Strs
import HandS.Evl
import HandS.Deep
import HandS.More
import HandS.Rev
import PySem.Challenge.RW_snakehall_k22_whole_elders_walked
set_option linter.all false
namespace EM
section
variable {α : Type} [DecidableEq α]

/-- t stands in no list behind its first place -/
def free (ls : List (List α)) (t : α) : Bool := !(ls.any fun o => decide (t ∈ o.tail))
def heads (ls : List (List α)) : List α := ls.filterMap List.head?
def nextT (ls : List (List α)) : Option α := (heads ls).find? (free ls)
def dropH (t : α) (l : List α) : List α := if l.head? = some t then l.tail else l
def live (ls : List (List α)) : List (List α) := ls.filter fun l => !l.isEmpty
def tot (ls : List (List α)) : Nat := (ls.map List.length).sum
def mrg : Nat → List (List α) → Option (List α)
  | 0, _ => some []
  | n + 1, ls => if live ls = [] then some [] else match nextT ls with
    | none => none
    | some t => (mrg n (ls.map (dropH t))).map (t :: ·)
def merge (ls : List (List α)) : Option (List α) := mrg (tot ls) ls

theorem tot_cons (l : List α) (ls : List (List α)) : tot (l :: ls) = l.length + tot ls := by
  simp [tot]
theorem tot_nil : tot ([] : List (List α)) = 0 := rfl

theorem dropH_len (t : α) (l : List α) : (dropH t l).length ≤ l.length := by
  unfold dropH
  split
  · cases l <;> simp
  · exact Nat.le_refl _

theorem tot_drop_le (t : α) : ∀ ls : List (List α), tot (ls.map (dropH t)) ≤ tot ls
  | [] => Nat.le_refl _
  | l :: ls => by
    rw [List.map_cons, tot_cons, tot_cons]
    have h1 := dropH_len t l
    have h2 := tot_drop_le t ls
    omega

theorem mem_heads {t : α} {ls : List (List α)} : t ∈ heads ls ↔ ∃ l ∈ ls, l.head? = some t := by
  unfold heads
  rw [List.mem_filterMap]

theorem tot_drop_lt (t : α) : ∀ ls : List (List α), t ∈ heads ls → tot (ls.map (dropH t)) < tot ls
  | [], h => by simp [heads] at h
  | l :: ls, h => by
    rw [List.map_cons, tot_cons, tot_cons]
    obtain ⟨x, hx, hh⟩ := mem_heads.mp h
    rcases List.mem_cons.mp hx with e | hx
    · subst e
      have h2 := tot_drop_le t ls
      have h1 : (dropH t x).length + 1 = x.length := by
        unfold dropH
        rw [if_pos hh]
        cases x with
        | nil => simp at hh
        | cons a r => simp
      omega
    · have h1 := dropH_len t l
      have h2 := tot_drop_lt t ls (mem_heads.mpr ⟨x, hx, hh⟩)
      omega

theorem nextT_mem {ls : List (List α)} {t : α} (h : nextT ls = some t) : t ∈ heads ls := List.mem_of_find?_eq_some h
theorem nextT_free {ls : List (List α)} {t : α} (h : nextT ls = some t) : free ls t = true := List.find?_some h

theorem live_nil_of_tot {ls : List (List α)} (h : tot ls = 0) : live ls = [] := by
  induction ls with
  | nil => rfl
  | cons l ls ih =>
    rw [tot_cons] at h
    have hl : l = [] := List.length_eq_zero_iff.mp (by omega)
    subst hl
    unfold live at ih ⊢
    rw [List.filter_cons]
    simp
    have := ih (by omega)
    simpa using this

theorem mrg_two : ∀ (n m : Nat) (ls : List (List α)), tot ls ≤ n → tot ls ≤ m → mrg n ls = mrg m ls
  | 0, 0, _, _, _ => rfl
  | 0, m + 1, ls, h, _ => by
    show some [] = (if live ls = [] then some [] else _)
    rw [if_pos (live_nil_of_tot (by omega))]
  | n + 1, 0, ls, _, h => by
    show (if live ls = [] then some [] else _) = some []
    rw [if_pos (live_nil_of_tot (by omega))]
  | n + 1, m + 1, ls, h1, h2 => by
    show (if live ls = [] then some [] else match nextT ls with
        | none => none
        | some t => (mrg n (ls.map (dropH t))).map (t :: ·)) = (if live ls = [] then some [] else match nextT ls with
        | none => none
        | some t => (mrg m (ls.map (dropH t))).map (t :: ·))
    split
    · rfl
    · cases hn : nextT ls with
      | none => rfl
      | some t =>
        have hl := tot_drop_lt t ls (nextT_mem hn)
        dsimp only
        rw [mrg_two n m _ (by omega) (by omega)]

theorem merge_done {ls : List (List α)} (h : live ls = []) : merge ls = some [] := by
  unfold merge
  cases tot ls with
  | zero => rfl
  | succ n =>
    show (if live ls = [] then some [] else _) = _
    rw [if_pos h]
theorem tot_pos {ls : List (List α)} (h : live ls ≠ []) : 0 < tot ls := by
  cases hm : tot ls with
  | zero => exact absurd (live_nil_of_tot hm) h
  | succ n => omega
theorem merge_none {ls : List (List α)} (h : live ls ≠ []) (hn : nextT ls = none) : merge ls = none := by
  have hp := tot_pos h
  unfold merge
  cases hm : tot ls with
  | zero => omega
  | succ n =>
    show (if live ls = [] then some [] else _) = _
    rw [if_neg h, hn]
theorem merge_step {ls : List (List α)} {t : α} (hn : nextT ls = some t) : merge ls = (merge (ls.map (dropH t))).map (t :: ·) := by
  have hl := tot_drop_lt t ls (nextT_mem hn)
  have h : live ls ≠ [] := by
    intro h
    obtain ⟨x, hx, hh⟩ := mem_heads.mp (nextT_mem hn)
    have : x ∈ live ls := List.mem_filter.mpr ⟨hx, by cases x with | nil => simp at hh | cons a r => rfl⟩
    rw [h] at this
    cases this
  unfold merge
  cases hm : tot ls with
  | zero => omega
  | succ n =>
    show (if live ls = [] then some [] else _) = _
    rw [if_neg h, hn]
    dsimp only
    rw [mrg_two n (tot (ls.map (dropH t))) _ (by omega) (Nat.le_refl _)]

/-! ### lists that are empty count for nothing -/
theorem heads_live (ls : List (List α)) : heads (live ls) = heads ls := by
  unfold heads live
  induction ls with
  | nil => rfl
  | cons l ls ih =>
    cases l with
    | nil =>
      rw [List.filterMap_cons]
      exact ih
    | cons a r => simpa [List.filterMap_cons] using ih
theorem free_live (ls : List (List α)) (t : α) : free (live ls) t = free ls t := by
  unfold free live
  induction ls with
  | nil => rfl
  | cons l ls ih =>
    cases l with
    | nil => simpa using ih
    | cons a r =>
      simp only [List.filter_cons, List.isEmpty_cons, Bool.not_false, if_true, List.any_cons, Bool.not_or]
      rw [ih]
theorem nextT_live (ls : List (List α)) : nextT (live ls) = nextT ls := by
  unfold nextT
  rw [heads_live]
  congr 1
  funext t
  exact free_live ls t
theorem live_drop (t : α) (ls : List (List α)) : live ((live ls).map (dropH t)) = live (ls.map (dropH t)) := by
  unfold live
  induction ls with
  | nil => rfl
  | cons l ls ih =>
    cases l with
    | nil => simpa [dropH] using ih
    | cons a r =>
      simp only [List.filter_cons, List.isEmpty_cons, Bool.not_false, if_true, List.map_cons]
      rw [ih]
theorem live_of_ne {ls : List (List α)} (h : ∀ l ∈ ls, l ≠ []) : live ls = ls := by
  unfold live
  rw [List.filter_eq_self]
  intro l hl
  cases l with
  | nil => exact absurd rfl (h _ hl)
  | cons a r => rfl
theorem live_live (ls : List (List α)) : live (live ls) = live ls := by
  unfold live
  rw [List.filter_filter]
  congr 1
  funext l
  simp
theorem tot_live (ls : List (List α)) : tot (live ls) = tot ls := by
  unfold live
  induction ls with
  | nil => rfl
  | cons l ls ih =>
    cases l with
    | nil => simpa [tot_cons] using ih
    | cons a r =>
      simp only [List.filter_cons, List.isEmpty_cons, Bool.not_false, if_true, tot_cons]
      rw [ih]
theorem merge_congr : ∀ (n : Nat) (ls ms : List (List α)), tot ls ≤ n → live ls = live ms → merge ls = merge ms := by
  intro n
  induction n with
  | zero =>
    intro ls ms h e
    have h1 := live_nil_of_tot (show tot ls = 0 by omega)
    rw [merge_done h1, merge_done (e ▸ h1)]
  | succ n ih =>
    intro ls ms h e
    by_cases hl : live ls = []
    · rw [merge_done hl, merge_done (e ▸ hl)]
    · have hn : nextT ls = nextT ms := by rw [← nextT_live ls, e, nextT_live]
      cases hx : nextT ls with
      | none => rw [merge_none hl hx, merge_none (e ▸ hl) (hn ▸ hx)]
      | some t =>
        rw [merge_step (ls := ls) hx, merge_step (ls := ms) (hn ▸ hx)]
        rw [ih _ (ms.map (dropH t)) (by have := tot_drop_lt t ls (nextT_mem hx); omega) (by rw [← live_drop t ls, e, live_drop])]
theorem merge_live (ls : List (List α)) : merge (live ls) = merge ls := merge_congr _ _ _ (Nat.le_refl _) (live_live ls)

theorem nextT_no {ls : List (List α)} (hp : ∀ l ∈ ls, ∀ t, l.head? = some t → free ls t = false) : nextT ls = none := by
  unfold nextT
  rw [List.find?_eq_none]
  intro t ht
  obtain ⟨l, hl, hh⟩ := mem_heads.mp ht
  rw [hp l hl t hh]
  exact Bool.false_ne_true
theorem nextT_at {ls : List (List α)} {i : Nat} {l : List α} {t : α} (h : ls[i]? = some l) (hh : l.head? = some t) (hf : free ls t = true) (hp : ∀ l ∈ ls.take i, ∀ t, l.head? = some t → free ls t = false) : nextT ls = some t := by
  have e : ls = ls.take i ++ l :: ls.drop (i + 1) := by
    have hi := (List.getElem?_eq_some_iff.mp h).1
    have hv := (List.getElem?_eq_some_iff.mp h).2
    rw [← hv, ← List.drop_eq_getElem_cons hi, List.take_append_drop]
  have e2 : heads ls = heads (ls.take i) ++ t :: heads (ls.drop (i + 1)) := by
    have : heads ls = heads (ls.take i ++ l :: ls.drop (i + 1)) := congrArg heads e
    rw [this]
    unfold heads
    rw [List.filterMap_append, List.filterMap_cons, hh]
  unfold nextT
  rw [e2, List.find?_append]
  have : (heads (ls.take i)).find? (free ls) = none := by
    rw [List.find?_eq_none]
    intro x hx
    obtain ⟨l', hl', hh'⟩ := mem_heads.mp hx
    rw [hp l' hl' x hh']
    exact Bool.false_ne_true
  rw [this, List.find?_cons, hf]
  rfl
/-! ### what a merge has -/
theorem mem_dropH {t a : α} {l : List α} (h : a ∈ l) : a = t ∨ a ∈ dropH t l := by
  unfold dropH
  split
  · rename_i hh
    cases l with
    | nil => cases h
    | cons x r =>
      simp at hh
      subst hh
      rcases List.mem_cons.mp h with e | h
      · exact .inl e
      · exact .inr h
  · exact .inr h
theorem dropH_sub {t a : α} {l : List α} (h : a ∈ dropH t l) : a ∈ l := by
  unfold dropH at h
  split at h
  · exact List.mem_of_mem_tail h
  · exact h
theorem dropH_nd {t : α} {l : List α} (h : l.Nodup) : (dropH t l).Nodup := by
  unfold dropH
  split
  · exact h.sublist (List.tail_sublist l)
  · exact h
theorem gone_dropH {t : α} {l : List α} (h : l.Nodup) (hf : t ∉ l.tail) : t ∉ dropH t l := by
  unfold dropH
  split
  · exact hf
  · rename_i hh
    cases l with
    | nil => simp
    | cons x r =>
      simp at hh
      intro hm
      rcases List.mem_cons.mp hm with e | hm
      · exact hh e.symm
      · exact hf hm
theorem free_iff {ls : List (List α)} {t : α} : free ls t = true ↔ ∀ o ∈ ls, t ∉ o.tail := by
  unfold free
  simp
theorem merge_has : ∀ (n : Nat) (ls : List (List α)) (l : List α), tot ls ≤ n → merge ls = some l → (∀ o ∈ ls, o.Nodup) → l.Nodup ∧ ∀ a, a ∈ l ↔ ∃ o ∈ ls, a ∈ o := by
  intro n
  induction n with
  | zero =>
    intro ls l h e _
    have h1 := live_nil_of_tot (show tot ls = 0 by omega)
    rw [merge_done h1] at e
    cases e
    refine ⟨List.nodup_nil, fun a => ⟨fun h => (nomatch h), fun ⟨o, ho, ha⟩ => ?_⟩⟩
    have : o ∈ live ls := List.mem_filter.mpr ⟨ho, by cases o with | nil => cases ha | cons _ _ => rfl⟩
    rw [h1] at this
    cases this
  | succ n ih =>
    intro ls l h e nd
    by_cases hl : live ls = []
    · rw [merge_done hl] at e
      cases e
      refine ⟨List.nodup_nil, fun a => ⟨fun h => (nomatch h), fun ⟨o, ho, ha⟩ => ?_⟩⟩
      have : o ∈ live ls := List.mem_filter.mpr ⟨ho, by cases o with | nil => cases ha | cons _ _ => rfl⟩
      rw [hl] at this
      cases this
    · cases hx : nextT ls with
      | none =>
        rw [merge_none hl hx] at e
        cases e
      | some t =>
        rw [merge_step hx] at e
        cases hm : merge (ls.map (dropH t)) with
        | none =>
          rw [hm] at e
          cases e
        | some r =>
          rw [hm] at e
          cases e
          have hf := free_iff.mp (nextT_free hx)
          obtain ⟨h1, h2⟩ := ih _ r (by have := tot_drop_lt t ls (nextT_mem hx); omega) hm (fun o ho => by
            obtain ⟨o', ho', rfl⟩ := List.mem_map.mp ho
            exact dropH_nd (nd o' ho'))
          refine ⟨List.nodup_cons.mpr ⟨fun hc => ?_, h1⟩, fun a => ?_⟩
          · obtain ⟨o, ho, ha⟩ := (h2 t).mp hc
            obtain ⟨o', ho', rfl⟩ := List.mem_map.mp ho
            exact gone_dropH (nd o' ho') (hf o' ho') ha
          · constructor
            · intro ha
              rcases List.mem_cons.mp ha with e | ha
              · subst e
                obtain ⟨x, hx', hh⟩ := mem_heads.mp (nextT_mem hx)
                exact ⟨x, hx', List.mem_of_mem_head? hh⟩
              · obtain ⟨o, ho, ha⟩ := (h2 a).mp ha
                obtain ⟨o', ho', rfl⟩ := List.mem_map.mp ho
                exact ⟨o', ho', dropH_sub ha⟩
            · rintro ⟨o, ho, ha⟩
              rcases mem_dropH (t := t) ha with e | ha
              · exact List.mem_cons.mpr (.inl e)
              · exact List.mem_cons.mpr (.inr ((h2 a).mpr ⟨_, List.mem_map.mpr ⟨o, ho, rfl⟩, ha⟩))

theorem merge_len : ∀ (n : Nat) (ls : List (List α)) (l : List α), tot ls ≤ n → merge ls = some l → l.length ≤ tot ls := by
  intro n
  induction n with
  | zero =>
    intro ls l h e
    rw [merge_done (live_nil_of_tot (show tot ls = 0 by omega))] at e
    cases e
    exact Nat.zero_le _
  | succ n ih =>
    intro ls l h e
    by_cases hl : live ls = []
    · rw [merge_done hl] at e
      cases e
      exact Nat.zero_le _
    · cases hx : nextT ls with
      | none =>
        rw [merge_none hl hx] at e
        cases e
      | some t =>
        rw [merge_step hx] at e
        cases hm : merge (ls.map (dropH t)) with
        | none =>
          rw [hm] at e
          cases e
        | some r =>
          rw [hm] at e
          cases e
          have h1 := tot_drop_lt t ls (nextT_mem hx)
          have h2 := ih _ r (by omega) hm
          rw [List.length_cons]
          omega
/-! ### orders -/
def orderBy (t : α) (es : List α) (f : α → Option (List α)) : Option (List α) :=
  if es.Nodup then (es.mapM f).bind fun ls => (merge (ls ++ [es])).map (t :: ·) else none

theorem orderBy_congr {t : α} {es : List α} {f g : α → Option (List α)} (h : ∀ e ∈ es, f e = g e) : orderBy t es f = orderBy t es g := by
  unfold orderBy
  have : es.mapM f = es.mapM g := by
    clear t
    induction es with
    | nil => rfl
    | cons a r ih =>
      rw [List.mapM_cons, List.mapM_cons, h a (List.mem_cons_self), ih fun e he => h e (List.mem_cons_of_mem _ he)]
  rw [this]
def ord (E : α → List α) : Nat → α → Option (List α)
  | 0, _ => none
  | n + 1, t => orderBy t (E t) (ord E n)
theorem ord_stable {E : α → List α} {r : α → Nat} (hr : ∀ t, ∀ e ∈ E t, r e < r t) : ∀ (n m : Nat) (t : α), r t < n → r t < m → ord E n t = ord E m t := by
  intro n
  induction n with
  | zero => intro m t h; omega
  | succ n ih =>
    intro m t h1 h2
    cases m with
    | zero => omega
    | succ m =>
      show orderBy t (E t) (ord E n) = orderBy t (E t) (ord E m)
      exact orderBy_congr fun e he => ih m e (by have := hr t e he; omega) (by have := hr t e he; omega)
/-- the order of a title, by a rank that falls to elders -/
def O (E : α → List α) (r : α → Nat) (t : α) : Option (List α) := ord E (r t + 1) t
theorem O_eq {E : α → List α} {r : α → Nat} (hr : ∀ t, ∀ e ∈ E t, r e < r t) (t : α) : O E r t = orderBy t (E t) (O E r) := by
  show orderBy t (E t) (ord E (r t)) = _
  exact orderBy_congr fun e he => ord_stable hr _ _ e (hr t e he) (Nat.lt_succ_self _)

theorem mapM_some {f : α → Option (List α)} : ∀ {es : List α} {ls : List (List α)}, es.mapM f = some ls → ls.length = es.length ∧ ∀ o ∈ ls, ∃ e ∈ es, f e = some o
  | [], ls, h => by
    simp at h
    subst h
    exact ⟨rfl, fun o ho => nomatch ho⟩
  | e :: es, ls, h => by
    rw [List.mapM_cons] at h
    cases he : f e with
    | none => rw [he] at h; cases h
    | some o =>
      cases hm : es.mapM f with
      | none => rw [he, hm] at h; cases h
      | some r =>
        rw [he, hm] at h
        cases h
        obtain ⟨h1, h2⟩ := mapM_some hm
        refine ⟨by simp [h1], fun x hx => ?_⟩
        rcases List.mem_cons.mp hx with q | q
        · subst q; exact ⟨e, List.mem_cons_self, he⟩
        · obtain ⟨e', he', q'⟩ := h2 x q
          exact ⟨e', List.mem_cons_of_mem _ he', q'⟩
theorem nodup_len {U : List α} : ∀ {l : List α}, l.Nodup → (∀ a ∈ l, a ∈ U) → l.length ≤ U.length := by
  induction U with
  | nil =>
    intro l _ h
    cases l with
    | nil => exact Nat.le_refl _
    | cons a r => exact nomatch h a List.mem_cons_self
  | cons u U ih =>
    intro l nd h
    by_cases hu : u ∈ l
    · have h1 : (l.erase u).length + 1 = l.length := by
        have := List.length_erase_of_mem hu
        have hp : 0 < l.length := List.length_pos_of_mem hu
        omega
      have h2 := ih (l := l.erase u) (nd.erase u) fun a ha => by
        have ha' : a ∈ l ∧ a ≠ u := by
          rw [nd.mem_erase_iff] at ha
          exact ⟨ha.2, ha.1⟩
        rcases List.mem_cons.mp (h a ha'.1) with e | e
        · exact absurd e ha'.2
        · exact e
      rw [List.length_cons]
      omega
    · have h2 := ih nd fun a ha => by
        rcases List.mem_cons.mp (h a ha) with e | e
        · subst e; exact absurd ha hu
        · exact e
      rw [List.length_cons]
      omega
/-- titles of one universe: an order has no title twice and none but of it -/
theorem O_has {E : α → List α} {r : α → Nat} {U : List α} (hr : ∀ t, ∀ e ∈ E t, r e < r t) (hU : ∀ t ∈ U, ∀ e ∈ E t, e ∈ U) :
    ∀ (n : Nat) (t : α), r t ≤ n → t ∈ U → ∀ l, O E r t = some l → l.Nodup ∧ (∀ a ∈ l, a ∈ U ∧ r a ≤ r t) := by
  intro n
  induction n with
  | zero =>
    intro t ht hu l hl
    have hE : E t = [] := by
      cases he : E t with
      | nil => rfl
      | cons e es => have := hr t e (by rw [he]; exact List.mem_cons_self); omega
    rw [O_eq hr, hE] at hl
    have hl' : some [t] = some l := hl
    cases hl'
    exact ⟨by simp, fun a ha => by simp at ha; subst ha; exact ⟨hu, Nat.le_refl _⟩⟩
  | succ n ih =>
    intro t ht hu l hl
    rw [O_eq hr] at hl
    unfold orderBy at hl
    split at hl
    · rename_i nd
      cases hm : (E t).mapM (O E r) with
      | none => rw [hm] at hl; cases hl
      | some ls =>
        rw [hm] at hl
        simp only [Option.bind_some] at hl
        cases hg : merge (ls ++ [E t]) with
        | none => rw [hg] at hl; cases hl
        | some b =>
          rw [hg] at hl
          cases hl
          obtain ⟨_, h2⟩ := mapM_some hm
          have key : ∀ o ∈ ls ++ [E t], o.Nodup ∧ ∀ a ∈ o, a ∈ U ∧ r a < r t := by
            intro o ho
            rcases List.mem_append.mp ho with q | q
            · obtain ⟨e, he, q'⟩ := h2 o q
              have hre := hr t e he
              obtain ⟨z1, z2⟩ := ih e (by omega) (hU t hu e he) o q'
              exact ⟨z1, fun a ha => ⟨(z2 a ha).1, by have := (z2 a ha).2; omega⟩⟩
            · simp at q
              subst q
              exact ⟨nd, fun a ha => ⟨hU t hu a ha, hr t a ha⟩⟩
          obtain ⟨m1, m2⟩ := merge_has _ _ _ (Nat.le_refl _) hg fun o ho => (key o ho).1
          refine ⟨List.nodup_cons.mpr ⟨fun hc => ?_, m1⟩, fun a ha => ?_⟩
          · obtain ⟨o, ho, ha⟩ := (m2 t).mp hc
            have := ((key o ho).2 t ha).2
            omega
          · rcases List.mem_cons.mp ha with q | q
            · subst q; exact ⟨hu, Nat.le_refl _⟩
            · obtain ⟨o, ho, ha⟩ := (m2 a).mp q
              exact ⟨((key o ho).2 a ha).1, Nat.le_of_lt ((key o ho).2 a ha).2⟩
    · cases hl
theorem O_len {E : α → List α} {r : α → Nat} {U : List α} (hr : ∀ t, ∀ e ∈ E t, r e < r t) (hU : ∀ t ∈ U, ∀ e ∈ E t, e ∈ U) {t : α} (ht : t ∈ U) {l : List α} (hl : O E r t = some l) : l.length ≤ U.length :=
  let ⟨a, b⟩ := O_has hr hU _ t (Nat.le_refl _) ht l hl
  nodup_len a fun x hx => (b x hx).1

/-! ### the stack of order_of -/
def lack (E : α → List α) (ks : List α) (t : α) : List α := (E t).filter fun e => !decide (e ∈ ks)
def addK (ks : List α) (t : α) : List α := if t ∈ ks then ks else ks ++ [t]
theorem mem_addK {ks : List α} {t a : α} : a ∈ addK ks t ↔ a ∈ ks ∨ a = t := by
  unfold addK
  split
  · rename_i h
    exact ⟨fun q => .inl q, fun q => q.elim id fun e => e ▸ h⟩
  · simp
/-- m steps from here on the stack (its top at the end) is empty; B: its height's bound; ks: what is known; P: what holds then -/
inductive Runs (E : α → List α) (B : Nat) (P : List α → Prop) : Nat → List α → List α → Prop
  | done {ks} (h : P ks) : Runs E B P 0 [] ks
  | push {m w t ks} (hb : (w ++ [t]).length ≤ B) (hl : lack E ks t ≠ []) (h : Runs E B P m (w ++ [t] ++ lack E ks t) ks) : Runs E B P (m + 1) (w ++ [t]) ks
  | pop {m w t ks} (hb : (w ++ [t]).length ≤ B) (hl : lack E ks t = []) (h : Runs E B P m w (addK ks t)) : Runs E B P (m + 1) (w ++ [t]) ks
theorem lack_nil {E : α → List α} {ks : List α} {t : α} (h : lack E ks t = []) : ∀ e ∈ E t, e ∈ ks := by
  intro e he
  unfold lack at h
  have := List.filter_eq_nil_iff.mp h e he
  simpa using this
theorem lack_of {E : α → List α} {ks : List α} {t : α} (h : ∀ e ∈ E t, e ∈ ks) : lack E ks t = [] :=
  List.filter_eq_nil_iff.mpr fun e he => by simpa using h e he
theorem runs_list {E : α → List α} {B : Nat} {P : List α → Prop} {T : α → Prop} {c : Nat}
    (one : ∀ t, T t → ∀ w ks, w.length + 1 + c ≤ B → (∀ ks', (∀ a ∈ ks, a ∈ ks') → t ∈ ks' → ∃ m, Runs E B P m w ks') → ∃ m, Runs E B P m (w ++ [t]) ks) :
    ∀ (q : List α), (∀ t ∈ q, T t) → ∀ w ks, w.length + q.length + c ≤ B → (∀ ks', (∀ a ∈ ks, a ∈ ks') → (∀ t ∈ q, t ∈ ks') → ∃ m, Runs E B P m w ks') → ∃ m, Runs E B P m (w ++ q.reverse) ks
  | [], _, w, ks, _, k => by
    have := k ks (fun _ h => h) (fun _ h => nomatch h)
    simpa using this
  | t :: q, hT, w, ks, hb, k => by
    rw [List.reverse_cons, ← List.append_assoc]
    rw [List.length_cons] at hb
    refine one t (hT t List.mem_cons_self) (w ++ q.reverse) ks (by simp; omega) fun ks1 h1 h2 => ?_
    refine runs_list one q (fun x hx => hT x (List.mem_cons_of_mem _ hx)) w ks1 (by omega) fun ks2 h3 h4 => ?_
    refine k ks2 (fun a ha => h3 a (h1 a ha)) fun x hx => ?_
    rcases List.mem_cons.mp hx with e | e
    · subst e; exact h3 _ h2
    · exact h4 x e
theorem runs_one {E : α → List α} {r : α → Nat} {B L : Nat} {P : List α → Prop} (hr : ∀ t, ∀ e ∈ E t, r e < r t) (hL : ∀ t, (E t).length ≤ L) :
    ∀ (n : Nat) (t : α), r t ≤ n → ∀ w ks, w.length + 1 + L * n ≤ B → (∀ ks', (∀ a ∈ ks, a ∈ ks') → t ∈ ks' → ∃ m, Runs E B P m w ks') → ∃ m, Runs E B P m (w ++ [t]) ks := by
  intro n
  induction n with
  | zero =>
    intro t ht w ks hb k
    have hE : E t = [] := by
      cases he : E t with
      | nil => rfl
      | cons e es => have := hr t e (by rw [he]; exact List.mem_cons_self); omega
    obtain ⟨m, hm⟩ := k (addK ks t) (fun a ha => mem_addK.mpr (.inl ha)) (mem_addK.mpr (.inr rfl))
    exact ⟨m + 1, .pop (by simp; omega) (lack_of (by rw [hE]; intro e he; cases he)) hm⟩
  | succ n ih =>
    intro t ht w ks hb k
    have fin : ∀ ks', (∀ a ∈ ks, a ∈ ks') → (∀ e ∈ E t, e ∈ ks') → ∃ m, Runs E B P m (w ++ [t]) ks' := fun ks' h1 h2 => by
      obtain ⟨m, hm⟩ := k (addK ks' t) (fun a ha => mem_addK.mpr (.inl (h1 a ha))) (mem_addK.mpr (.inr rfl))
      exact ⟨m + 1, .pop (by simp; omega) (lack_of h2) hm⟩
    by_cases hl : lack E ks t = []
    · exact fin ks (fun _ h => h) (lack_nil hl)
    · have hlen : (lack E ks t).length ≤ L := Nat.le_trans (List.length_filter_le _ _) (hL t)
      have hmul : L * (n + 1) = L * n + L := by rw [Nat.mul_succ]
      obtain ⟨m, hm⟩ := runs_list (T := fun x => r x ≤ n) (c := L * n) (fun x hx w' ks' hb' k' => ih x hx w' ks' hb' k') (lack E ks t).reverse (fun x hx => by
          have hx' : x ∈ E t := (List.mem_filter.mp (List.mem_reverse.mp hx)).1
          have := hr t x hx'
          omega) (w ++ [t]) ks (by simp; omega) fun ks' h1 h2 => fin ks' h1 fun e he => by
            by_cases hk : e ∈ ks
            · exact h1 e hk
            · exact h2 e (List.mem_reverse.mpr (List.mem_filter.mpr ⟨he, by simpa using hk⟩))
      rw [List.reverse_reverse] at hm
      exact ⟨m + 1, .push (by simp; omega) hl hm⟩
theorem runs_all {E : α → List α} {r : α → Nat} {L : Nat} (hr : ∀ t, ∀ e ∈ E t, r e < r t) (hL : ∀ t, (E t).length ≤ L) (t : α) : ∃ m, Runs E (1 + L * r t) (fun ks => t ∈ ks) m [t] [] := by
  have := runs_one (B := 1 + L * r t) (P := fun ks => t ∈ ks) hr hL (r t) t (Nat.le_refl _) [] [] (by simp) fun ks' _ h => ⟨0, .done h⟩
  simpa using this
end
end EM

set_option linter.all false
namespace EM
section
variable {α : Type} [DecidableEq α]
/-- the place of a title -/
def rk : List α → α → Nat
  | [], _ => 0
  | a :: l, x => if a = x then 0 else rk l x + 1
theorem rk_lt : ∀ {l : List α} {j : Nat} {x : α}, x ∈ l.take j → rk l x < j
  | [], j, x, h => by simp at h
  | a :: l, 0, x, h => by simp at h
  | a :: l, j + 1, x, h => by
    unfold rk
    split
    · omega
    · rename_i q
      rw [List.take_succ_cons] at h
      rcases List.mem_cons.mp h with z | z
      · exact absurd z.symm q
      · have := rk_lt z
        omega
theorem rk_at : ∀ {l : List α} (_ : l.Nodup) {j : Nat} {x : α}, l[j]? = some x → rk l x = j
  | [], _, j, x, h => by simp at h
  | a :: l, nd, 0, x, h => by
    simp at h
    subst h
    simp [rk]
  | a :: l, nd, j + 1, x, h => by
    have h' : l[j]? = some x := by simpa using h
    have hx : x ∈ l := List.mem_of_getElem? h'
    have hne : ¬ a = x := fun z => (List.nodup_cons.mp nd).1 (z ▸ hx)
    unfold rk
    rw [if_neg hne, rk_at (List.nodup_cons.mp nd).2 h']
theorem rk_out : ∀ {l : List α} {x : α}, x ∉ l → rk l x = l.length
  | [], _, _ => rfl
  | a :: l, x, h => by
    have h1 : ¬ a = x := fun z => h (z ▸ List.mem_cons_self)
    unfold rk
    rw [if_neg h1, rk_out fun z => h (List.mem_cons_of_mem _ z), List.length_cons]
theorem rk_le (l : List α) (x : α) : rk l x ≤ l.length := by
  by_cases h : x ∈ l
  · have := rk_lt (l := l) (j := l.length) (x := x) (by rwa [List.take_length])
    omega
  · rw [rk_out h]
    exact Nat.le_refl _
/-- titles and their elders' lists, each of titles ahead -/
structure Sch (ts : List α) (es : List (List α)) : Prop where
  len : es.length = ts.length
  nd : ts.Nodup
  ahead : ∀ (j : Nat) (l : List α), es[j]? = some l → ∀ e ∈ l, e ∈ ts.take j
def EF (ts : List α) (es : List (List α)) (x : α) : List α := es.getD (rk ts x) []
theorem EF_at {ts : List α} {es : List (List α)} (S : Sch ts es) {j : Nat} {x : α} {l : List α} (h : ts[j]? = some x) (hl : es[j]? = some l) : EF ts es x = l := by
  unfold EF
  rw [rk_at S.nd h, List.getD_eq_getElem?_getD, hl]
  rfl
theorem EF_get {ts : List α} {es : List (List α)} (S : Sch ts es) {x e : α} (h : e ∈ EF ts es x) : ∃ l, es[rk ts x]? = some l ∧ EF ts es x = l := by
  unfold EF at h ⊢
  rw [List.getD_eq_getElem?_getD] at h ⊢
  cases hq : es[rk ts x]? with
  | none => rw [hq] at h; simp at h
  | some l => exact ⟨l, rfl, rfl⟩
theorem EF_rank {ts : List α} {es : List (List α)} (S : Sch ts es) (x : α) : ∀ e ∈ EF ts es x, rk ts e < rk ts x := by
  intro e he
  obtain ⟨l, h1, h2⟩ := EF_get S he
  rw [h2] at he
  exact rk_lt (S.ahead _ l h1 e he)
theorem EF_sub {ts : List α} {es : List (List α)} (S : Sch ts es) (x : α) : ∀ e ∈ EF ts es x, e ∈ ts := by
  intro e he
  obtain ⟨l, h1, h2⟩ := EF_get S he
  rw [h2] at he
  exact List.mem_of_mem_take (S.ahead _ l h1 e he)
theorem Sch.snoc {ts : List α} {es : List (List α)} (S : Sch ts es) {x : α} {l : List α} (hx : x ∉ ts) (hl : ∀ e ∈ l, e ∈ ts) : Sch (ts ++ [x]) (es ++ [l]) := by
  refine ⟨by simp [S.len], ?_, fun j m hm e he => ?_⟩
  · rw [List.nodup_append]
    exact ⟨S.nd, by simp, fun a ha b hb => by simp at hb; subst hb; exact fun z => hx (z ▸ ha)⟩
  · by_cases hj : j < es.length
    · rw [List.getElem?_append_left hj] at hm
      have := S.ahead j m hm e he
      rw [List.take_append_of_le_length (by rw [← S.len]; omega)]
      exact this
    · rw [List.getElem?_append_right (by omega)] at hm
      have h0 : j - es.length = 0 := by
        cases hz : j - es.length with
        | zero => rfl
        | succ n => rw [hz] at hm; simp at hm
      rw [h0] at hm
      simp at hm
      subst hm
      have hj' : j = ts.length := by rw [← S.len]; omega
      rw [List.take_append_of_le_length (by omega), hj', List.take_length]
      exact hl e he
theorem Sch.nil : Sch ([] : List α) [] := ⟨rfl, List.nodup_nil, fun j l h => by simp at h⟩
end
end EM

set_option linter.all false
namespace EM
section
variable {α : Type} [DecidableEq α]
theorem sub_tail {a : α} {L o : List α} (nd : (a :: L).Nodup) (h : o.Sublist (a :: L)) : a ∉ o.tail ∧ (dropH a o).Sublist L := by
  have ha := (List.nodup_cons.mp nd).1
  cases h with
  | cons _ h =>
    have h1 : a ∉ o := fun q => ha (h.subset q)
    refine ⟨fun q => h1 (List.mem_of_mem_tail q), ?_⟩
    unfold dropH
    split
    · rename_i hh
      exact absurd (List.mem_of_mem_head? hh) h1
    · exact h
  | cons_cons _ h =>
    refine ⟨fun q => ha (h.subset q), ?_⟩
    unfold dropH
    rw [if_pos (by rfl)]
    exact h
theorem merge_first : ∀ (L : List α) (os : List (List α)), L.Nodup → (∀ o ∈ os, o.Sublist L) → merge (L :: os) = some L
  | [], os, _, h => by
    refine merge_done ?_
    unfold live
    rw [List.filter_eq_nil_iff]
    intro o ho
    rcases List.mem_cons.mp ho with q | q
    · rw [q]; simp
    · rw [List.sublist_nil.mp (h o q)]; simp
  | a :: L, os, nd, h => by
    have hf : free ((a :: L) :: os) a = true := free_iff.mpr fun o ho => by
      rcases List.mem_cons.mp ho with q | q
      · rw [q]
        exact (List.nodup_cons.mp nd).1
      · exact (sub_tail nd (h o q)).1
    have hn : nextT ((a :: L) :: os) = some a := nextT_at (i := 0) (l := a :: L) rfl rfl hf (fun l hl => by simp at hl)
    rw [merge_step hn]
    have hd : dropH a (a :: L) = L := by
      unfold dropH
      rw [if_pos (by rfl)]
      rfl
    rw [List.map_cons, hd, merge_first L (os.map (dropH a)) (List.nodup_cons.mp nd).2 fun o ho => by
      obtain ⟨o', h', rfl⟩ := List.mem_map.mp ho
      exact (sub_tail nd (h o' h')).2]
    rfl
/-- the elders of the k-th of a row: the one ahead, maybe one of the first two behind it -/
def Chain (ts : List α) (k : Nat) (l : List α) : Prop := (k = 0 ∧ l = []) ∨ ∃ a, 0 < k ∧ ts[k - 1]? = some a ∧ (l = [a] ∨ ∃ b j, 3 ≤ k ∧ j < 2 ∧ ts[j]? = some b ∧ l = [a, b])
theorem mem_take_of {ts : List α} {j k : Nat} {b : α} (h : ts[j]? = some b) (hj : j < k) : b ∈ ts.take k := by
  have : (ts.take k)[j]? = some b := by rw [List.getElem?_take, if_pos hj]; exact h
  exact List.mem_of_getElem? this
theorem chain_sch {ts : List α} {es : List (List α)} (nd : ts.Nodup) (hl : es.length = ts.length) (hc : ∀ (k : Nat) l, es[k]? = some l → Chain ts k l) : Sch ts es := by
  refine ⟨hl, nd, fun j l h e he => ?_⟩
  rcases hc j l h with ⟨_, rfl⟩ | ⟨a, hk, ha, q⟩
  · cases he
  · rcases q with rfl | ⟨b, i, h3, hi, hb, rfl⟩
    · rw [List.mem_singleton.mp he]
      exact mem_take_of ha (by omega)
    · rcases List.mem_cons.mp he with q | q
      · rw [q]
        exact mem_take_of ha (by omega)
      · rw [List.mem_singleton.mp q]
        exact mem_take_of hb (by omega)
theorem nodup_rev : ∀ {l : List α}, l.Nodup → l.reverse.Nodup
  | [], _ => List.nodup_nil
  | a :: l, h => by
    rw [List.reverse_cons, List.nodup_append]
    exact ⟨nodup_rev (List.nodup_cons.mp h).2, by simp, fun x hx y hy => by
      simp at hy
      subst hy
      exact fun z => (List.nodup_cons.mp h).1 (z ▸ List.mem_reverse.mp hx)⟩
theorem take_rev {ts : List α} {k : Nat} {x : α} (h : ts[k]? = some x) : (ts.take (k + 1)).reverse = x :: (ts.take k).reverse := by
  rw [List.take_add_one, h]
  simp
theorem long_O {ts : List α} {es : List (List α)} (nd : ts.Nodup) (hl : es.length = ts.length) (hc : ∀ (k : Nat) l, es[k]? = some l → Chain ts k l) :
    ∀ (n k : Nat) (x : α), k ≤ n → ts[k]? = some x → O (EF ts es) (rk ts) x = some (ts.take (k + 1)).reverse := by
  have S := chain_sch nd hl hc
  intro n
  induction n with
  | zero =>
    intro k x hk hx
    have h0 : k = 0 := by omega
    subst h0
    have hk' : 0 < ts.length := (List.getElem?_eq_some_iff.mp hx).1
    have he : es[0]? = some es[0] := List.getElem?_eq_getElem (by omega)
    rw [O_eq (EF_rank S), EF_at S hx he]
    rcases hc 0 _ he with ⟨_, h⟩ | ⟨a, h, _⟩
    · rw [h, take_rev hx]
      simp [orderBy, merge_done, live]
    · omega
  | succ n ih =>
    intro k x hk hx
    by_cases hkn : k ≤ n
    · exact ih k x hkn hx
    · have hk' : k < ts.length := (List.getElem?_eq_some_iff.mp hx).1
      have he : es[k]? = some es[k] := List.getElem?_eq_getElem (by omega)
      rw [O_eq (EF_rank S), EF_at S hx he, take_rev hx]
      have ndr : ((ts.take k).reverse).Nodup := nodup_rev (nd.sublist (List.take_sublist k ts))
      rcases hc k _ he with ⟨h, _⟩ | ⟨a, h0, ha, q⟩
      · omega
      · have hOa : O (EF ts es) (rk ts) a = some (ts.take k).reverse := by
          have := ih (k - 1) a (by omega) ha
          rwa [Nat.sub_add_cancel h0] at this
        have ham : a ∈ (ts.take k).reverse := List.mem_reverse.mpr (mem_take_of ha (by omega))
        rcases q with h | ⟨b, j, h3, hj, hb, h⟩
        · rw [h]
          unfold orderBy
          rw [if_pos (by simp)]
          have hm : [a].mapM (O (EF ts es) (rk ts)) = some [(ts.take k).reverse] := by
            rw [List.mapM_cons, hOa]
            rfl
          rw [hm]
          simp only [Option.bind_some]
          rw [show [(ts.take k).reverse] ++ [[a]] = (ts.take k).reverse :: [[a]] from rfl, merge_first _ _ ndr fun o ho => by
            rw [List.mem_singleton.mp ho]
            exact List.singleton_sublist.mpr ham]
          rfl
        · rw [h]
          have hab : a ≠ b := fun z => by
            have h1 := rk_at nd ha
            have h2 := rk_at nd hb
            rw [z, h2] at h1
            omega
          have hOb : O (EF ts es) (rk ts) b = some (ts.take (j + 1)).reverse := ih j b (by omega) hb
          unfold orderBy
          rw [if_pos (by simp [hab])]
          have hm : [a, b].mapM (O (EF ts es) (rk ts)) = some [(ts.take k).reverse, (ts.take (j + 1)).reverse] := by
            rw [List.mapM_cons, hOa, List.mapM_cons, hOb]
            rfl
          rw [hm]
          simp only [Option.bind_some]
          have hk1 : k = (k - 1) + 1 := by omega
          have hrk : (ts.take k).reverse = a :: (ts.take (k - 1)).reverse := by
            conv => lhs; rw [hk1]
            exact take_rev ha
          rw [show [(ts.take k).reverse, (ts.take (j + 1)).reverse] ++ [[a, b]] = (ts.take k).reverse :: [(ts.take (j + 1)).reverse, [a, b]] from rfl, merge_first _ _ ndr fun o ho => by
            rcases List.mem_cons.mp ho with q | q
            · rw [q]
              refine List.reverse_sublist.mpr ?_
              have : ts.take (j + 1) = (ts.take k).take (j + 1) := by rw [List.take_take, Nat.min_eq_left (by omega)]
              rw [this]
              exact List.take_sublist _ _
            · rw [List.mem_singleton.mp q, hrk]
              refine List.Sublist.cons_cons _ (List.singleton_sublist.mpr (List.mem_reverse.mpr (mem_take_of hb (by omega))))]
          rfl
end
end EM

set_option Elab.async false
set_option linter.all false
set_option maxRecDepth 100000
/-! len(set(xs)), xs a list of texts, any of them alike -/
namespace ST
open PySem PySem.Spec PyProof.Rows
section
variable {κ : Type} [DecidableEq κ]
/-- how many unlike ones are among the first i -/
def cnt (ks : List κ) : Nat → Nat
  | 0 => 0
  | i + 1 => match ks[i]? with
    | none => cnt ks i
    | some k => if k ∈ ks.take i then cnt ks i else cnt ks i + 1
theorem cnt_le (ks : List κ) : ∀ i, cnt ks i ≤ i
  | 0 => Nat.le_refl _
  | i + 1 => by
    have h := cnt_le ks i
    unfold cnt
    split
    · omega
    · split <;> omega
theorem cnt_full (ks : List κ) : ∀ i, i ≤ ks.length → (cnt ks i = i ↔ (ks.take i).Nodup)
  | 0, _ => by simp [cnt]
  | i + 1, h => by
    have ih := cnt_full ks i (by omega)
    have hl := cnt_le ks i
    have hk : ks[i]? = some ks[i] := List.getElem?_eq_getElem (by omega)
    have ht : ks.take (i + 1) = ks.take i ++ [ks[i]] := by rw [List.take_add_one, hk]; rfl
    have hc : cnt ks (i + 1) = if ks[i] ∈ ks.take i then cnt ks i else cnt ks i + 1 := by
      show (match ks[i]? with | none => cnt ks i | some k => if k ∈ ks.take i then cnt ks i else cnt ks i + 1) = _
      rw [hk]
    rw [hc, ht, List.nodup_append]
    by_cases hm : ks[i] ∈ ks.take i
    · rw [if_pos hm]
      constructor
      · intro e; omega
      · rintro ⟨_, _, q⟩
        exact absurd rfl (q _ hm _ (List.mem_singleton.mpr rfl))
    · rw [if_neg hm]
      constructor
      · intro e
        refine ⟨ih.mp (by omega), by simp, fun a ha b hb => ?_⟩
        rw [List.mem_singleton] at hb
        subst hb
        exact fun q => hm (q ▸ ha)
      · rintro ⟨q, _, _⟩
        have := ih.mpr q
        omega
end
section
variable {prog : Program} {w : World} {A : Around} {R : Result → Shared → Prop} {I S : Addr} {fp wr : List Addr} {G : Array GenState → Array GenState → Prop} {n : Nat} {P : Nat → Value → Prop} {St : Nat → Shared → Prop}
  {κ : Type} [DecidableEq κ] {knd : PySem.KeyKind prog w κ}
theorem setOf_kept {h h' : Heap} {f : κ → Bool} {m : Nat} (x : h.SetOf knd S f m) (k : ∀ o, h.get? S = some o → h'.get? S = some o) : h'.SetOf knd S f m :=
  let ⟨o, es, ep, t, ho, r⟩ := x
  ⟨o, es, ep, t, k o ho, r⟩
theorem fill (W : WalksS prog w A.in1 I fp wr G n P St) (ks : List κ) (hout : S ∉ fp) (hn : ks.length = n) (hroom : n + 1 < scanBound)
    (hval : ∀ i v, P i v → ∃ k, ks[i]? = some k ∧ knd.is k v = true ∧ v.scannable = true) :
    ∀ (d i : Nat) (s : Shared), i + d = n → St i s → s.heap.SetOf knd S (fun k => decide (k ∈ ks.take i)) (cnt ks i) →
      (∀ s', Moved (S :: wr) G s s' → s'.heap.SetOf knd S (fun k => decide (k ∈ ks.take n)) (cnt ks n) → R (.ok (.ret .none)) s') →
      codeAny (model prog w) A (.builtin "set.update.loop" ⟨[.ref S, .ref I], []⟩) R s
  | 0, i, s, hd, hst, hS, hR => by
    obtain rfl : i = n := hd
    have hw : S ∉ wr := fun q => hout (W.sub S q)
    refine codeAny_builtin PyProof.Rows.F.entry_set_update_loop ?_
    rw [Around.under_plainId PyProof.Rows.F.plain_set_update_loop]
    refine wpAny_bind (W.done s _ _ hst fun s' hm => wpAny_pure (hR s' ?_ (setOf_kept hS fun o e => hm.heap S o hw e)))
    exact hm.mono fun b q => List.mem_cons_of_mem S q
  | d + 1, i, s, hd, hst, hS, hR => by
    have hw : S ∉ wr := fun q => hout (W.sub S q)
    have hc := cnt_le ks i
    refine codeAny_builtin PyProof.Rows.F.entry_set_update_loop ?_
    rw [Around.under_plainId PyProof.Rows.F.plain_set_update_loop]
    refine wpAny_bind (W.item i s _ _ (by omega) hst fun v s' hP hst' hm => ?_)
    obtain ⟨k, hk, his, hsc⟩ := hval i v hP
    have hS' := setOf_kept (h' := s'.heap) hS fun o e => hm.heap S o hw e
    refine wpAny_bind (wpAny_holding ?_)
    unfold setAdd
    refine wpAny_holding (wpAny_bind (knd.pyHash his ?_))
    refine wpAny_setAddHashed_of (s := { s' with toks := s'.toks + 1 }) his hsc hS' (by omega) fun h' same new => ?_
    have e1 : ks.take (i + 1) = ks.take i ++ [k] := by rw [List.take_add_one, hk]; rfl
    have e2 : cnt ks (i + 1) = if k ∈ ks.take i then cnt ks i else cnt ks i + 1 := by
      show (match ks[i]? with | none => cnt ks i | some k => if k ∈ ks.take i then cnt ks i else cnt ks i + 1) = _
      rw [hk]
    have new' : h'.SetOf knd S (fun j => decide (j ∈ ks.take (i + 1))) (cnt ks (i + 1)) := by
      have ef : (fun j => decide (j ∈ ks.take i) || decide (j = k)) = fun j => decide (j ∈ ks.take (i + 1)) := by
        funext j
        rw [e1]
        simp [List.mem_append, Bool.decide_or]
      have en : (if decide (k ∈ ks.take i) = true then cnt ks i else cnt ks i + 1) = cnt ks (i + 1) := by
        rw [e2]
        by_cases q : k ∈ ks.take i
        · simp [q]
        · simp [q]
      rw [← ef, ← en]
      exact new
    have away : ∀ b, b ≠ S → ∀ o, s'.heap.get? b = some o → h'.get? b = some o := fun b hb o e => by rw [same.2 b hb]; exact e
    refine wpAny_pure ⟨plainId_quiet PyProof.Rows.F.plain_set_update_loop _, fill W ks hout hn hroom hval d (i + 1) _ (by omega) (W.frame _ s' _ _ hst' (Nat.le_succ _) fun b hb o e => away b (fun q => hout (q ▸ hb)) o e) new' fun s2 hm2 hS2 => hR s2 ?_ hS2⟩
    refine Moved.trans W.gtrans ((hm.mono fun b q => List.mem_cons_of_mem S q).then_heap (Nat.le_succ _) fun b o hb e => away b (fun q => hb (q ▸ List.mem_cons_self)) o e) hm2
end
section
variable {prog : Program} {w : World} {A : Around} {E : Value → Shared → Prop} {s : Shared}
/-- T(..) by its new and its init, the init's own look given -/
theorem made_by {T nw ini : String} {Bi : Builtin} {vs : List Value} {Q Q1 : Value → Shared → Prop} (tc : TypeCalled T nw ini) (look : checkTypeCall T ⟨vs, []⟩ = pure ()) (en : entryFor table ini = some Bi)
    (new : codeAny (model prog w) A.in1 (.call (.builtin nw) ⟨.type T :: vs, []⟩) (wants Q1 E) s)
    (then_ : ∀ x s1, Q1 x s1 → s1.TypeIs x T ∧
      wpAny (model prog w) A.in1.in1 (checkBuiltinCall ini ⟨x :: vs, []⟩) (fun _ s1' => wpAny (model prog w) A.in1.in1 (Bi ⟨x :: vs, []⟩)
        (fun fin s' => match fin with | .done f => wants (fun r s2 => r = .none ∧ Q x s2) E (.ok f) s' | .again c => c.quiet = true ∧ codeAny (model prog w) A.in1 c (wants (fun r s2 => r = .none ∧ Q x s2) E) s')
        (fun e s' => wants (fun r s2 => r = .none ∧ Q x s2) E (.error e) s') s1') (fun e s' => wants (fun r s2 => r = .none ∧ Q x s2) E (.error e) s') s1) :
    wpAny (model prog w) A (call (.type T) vs) Q E s := by
  have a1 := tc.made
  have a2 := tc.sub
  have a3 := tc.notType
  have a4 := tc.canCreate
  obtain ⟨_, _, a5⟩ := tc.mro
  refine wpAny_call (codeAny_of_tree (show wpAny _ _ (callAny (.type T) _) _ _ _ from wpAny_pure ⟨Code.quiet_builtin _ (by decide +kernel), codeAny_builtin PySem.F.entry_type_call ?_⟩))
  rw [Around.under_plain (weight_type_call_type T vs []) rfl]
  repeat (any_goals (first | assumption | wp_step))
  refine codeAny_mono new fun r s1 hr => ?_
  match r, hr with
  | .error e, hr => exact hr
  | .ok (.ret x), hr =>
    obtain ⟨hT, hi⟩ := then_ x s1 hr
    have b1 := tc.init.lookup
    have b2 := tc.init.bind x
    repeat (any_goals (first | assumption | wp_step))
    refine codeAny_mono (codeAny_call_builtin tc.init.plain en hi) fun r2 s2 hr2 => ?_
    match r2, hr2 with
    | .error e, hr2 => exact hr2
    | .ok (.ret y), hr2 =>
      obtain ⟨rfl, q⟩ := hr2
      repeat (any_goals (first | assumption | wp_step))
theorem isList_at {h h' : Heap} {l : Addr} {items : Array Value} (x : h.IsList l items) (k : ∀ o, h.get? l = some o → h'.get? l = some o) : h'.IsList l items :=
  let ⟨o, e, r⟩ := x
  ⟨o, k o e, r⟩
/-- the set of a list's texts -/
theorem set_texts {l : Addr} {items : Array Value} {xs : List Str} {Q : Value → Shared → Prop} (hh : A.handled = none) (hl : s.heap.IsList l items) (hi : StrsAre items.toList xs) (hroom : xs.length + 1 < scanBound)
    (h : ∀ (h' : Heap) (tk : Nat), h'.SetOf (PySem.strKind prog w) s.heap.objs.size (fun k => decide (k ∈ xs.take items.size)) (cnt xs items.size) → (∀ b o, s.heap.get? b = some o → h'.get? b = some o) →
      Q (.ref s.heap.objs.size) { s with heap := h', toks := tk }) : wpAny (model prog w) A (call (.type "set") [.ref l]) Q E s := by
  refine made_by (Q1 := fun x s1 => ∃ led : Bool, x = .ref s.heap.objs.size ∧ s1 = { s with heap := s.heap.push { cls := .type "set", dict := none, data := .set #[] 0 (.fresh 0 0 led) } })
    PySem.F.called_set (PySem.F.typeCall_set_1 (.ref l)) PySem.F.entry_set_init (code_set_new_1 (.ref l) fun led => ⟨led, rfl, rfl⟩) ?_
  rintro x s1 ⟨led, rfl, rfl⟩
  have n1 : (s.heap.push { cls := .type "set", dict := none, data := .set #[] 0 (.fresh 0 0 led) }).get? s.heap.objs.size = some { cls := .type "set", dict := none, data := .set #[] 0 (.fresh 0 0 led) } := Heap.get?_push_size _ rfl
  have ty : Shared.TypeIs { s with heap := s.heap.push { cls := .type "set", dict := none, data := .set #[] 0 (.fresh 0 0 led) } } (.ref s.heap.objs.size) "set" := ⟨_, n1, rfl⟩
  refine ⟨ty, check_set_init_1 ty ?_⟩
  have hl1 : (s.heap.push { cls := .type "set", dict := none, data := .set #[] 0 (.fresh 0 0 led) }).IsList l items := isList_at hl fun o e => Heap.get?_push_of_some _ e
  have hlt : l < s.heap.objs.size := let ⟨o, e, _⟩ := hl; Heap.lt_size e
  have hsz : xs.length = items.size := by rw [← StrsAre.len_eq hi, Array.length_toList]
  obtain ⟨ol, hol, hcl, nl, hdl⟩ := id hl1
  obtain ⟨c1, c2, c3, c4⟩ := ol
  simp only at hcl hdl
  subst hcl
  subst hdl
  have f1 := PySem.F.sub_list_set
  have f2 := PySem.F.sub_list_frozenset
  have f3 : (Value.type "list" == Value.type "dict") = false := by decide
  unfold Builtin.«set.__init__» noKeywords Builtin.Frozenset.updateFrom
  generalize hit : pyIter = it
  wp_walk
  subst hit
  refine wpAny_pyIter_list hl1 (wpAny_bind (wpAny_runValue ?_))
  have hne : l ≠ (s.heap.push { cls := .type "set", dict := none, data := .set #[] 0 (.fresh 0 0 led) }).objs.size := by rw [Heap.size_push]; exact Nat.ne_of_lt (Nat.lt_succ_of_lt hlt)
  have hout : s.heap.objs.size ∉ [(s.heap.push { cls := .type "set", dict := none, data := .set #[] 0 (.fresh 0 0 led) }).objs.size, l] := by
    rw [Heap.size_push]
    intro q
    rcases List.mem_cons.mp q with q | q
    · exact absurd q (Nat.ne_of_lt (Nat.lt_succ_self _))
    · exact absurd (List.mem_singleton.mp q) (Nat.ne_of_gt hlt)
  refine fill (knd := PySem.strKind prog w) ((Walks.list (by simp [hh]) _ l hne items).toS) xs hout hsz (by omega) (fun i v hv => ?_) items.size 0 _ (Nat.zero_add _) ⟨⟨_, Heap.get?_push_size _ rfl, rfl, rfl⟩, hl1.push _⟩ ?_ ?_
  · obtain ⟨t, rfl⟩ := SS.strs_at hi i v (by rw [Array.getElem?_toList]; exact hv)
    have hilt : i < xs.length := by rw [hsz]; exact (Array.getElem?_eq_some_iff.mp hv).1
    refine ⟨xs.getD i Str.empty, ?_, strKind_is _ _ _ _, rfl⟩
    rw [List.getD_eq_getElem?_getD, List.getElem?_eq_getElem hilt]
    rfl
  · have e0 : (fun k => decide (k ∈ xs.take 0)) = (fun _ => false : Str → Bool) := by funext k; simp
    rw [e0]
    exact (PyProof.Rows.setObjOf_fresh (knd := PySem.strKind prog w) led).setOf (Heap.get?_push_of_some _ n1) (by unfold scanBound; omega)
  · rintro ⟨h', g', d', tk', os'⟩ hm hS'
    have z1 : g' = s.gens := hm.gens
    have z2 : d' = s.drawn := hm.drawn
    have z3 : os' = s.os := hm.os
    subst z1 z2 z3
    refine wpAny_pure (wpAny_pure ⟨rfl, h h' tk' hS' fun b o e => ?_⟩)
    have hb := Heap.lt_size e
    refine hm.heap b o (fun q => ?_) (Heap.get?_push_of_some _ (Heap.get?_push_of_some _ e))
    rcases List.mem_cons.mp q with q | q
    · exact absurd q (Nat.ne_of_lt hb)
    · rw [List.mem_singleton, Heap.size_push] at q
      exact absurd q (Nat.ne_of_lt (Nat.lt_succ_of_lt hb))
end
end ST
namespace L2
open PySem PySem.Spec PyProof.Rows
/-- len(set(xs)), xs a list of texts -/
def tLenSetS (K : PySem.W.Frag) (ta : TE) : TE := fun σ H Q => ta σ H fun x H1 => ∃ (l : Addr) (xs : List Str), x = .ref l ∧ SqL K H1 l (xs.map V.str) ∧ xs.length ≤ 1000 ∧ ∀ n : Nat, n ≤ xs.length → (n = xs.length ↔ xs.Nodup) → Q (.int n) H1
theorem pe_lenSetS {X : Cx} {K : PySem.W.Frag} {a : Expr} {ta : TE} {p p2 q pos : Pos} (hc : X.calm = true) (hg : Gl X "len") (hm : X.mg "len" = none) (hg2 : Gl X "set") (hm2 : X.mg "set" = none) (ha : PE X a ta)
    (na : starEach [a] X.env = (false, eval a X.env) :: starEach [] X.env := by rfl) (hK : X.K = K := by rfl) : PE X (.Call (.Name "len" p) [.Call (.Name "set" p2) [a] [] q] [] pos) (tLenSetS K ta) := by
  subst hK
  refine ⟨fun pins s σ H Q I h => Call_ (ld_blt I hg hm boot_len (PyProof.Rows.callWith_builtin1 (PyProof.Rows.args_cons (Call_ (ld_blt I hg2 hm2 boot_set ?_)) rfl) rfl rfl))⟩
  refine PyProof.Rows.callWith_type1 (PyProof.Rows.args_cons (thn (ha.run pins s σ H _ I h) fun v s1 ⟨x, H1, I1, r1, l, xs, ex, hS, hz, k⟩ => PyProof.Rows.args_nil ?_) na) na rfl
  subst ex
  cases r1
  obtain ⟨its, r, pl, _⟩ := I1.list hS
  have hlen : its.toArray.size = xs.length := by rw [List.size_toArray, ← r.length, List.length_map]
  refine ST.set_texts (I1.ok.hd hc) pl.isList (by simpa using strsAre_of r) (by unfold scanBound; omega) fun h' tk hS' hk => PyProof.Rows.args_nil ?_
  rw [hlen] at hS'
  obtain ⟨o, es, ep, t, ho, hex, hd, _, _, _, hf, hn⟩ := hS'
  have I2 : Inv X pins σ H1 { s1 with heap := h', toks := tk } := I1.kept hk
  have hle := ST.cnt_le xs xs.length
  refine call_len_set ho hex hd hf (by rw [hn]; omega) ⟨.int (ST.cnt xs xs.length : Nat), H1, I2.tok _, ⟨_, by rw [hn]⟩, k _ hle ?_⟩
  have := ST.cnt_full xs xs.length (Nat.le_refl _)
  rwa [List.take_of_length_le (Nat.le_refl _)] at this
end L2

set_option Elab.async false
set_option linter.all false
set_option maxRecDepth 100000
namespace EX
open PySem L2 Evl

/-! ### a def with its promise, ready to be called -/
structure Def (P : Program) (w : World) (K : PySem.W.Frag) (mg : Str → Option Value) (base : Heap) (k : Nat) (x : Str) (ps : List Str) (sp : Sp) : Prop where
  ex : ∃ (f : Addr) (fd : FuncData), FnOk P w K mg base CX0 k f fd ps sp ∧ mg x = some (.ref f) ∧ PySem.W.keepIn K (.ref f) = true ∧ Binds K fd ps []
theorem pe_def {X : Cx} {k : Nat} {x : Str} {ps : List Str} {sp : Sp} {p pos : Pos} {e : Expr} {es : List Expr} {t : TA} (h : Def X.prog X.w X.K X.mg X.base k x ps sp) (hr : Room k X.A) (hg : Gl X x) (ha : PA X (e :: es) t)
    (hdb : (x == ("__debug__" : Str)) = false := by decide) (he : starEach (e :: es) X.env = (false, eval e X.env) :: starEach es X.env := by rfl) (hpl : (backTo pos (starEach es X.env)).any (·.1) = false := by rfl) :
    PE X (.Call (.Name x p) (e :: es) [] pos) (tCall sp [] E0 t) := by
  obtain ⟨f, fd, F, m, kp, b⟩ := h.ex
  exact pe_call F hr hg m kp b .nil pass0 ha hdb he hpl
theorem pe_def0 {X : Cx} {k : Nat} {x : Str} {ps : List Str} {sp : Sp} {p pos : Pos} (h : Def X.prog X.w X.K X.mg X.base k x ps sp) (hr : Room k X.A) (hg : Gl X x)
    (hdb : (x == ("__debug__" : Str)) = false := by decide) : PE X (.Call (.Name x p) [] [] pos) (tCall sp [] E0 tNil) := by
  obtain ⟨f, fd, F, m, kp, b⟩ := h.ex
  exact pe_call0 F hr hg m kp b .nil pass0 hdb

/-! ### rules with the written part named -/
section
variable {X : Cx} {K : PySem.W.Frag}
theorem ixL (h : X.K = K := by rfl) : IxR X (rIxL K) := h ▸ ix_list
theorem ixT (h : X.K = K := by rfl) : IxR X (rIxT K) := h ▸ ix_tup
theorem slL (h : X.K = K := by rfl) : SlR X (rSlL K) := h ▸ sl_list
theorem slT (h : X.K = K := by rfl) : SlR X (rSlT K) := h ▸ sl_tup
theorem opIn (h : X.K = K := by rfl) : OpR X (compareOp .In) (rIn K false) := h ▸ op_in_seq
theorem opNin (h : X.K = K := by rfl) : OpR X (compareOp .NotIn) (rIn K true) := h ▸ op_notIn_seq
theorem opEqD (hu : X.A.units + 64 < cLine) (h : X.K = K := by rfl) : OpR X (compareOp .Eq) (rEqD K) := h ▸ op_eqD hu
theorem opNeD (hu : X.A.units + 64 < cLine) (h : X.K = K := by rfl) : OpR X (compareOp .NotEq) (rNeD K) := h ▸ op_neD hu
theorem opInD (hu : X.A.units + 65 < cLine) (h : X.K = K := by rfl) : OpR X (compareOp .In) (rInD K) := h ▸ op_inD hu
theorem opNinD (hu : X.A.units + 65 < cLine) (h : X.K = K := by rfl) : OpR X (compareOp .NotIn) (rNotInD K) := h ▸ op_notInD hu
theorem crAny (hc : X.calm = true := by rfl) (h : X.K = K := by rfl) : CallR X (.builtin "any") (rAny K) := h ▸ cr_any hc
theorem crAll (hc : X.calm = true := by rfl) (h : X.K = K := by rfl) : CallR X (.builtin "all") (rAll K) := h ▸ cr_all hc
theorem clLen (h : X.K = K := by rfl) : CallR X (.builtin "len") (rLenS K) := h ▸ call_len_seq
theorem clList (h : X.K = K := by rfl) : CallR X (.type "list") (rListS K) := h ▸ call_list_of
def rDictP (K : PySem.W.Frag) : List V → Hp → VK → Prop := fun xs H Q => ∃ (a : Addr) (ps : List Addr) (kvs : List (Key × V)), xs = [.ref a] ∧ SqL K H a (ps.map V.ref) ∧ Paired (fun p kv => SqT K H p [kV kv.1, kv.2]) ps kvs ∧ ∀ p, H p = none → Q (.ref p) (upd H p (.dK (mergeK [] kvs)))
theorem clDictP (hc : X.calm = true := by rfl) (h : X.K = K := by rfl) : CallR X (.type "dict") (rDictP K) := h ▸ call_dictP hc
theorem piL {tg l : Expr} {tl : TE} (hl : PE X l tl) (h : X.K = K := by rfl) : PI X tg l (iList K tl) := h ▸ pi_list hl
theorem piT {tg l : Expr} {tl : TE} (hl : PE X l tl) (h : X.K = K := by rfl) : PI X tg l (iTup K tl) := h ▸ pi_tup hl
theorem peBm {o e : Expr} {es : List Expr} {to : TE} {t : TA} {name : Str} {apos cpos : Pos} {T id : String} {r : V → List V → Hp → VK → Prop} (pa : PlainAttrs T) (slot : Slot T name id) (hty : typeOf (.builtin id) = pure (.type "method_descriptor")) (hm : MtR X id r) (ho : PE X o to) (ha : PA X (e :: es) t)
    (hbase : attributeBase o name X.env (eval o X.env) = eval o X.env := by rfl)
    (hfew : ((backTo cpos (starEach (e :: es) X.env)).all (fun x => !x.1) && (backToKw cpos (keywordEach [] X.env)).all (fun x => x.1.isSome)
      && decide ((e :: es).length + ([] : List Keyword).length + (if ([] : List Keyword).isEmpty then 0 else 1) < 30)) = true := by rfl)
    (hline : (apos.endLine == cpos.line) = true := by rfl) (hs : starEach (e :: es) X.env = (false, eval e X.env) :: starEach es X.env := by rfl) (hplain : (backTo cpos (starEach es X.env)).any (·.1) = false := by rfl) (h : X.K = K := by rfl) :
    PE X (.Call (.Attribute o name apos) (e :: es) [] cpos) (tBM K T r to t) := h ▸ pe_bm pa slot hty hm ho ha hbase hfew hline hs hplain
end
section
variable {X : Cx} {K : PySem.W.Frag}
theorem hu65 {k : Nat} {A : Around} (hr : Room k A) : A.units + 65 < cLine := by have := hr.un; omega
theorem piEnum {e : Expr} {ta : TA} {p pos tpos : Pos} {elts : List Expr} {kk : Nat} (hg : Gl X "enumerate") (hm : X.mg "enumerate" = none) (ha : PA X [e] ta) (hs : starEach [e] X.env = [(false, eval e X.env)] := by rfl) (h : X.K = K := by rfl) :
    PI X (.Tuple elts kk tpos) (.Call (.Name "enumerate" p) [e] [] pos) (iEnum K ta) := h ▸ pi_enum hg hm ha hs
theorem piRev {tg e : Expr} {ta : TA} {p pos : Pos} (hg : Gl X "reversed") (hm : X.mg "reversed" = none) (ha : PA X [e] ta) (hs : starEach [e] X.env = [(false, eval e X.env)] := by rfl) (h : X.K = K := by rfl) :
    PI X tg (.Call (.Name "reversed" p) [e] [] pos) (iRev K ta) := h ▸ pi_reversed hg hm ha hs
end
/-! ### texts among values -/
theorem inV_str (t : Str) : ∀ l : List Str, inV (.str t) (l.map V.str) = decide (t ∈ l)
  | [] => rfl
  | a :: l => by
    have ih := inV_str t l
    unfold inV at ih ⊢
    rw [List.map_cons, List.any_cons, ih]
    show ((a == t) || decide (t ∈ l)) = decide (t ∈ a :: l)
    by_cases e : a = t
    · subst e; simp
    · have h1 : (a == t) = false := by simpa [beq_iff_eq] using e
      have h2 : ¬ t = a := fun q => e q.symm
      rw [h1, Bool.false_or]
      simp [List.mem_cons, h2]
theorem flat_str (l : List Str) : (l.map V.str).all flatV = true := by
  induction l with
  | nil => rfl
  | cons a l ih => rw [List.map_cons, List.all_cons, ih]; rfl
theorem at0 {α : Type} {x : α} {r : List α} : atI (x :: r) 0 = some x := atI_nat (j := 0) rfl
def optS : Option Str → V
  | none => .non
  | some t => .str t
theorem cut1 {xs : List V} : cutV xs (some 1) none = xs.tail := by
  unfold cutV
  rw [HT.sIx_none]
  have h1 : HT.sIx xs.length 0 (some 1) = min 1 xs.length := HT.sIx_nat xs.length 0 1
  rw [h1]
  cases xs with
  | nil => rfl
  | cons a r =>
    have h2 : min 1 (a :: r).length = 1 := by simp
    rw [h2]
    simp
/-! ### readings that evaluate -/
section
variable {K : PySem.W.Frag} {σ : L2.St} {H H' : Hp} {ta tb te : TE}
theorem ev_any {bs : List Bool} (h : EvL te σ H (bs.map V.bl)) : Ev (tCB (rAny K) (tCons te tNil)) σ H (.bl (bs.any id)) := fun H1 e Q q =>
  h H1 e _ fun p H2 _ e2 hp => ⟨p, bs, rfl, sq_of hp, q H2 e2⟩
theorem ev_all {bs : List Bool} (h : EvL te σ H (bs.map V.bl)) : Ev (tCB (rAll K) (tCons te tNil)) σ H (.bl (bs.all id)) := fun H1 e Q q =>
  h H1 e _ fun p H2 _ e2 hp => ⟨p, bs, rfl, sq_of hp, q H2 e2⟩
end
section
variable {K : PySem.W.Frag} {σ : L2.St} {H H' : Hp} {ta tb te : TE} {D : Ends} {x : V}
theorem rv_isN : RV (fun x y H Q => y = .non ∧ Q (.bl (decide (x = .non))) H) x .non H (.bl (decide (x = .non))) := fun H1 _ _ q => ⟨rfl, q H1 (Ex.refl H1)⟩
theorem rv_notN : RV (fun x y H Q => y = .non ∧ Q (.bl (!decide (x = .non))) H) x .non H (.bl (!decide (x = .non))) := fun H1 _ _ q => ⟨rfl, q H1 (Ex.refl H1)⟩
/-- xs.pop(0) as a statement -/
theorem s_pop0 {l : Addr} {y : V} {xs : List V} (hl : H l = some (.lst (y :: xs))) (ha : Ev ta σ H (.ref l)) (h : Ev te σ H (.int 0)) (k : ∀ H1, Ex H H1 → D.nx σ (upd H1 l (.lst xs))) : tDrop (tBM K "list" rPopAt ta (tCons te tNil)) D σ H :=
  ha H (Ex.refl H) _ fun H1 e1 => ⟨Or.inl ⟨rfl, _, sq_of (e1 l _ hl)⟩, h H1 e1 _ fun H2 e2 => ⟨l, y :: xs, 0, 0, y, rfl, rfl, e2 l _ (e1 l _ hl), by decide, by decide, by simp [seqIndex?], rfl, k H2 (e1.trans e2)⟩⟩
end
/-- lists of texts at the addresses that a list holds -/
def Rows (K : PySem.W.Frag) (H : Hp) (ps : List V) (ls : List (List Str)) : Prop :=
  ps.length = ls.length ∧ ∀ (i : Nat) (l : List Str), ls[i]? = some l → ∃ p, ps[i]? = some (.ref p) ∧ SqL K H p (l.map V.str)
theorem Rows.mono {K : PySem.W.Frag} {H H' : Hp} {ps : List V} {ls : List (List Str)} (r : Rows K H ps ls) (e : Ex H H') : Rows K H' ps ls :=
  ⟨r.1, fun i l h => let ⟨p, h1, h2⟩ := r.2 i l h; ⟨p, h1, ex_l e h2⟩⟩
theorem Rows.at {K : PySem.W.Frag} {H : Hp} {ps : List V} {ls : List (List Str)} (r : Rows K H ps ls) {i : Nat} {x : V} (h : ps[i]? = some x) : ∃ p l, x = .ref p ∧ ls[i]? = some l ∧ SqL K H p (l.map V.str) := by
  have hi : i < ls.length := by rw [← r.1]; exact (List.getElem?_eq_some_iff.mp h).1
  obtain ⟨p, h1, h2⟩ := r.2 i ls[i] (List.getElem?_eq_getElem hi)
  rw [h] at h1
  exact ⟨p, ls[i], Option.some.inj h1, List.getElem?_eq_getElem hi, h2⟩
/-! ### more of comprehensions -/
theorem range_getD {α : Type} (rs : List α) (d : α) : (List.range rs.length).map (fun i => rs.getD i d) = rs := by
  apply List.ext_getElem?
  intro j
  by_cases h : j < rs.length
  · rw [List.getElem?_map, List.getElem?_range h, List.getElem?_eq_getElem h]
    show some (rs.getD j d) = _
    rw [List.getD_eq_getElem?_getD, List.getElem?_eq_getElem h]
    rfl
  · rw [List.getElem?_eq_none (by simp; omega), List.getElem?_eq_none (by omega)]
theorem range_filter {α β : Type} (rs : List α) (d : α) (p : α → Bool) (f : α → β) : ((List.range rs.length).filter fun i => p (rs.getD i d)).map (fun i => f (rs.getD i d)) = (rs.filter p).map f := by
  conv => rhs; rw [← range_getD rs d]
  rw [List.filter_map, List.map_map]
  rfl
theorem given_filter {α : Type} (rs : List α) (d : α) (p : α → Bool) (f : α → V) : given rs.length (fun i => p (rs.getD i d)) (fun i => f (rs.getD i d)) = (rs.filter p).map f := range_filter rs d p f
theorem given_map {α : Type} (rs : List α) (d : α) (f : α → V) : given rs.length (fun _ => true) (fun i => f (rs.getD i d)) = rs.map f := by
  have := given_filter rs d (fun _ => true) f
  rwa [List.filter_eq_self.mpr (fun _ _ => rfl)] at this
theorem getD_of {α : Type} {rs : List α} {j : Nat} {x d : α} (h : rs[j]? = some x) : rs.getD j d = x := by
  rw [List.getD_eq_getElem?_getD, h]
  rfl
/-- lists at addresses -/
def LAt (H : Hp) (qs : List Addr) (ls : List (List V)) : Prop := qs.length = ls.length ∧ ∀ (i : Nat) (l : List V), ls[i]? = some l → ∃ q, qs[i]? = some q ∧ H q = some (.lst l)
theorem LAt.mono {H H' : Hp} {qs : List Addr} {ls : List (List V)} (r : LAt H qs ls) (e : ∀ q ∈ qs, ∀ o, H q = some o → H' q = some o) : LAt H' qs ls :=
  ⟨r.1, fun i l h => let ⟨q, h1, h2⟩ := r.2 i l h; ⟨q, h1, e q (List.mem_of_getElem? h1) _ h2⟩⟩
theorem LAt.all {H : Hp} {qs : List Addr} {ls : List (List V)} (r : LAt H qs ls) {q : Addr} (h : q ∈ qs) : ∃ l, H q = some (.lst l) := by
  obtain ⟨i, hi, e⟩ := List.getElem_of_mem h
  have hl : i < ls.length := by rw [← r.1]; exact hi
  obtain ⟨q', h1, h2⟩ := r.2 i ls[i] (List.getElem?_eq_getElem hl)
  rw [List.getElem?_eq_getElem hi, e] at h1
  cases h1
  exact ⟨_, h2⟩
theorem LAt.snoc {H : Hp} {qs : List Addr} {ls : List (List V)} {p : Addr} {l : List V} (r : LAt H qs ls) (h : H p = some (.lst l)) : LAt H (qs ++ [p]) (ls ++ [l]) := by
  refine ⟨by simp [r.1], fun i x hx => ?_⟩
  by_cases hi : i < ls.length
  · rw [List.getElem?_append_left hi] at hx
    obtain ⟨q, h1, h2⟩ := r.2 i x hx
    exact ⟨q, by rw [List.getElem?_append_left (by rw [r.1]; exact hi)]; exact h1, h2⟩
  · rw [List.getElem?_append_right (by omega)] at hx
    have h0 : i - ls.length = 0 := by
      cases hz : i - ls.length with
      | zero => rfl
      | succ n => rw [hz] at hx; simp at hx
    rw [h0] at hx
    simp at hx
    subst hx
    refine ⟨p, ?_, h⟩
    rw [List.getElem?_append_right (by rw [r.1]; omega), r.1, h0]
    rfl
def givenL (n : Nat) (f : Nat → Bool) (v : Nat → List V) : List (List V) := ((List.range n).filter f).map v
theorem givenL_yes {n : Nat} {f : Nat → Bool} {v : Nat → List V} (h : f n = true) : givenL (n + 1) f v = givenL n f v ++ [v n] := by
  unfold givenL
  rw [List.range_succ, List.filter_append, List.map_append, List.filter_cons, if_pos h]
  rfl
theorem givenL_no {n : Nat} {f : Nat → Bool} {v : Nat → List V} (h : f n = false) : givenL (n + 1) f v = givenL n f v := by
  unfold givenL
  rw [List.range_succ, List.filter_append, List.map_append, List.filter_cons, if_neg (by rw [h]; decide)]
  simp
theorem givenL_len (n : Nat) (f : Nat → Bool) (v : Nat → List V) : (givenL n f v).length ≤ n := by
  unfold givenL
  rw [List.length_map]
  have h := List.length_filter_le f (List.range n)
  rwa [List.length_range] at h
/-- new lists, all apart, in a new list -/
structure NewL (H H' : Hp) (D : Addr) (qs : List Addr) (ls : List (List V)) : Prop where
  nD : H D = none
  ex : Ex H H'
  at_ : H' D = some (.lst (qs.map V.ref))
  out : D ∉ qs
  nd : qs.Nodup
  new : ∀ q ∈ qs, H q = none
  rows : LAt H' qs ls
theorem nodup_snoc {α : Type} {l : List α} {a : α} (h : l.Nodup) (ha : a ∉ l) : (l ++ [a]).Nodup := by
  rw [List.nodup_append]
  exact ⟨h, by simp, fun x hx y hy => by simp at hy; subst hy; exact fun e => ha (e ▸ hx)⟩
section
variable {K : PySem.W.Frag} {σ : L2.St} {H : Hp} {te tl : TE} {t : TT}
theorem newL_turn {H0 H' : Hp} {D : Addr} {qs : List Addr} {n : Nat} {f : Nat → Bool} {v : Nat → List V} {σ2 : L2.St} (r : NewL H0 H' D qs (givenL n f v)) (hn : n < 50000) (ht : EvT t σ2 H0 (f n)) (he : f n = true → EvL te σ2 H0 (v n)) :
    t σ2 H' fun b H3 => if b = true then te σ2 H3 fun y H4 => ∃ acc, H4 D = some (.lst acc) ∧ acc.length < sizeLine ∧ (∃ qs', NewL H0 (upd H4 D (.lst (acc ++ [y]))) D qs' (givenL (n + 1) f v)) else ∃ qs', NewL H0 H3 D qs' (givenL (n + 1) f v) := by
  refine ht H' r.ex _ fun H3 e3 => ?_
  have rows3 := r.rows.mono (H' := H3) fun q _ o e => e3 q o e
  cases hf : f n with
  | false =>
    show ∃ qs', NewL H0 H3 D qs' (givenL (n + 1) f v)
    rw [givenL_no hf]
    exact ⟨qs, r.nD, r.ex.trans e3, e3 _ _ r.at_, r.out, r.nd, r.new, rows3⟩
  | true =>
    show te σ2 H3 _
    refine he hf H3 (r.ex.trans e3) _ fun p H4 hp e4 hp4 => ?_
    have hl : qs.length ≤ n := by rw [r.rows.1]; exact givenL_len n f v
    have hD3 : H3 D = some (.lst (qs.map V.ref)) := e3 _ _ r.at_
    have hpD : p ≠ D := fun q => by rw [q, hD3] at hp; cases hp
    have hpq : p ∉ qs := fun q => by
      obtain ⟨l, hl⟩ := rows3.all q
      rw [hl] at hp
      cases hp
    refine ⟨qs.map V.ref, e4 _ _ hD3, sz_lt (by rw [List.length_map]; omega), qs ++ [p], r.nD, Ex.mut ((r.ex.trans e3).trans e4) r.nD, ?_, ?_, nodup_snoc r.nd hpq, ?_, ?_⟩
    · rw [upd_same, List.map_append]
      rfl
    · intro q
      rcases List.mem_append.mp q with q | q
      · exact r.out q
      · exact hpD (List.mem_singleton.mp q).symm
    · intro q hq
      rcases List.mem_append.mp hq with hq | hq
      · exact r.new q hq
      · rw [List.mem_singleton.mp hq]
        exact fresh_back (r.ex.trans e3) hp
    · rw [givenL_yes hf]
      refine LAt.snoc (rows3.mono fun q hq o e => ?_) ?_
      · have hqD : q ≠ D := fun z => r.out (by rw [← z]; exact hq)
        rw [upd_ne hqD]
        exact e4 _ _ e
      · rw [upd_ne hpD]
        exact hp4
theorem lcNew {a : Addr} {xs : List V} {j : Nat} {vs : List Nat} (f : Nat → Bool) (v : Nat → List V) (h : Ev tl σ H (.ref a)) (hx : SqL K H a xs) (hz : xs.length ≤ 40000) (hw : ∀ x, wipe ((wipe σ vs).set j (some x)) vs = wipe σ vs)
    (ht : ∀ (i : Nat) (x : V) H1, Ex H H1 → xs[i]? = some x → EvT t ((wipe σ vs).set j (some x)) H1 (f i)) (he : ∀ (i : Nat) (x : V) H1, Ex H H1 → xs[i]? = some x → f i = true → EvL te ((wipe σ vs).set j (some x)) H1 (v i))
    {Q : VK} (q : ∀ Dl qs H', NewL H H' Dl qs (givenL xs.length f v) → Q (.ref Dl) H') : tLc (iList K tl) (gName j) t te vs σ H Q :=
  h H (Ex.refl H) _ fun H1 e1 => ⟨a, rfl, ⟨xs, ex_l e1 hx⟩, fun Dl hD =>
    lc_list (xs := xs) (fun i H' => ∃ qs, NewL H1 H' Dl qs (givenL i f v)) ⟨[], hD, Ex.new hD, upd_same, by simp, List.nodup_nil, (fun q hq => nomatch hq), rfl, (fun i l hl => by simp [givenL] at hl)⟩
      (fun i H' _ ⟨qs, r⟩ => ex_l (e1.trans r.ex) hx)
      (fun i x H' hi ⟨qs, r⟩ => ⟨hw x, newL_turn r (by have := (List.getElem?_eq_some_iff.mp hi).1; omega) (ht i x H1 e1 hi) (fun hf => he i x H1 e1 hi hf)⟩)
      (fun H' ⟨qs, r⟩ => q Dl qs H' ⟨fresh_back e1 r.nD, e1.trans r.ex, r.at_, r.out, r.nd, (fun a ha => fresh_back e1 (r.new a ha)), r.rows⟩)⟩
theorem q_lcNew {D : Ends} {tz : TS} {i : Nat} {a : Addr} {xs : List V} {j : Nat} {vs : List Nat} (f : Nat → Bool) (v : Nat → List V) (h : Ev tl σ H (.ref a)) (hx : SqL K H a xs) (hz : xs.length ≤ 40000) (hw : ∀ x, wipe ((wipe σ vs).set j (some x)) vs = wipe σ vs)
    (ht : ∀ (i : Nat) (x : V) H1, Ex H H1 → xs[i]? = some x → EvT t ((wipe σ vs).set j (some x)) H1 (f i)) (he : ∀ (i : Nat) (x : V) H1, Ex H H1 → xs[i]? = some x → f i = true → EvL te ((wipe σ vs).set j (some x)) H1 (v i))
    (k : ∀ Dl qs H', NewL H H' Dl qs (givenL xs.length f v) → tz D (σ.set i (some (.ref Dl))) H') : tSeq (tAsg (tLc (iList K tl) (gName j) t te vs) (gName i)) tz D σ H :=
  lcNew (Q := fun x H1 => gName i x σ H1 (tz D)) f v h hx hz hw ht he k
end
/-! ### data: lists of texts, or none -/
def dS (l : List Str) : PyData := .list (l.map .str)
def dO : Option (List Str) → PyData
  | none => .none
  | some l => dS l
def Oks (l : List Str) : Prop := ∀ x ∈ l, PyData.strOk x = true
theorem canLayAll_strs : ∀ {l : List Str}, Oks l → PyData.canLayAll0 (l.map .str) = true
  | [], _ => rfl
  | a :: l, h => by
    show (PyData.strOk a && PyData.canLayAll0 (l.map .str)) = true
    rw [h a List.mem_cons_self, canLayAll_strs fun x hx => h x (List.mem_cons_of_mem _ hx)]
    rfl
theorem depthAll_strs : ∀ l : List Str, PyData.depthAll (l.map .str) = 0
  | [] => by simp [PyData.depthAll]
  | a :: l => by
    have := depthAll_strs l
    simp [PyData.depthAll, PyData.depth, this]
theorem depth_dS (l : List Str) : (dS l).depth = 1 := by
  unfold dS
  simp [PyData.depth, depthAll_strs]
theorem shaped_dS {l : List Str} (h : Oks l) : SeqAt.shaped (dS l) = true := by
  unfold SeqAt.shaped
  rw [depth_dS]
  show (PyData.canLayAll0 (l.map .str) && _) = true
  rw [canLayAll_strs h]
  rfl
theorem shaped_none : SeqAt.shaped .none = true := by
  unfold SeqAt.shaped
  simp [PyData.canLay0, PyData.depth]
theorem shaped_str {x : Str} (h : PyData.strOk x = true) : SeqAt.shaped (.str x) = true := by
  unfold SeqAt.shaped
  simp [PyData.canLay0, PyData.depth, h]
def OksO (r : Option (List Str)) : Prop := ∀ l, r = some l → Oks l
theorem shaped_dO {r : Option (List Str)} (h : OksO r) : SeqAt.shaped (dO r) = true := by
  cases r with
  | none => exact shaped_none
  | some l => exact shaped_dS (h l rfl)
theorem depth_dO (r : Option (List Str)) : (dO r).depth ≤ 1 := by
  cases r with
  | none => simp [dO, PyData.depth]
  | some l => rw [show dO (some l) = dS l from rfl, depth_dS]; exact Nat.le_refl _
theorem shaped_dOs {rs : List (Option (List Str))} (h : ∀ r ∈ rs, OksO r) : SeqAt.shaped (.list (rs.map dO)) = true := by
  have h1 : PyData.canLayAll0 (rs.map dO) = true ∧ PyData.depthAll (rs.map dO) ≤ 1 := by
    induction rs with
    | nil => exact ⟨rfl, by simp [PyData.depthAll]⟩
    | cons r rs ih =>
      obtain ⟨a, b⟩ := ih fun x hx => h x (List.mem_cons_of_mem _ hx)
      have c := shaped_dO (h r List.mem_cons_self)
      have d := depth_dO r
      refine ⟨?_, ?_⟩
      · show (PyData.canLay0 (dO r) && PyData.canLayAll0 (rs.map dO)) = true
        rw [SeqAt.canLay_of_shaped c, a]
        rfl
      · rw [List.map_cons]
        simp only [PyData.depthAll]
        omega
  unfold SeqAt.shaped
  show (PyData.canLayAll0 (rs.map dO) && decide (PyData.depth (.list (rs.map dO)) ≤ 64)) = true
  rw [h1.1]
  have : PyData.depth (.list (rs.map dO)) ≤ 64 := by
    simp only [PyData.depth]
    omega
  simp [this]
theorem eqv_strs : ∀ a b : List Str, PyData.eqvAll (a.map .str) (b.map .str) = decide (a = b)
  | [], [] => by simp [PyData.eqvAll]
  | [], _ :: _ => by simp [PyData.eqvAll]
  | _ :: _, [] => by simp [PyData.eqvAll]
  | x :: a, y :: b => by
    rw [List.map_cons, List.map_cons]
    simp only [PyData.eqvAll, PyData.eqv, eqv_strs a b]
    by_cases h : x = y
    · subst h; simp
    · simp [h]
theorem eqv_dS (a b : List Str) : PyData.eqv (dS a) (dS b) = decide (a = b) := by
  unfold dS
  simp only [PyData.eqv]
  exact eqv_strs a b
theorem eqv_dO (a b : Option (List Str)) : PyData.eqv (dO a) (dO b) = decide (a = b) := by
  cases a with
  | none =>
    cases b with
    | none => simp [dO, PyData.eqv]
    | some l => simp [dO, dS, PyData.eqv]
  | some k =>
    cases b with
    | none => simp [dO, dS, PyData.eqv]
    | some l =>
      show PyData.eqv (dS k) (dS l) = _
      rw [eqv_dS]
      simp
theorem any_none (rs : List (Option (List Str))) : ((rs.map dO).any fun z => PyData.eqv z .none) = rs.any (·.isNone) := by
  rw [List.any_map]
  congr 1
  funext r
  show PyData.eqv (dO r) (dO none) = _
  rw [eqv_dO]
  cases r <;> simp
section
variable {K : PySem.W.Frag} {H : Hp}
theorem dp_all_strs : ∀ l : List Str, DpAll K H (l.map V.str) (l.map .str)
  | [] => .nil
  | a :: l => .cons (.str a) (dp_all_strs l)
theorem dp_S {p : Addr} {l : List Str} (h : SqL K H p (l.map V.str)) : Dp K H (.ref p) (dS l) := .lst h (dp_all_strs l)
/-- a value that is none or a list of texts -/
def ValO (K : PySem.W.Frag) (H : Hp) (v : V) (r : Option (List Str)) : Prop := match r with
  | none => v = .non
  | some l => ∃ p, v = .ref p ∧ SqL K H p (l.map V.str)
theorem ValO.mono {H' : Hp} {v : V} {r : Option (List Str)} (h : ValO K H v r) (e : Ex H H') : ValO K H' v r := by
  cases r with
  | none => exact h
  | some l =>
    obtain ⟨p, a, b⟩ := h
    exact ⟨p, a, ex_l e b⟩
theorem dp_O {v : V} {r : Option (List Str)} (h : ValO K H v r) : Dp K H v (dO r) := by
  cases r with
  | none =>
    have : v = .non := h
    subst this
    exact .non
  | some l =>
    obtain ⟨p, rfl, b⟩ := h
    exact dp_S b
theorem dp_Os : ∀ {vs : List V} {rs : List (Option (List Str))}, vs.length = rs.length → (∀ (i : Nat) v r, vs[i]? = some v → rs[i]? = some r → ValO K H v r) → DpAll K H vs (rs.map dO)
  | [], [], _, _ => .nil
  | v :: vs, r :: rs, hl, h => .cons (dp_O (h 0 v r rfl rfl)) (dp_Os (by simpa using hl) fun i a b ha hb => h (i + 1) a b (by simpa using ha) (by simpa using hb))
  | [], _ :: _, hl, _ => by simp at hl
  | _ :: _, [], hl, _ => by simp at hl
end
/-! ### dicts, lists: what evaluates -/
section
variable {K : PySem.W.Frag} {σ : L2.St} {H : Hp} {ta tb te td ty : TE} {D : Ends} {tz : TS} {x v : V}
theorem dget_of {d : Addr} {kvs : List (Key × V)} {k : Key} (hd : Rd H d (.dK kvs)) : DGet H d (kV k) (valV kvs k) := .inl ⟨kvs, k, hd, rfl, rfl⟩
theorem ev_dget {d : Addr} {kvs : List (Key × V)} {k : Key} (h1 : Ev td σ H (.ref d)) (h2 : Ev ty σ H (kV k)) (hd : Rd H d (.dK kvs)) (hv : valV kvs k = some v) : Ev (tDGet td ty) σ H v := fun H1 e Q q =>
  h1 H1 e _ fun H2 e2 => h2 H2 (e.trans e2) _ fun H3 e3 => ⟨d, v, rfl, by rw [← hv]; exact dget_of (ex_rd ((e.trans e2).trans e3) hd), q H3 (e2.trans e3)⟩
theorem ev_din {d : Addr} {kvs : List (Key × V)} {k : Key} (h2 : Ev ty σ H (kV k)) (h1 : Ev td σ H (.ref d)) (hd : Rd H d (.dK kvs)) : Ev (tDIn ty td) σ H (.bl (valV kvs k).isSome) := fun H1 e Q q =>
  h2 H1 e _ fun H2 e2 => h1 H2 (e.trans e2) _ fun H3 e3 => ⟨d, _, rfl, dget_of (ex_rd ((e.trans e2).trans e3) hd), q H3 (e2.trans e3)⟩
theorem ev_dnin {d : Addr} {kvs : List (Key × V)} {k : Key} (h2 : Ev ty σ H (kV k)) (h1 : Ev td σ H (.ref d)) (hd : Rd H d (.dK kvs)) : Ev (tDNotIn ty td) σ H (.bl (!(valV kvs k).isSome)) := fun H1 e Q q =>
  h2 H1 e _ fun H2 e2 => h1 H2 (e.trans e2) _ fun H3 e3 => ⟨d, _, rfl, dget_of (ex_rd ((e.trans e2).trans e3) hd), q H3 (e2.trans e3)⟩
/-- xs + [..] -/
theorem el_cat {l : Addr} {xs ys : List V} (ha : Ev ta σ H (.ref l)) (hl : H l = some (.lst xs)) (hb : EvL tb σ H ys) (hz : xs.length + ys.length ≤ 100000) : EvL (tOp rCat ta tb) σ H (xs ++ ys) := fun H1 e Q q =>
  ha H1 e _ fun H2 e2 => hb H2 (e.trans e2) _ fun b H3 _ e3 hb3 => ⟨l, b, xs, ys, rfl, rfl, ((e.trans e2).trans e3) _ _ hl, hb3, sz_of hz, fun p hp => q p _ (fresh_back (e2.trans e3) hp) ((e2.trans e3).trans (Ex.new hp)) upd_same⟩
/-- [..] + xs -/
theorem el_cat1 {b : Addr} {xs ys : List V} (ha : EvL ta σ H xs) (hb : Ev tb σ H (.ref b)) (hl : H b = some (.lst ys)) (hz : xs.length + ys.length ≤ 100000) : EvL (tOp rCat ta tb) σ H (xs ++ ys) := fun H1 e Q q =>
  ha H1 e _ fun a H2 _ e2 ha2 => hb H2 (e.trans e2) _ fun H3 e3 => ⟨a, b, xs, ys, rfl, rfl, e3 _ _ ha2, ((e.trans e2).trans e3) _ _ hl, sz_of hz, fun p hp => q p _ (fresh_back (e2.trans e3) hp) ((e2.trans e3).trans (Ex.new hp)) upd_same⟩
/-- [..] + [..] -/
theorem el_cat2 {xs ys : List V} (ha : EvL ta σ H xs) (hb : EvL tb σ H ys) (hz : xs.length + ys.length ≤ 100000) : EvL (tOp rCat ta tb) σ H (xs ++ ys) := fun H1 e Q q =>
  ha H1 e _ fun a H2 _ e2 ha2 => hb H2 (e.trans e2) _ fun b H3 _ e3 hb3 => ⟨a, b, xs, ys, rfl, rfl, e3 _ _ ha2, hb3, sz_of hz, fun p hp => q p _ (fresh_back (e2.trans e3) hp) ((e2.trans e3).trans (Ex.new hp)) upd_same⟩
/-- None in a list of such values; d: its data -/
theorem rv_inD {a : Addr} {d : PyData} {ds : List PyData} (h1 : Dp K H x d) (h2 : Dp K H (.ref a) (.list ds)) (s1 : SeqAt.shaped d = true) (s2 : SeqAt.shaped (.list ds) = true) (hm : ∀ H1, Ex H H1 → Dp K H1 x d ∧ Dp K H1 (.ref a) (.list ds)) :
    RV (rInD K) x (.ref a) H (.bl (ds.any fun z => PyData.eqv z d)) := fun H1 e _ q => ⟨d, ds, (hm H1 e).1, (hm H1 e).2, s1, s2, q H1 (Ex.refl H1)⟩
/-- len(set(xs)) < len(xs) -/
theorem et_lenSet {l : Addr} {xs : List Str} (h : Ev ta σ H (.ref l)) (hS : SqL K H l (xs.map V.str)) (hz : xs.length ≤ 1000) : EvT (tTest (tOp (rI0 fun i j => .bl (decide (i < j))) (tLenSetS K ta) (tCB (rLenS K) (tCons ta tNil)))) σ H (!decide xs.Nodup) := fun H1 e Q q =>
  h H1 e _ fun H2 e2 => ⟨l, xs, rfl, ex_l (e.trans e2) hS, hz, fun n hn hi => ev_len (K := K) h hS H2 (e.trans e2) _ fun H3 e3 => ⟨n, (xs.map V.str).length, rfl, rfl, _, rfl, by
    have hb : decide ((n : Int) < ((xs.map V.str).length : Nat)) = !decide xs.Nodup := by
      rw [List.length_map]
      by_cases nd : xs.Nodup
      · have := hi.mpr nd
        simp [nd, this]
      · have : n ≠ xs.length := fun z => nd (hi.mp z)
        simp [nd]
        omega
    rw [hb]
    exact q H3 (e2.trans e3)⟩⟩
/-- xs.extend(ys) -/
theorem s_ext {l b : Addr} {xs ys : List V} (hl : H l = some (.lst xs)) (hb : H b = some (.lst ys)) (ha : Ev ta σ H (.ref l)) (h : Ev te σ H (.ref b)) (hz : xs.length + ys.length ≤ 100000) (k : ∀ H1, Ex H H1 → D.nx σ (upd H1 l (.lst (xs ++ ys)))) :
    tDrop (tBM K "list" rExtend ta (tCons te tNil)) D σ H := ha H (Ex.refl H) _ fun H1 e1 =>
  ⟨Or.inl ⟨rfl, xs, sq_of (e1 l _ hl)⟩, h H1 e1 _ fun H2 e2 => ⟨l, b, xs, ys, rfl, rfl, e2 l _ (e1 l _ hl), e2 b _ (e1 b _ hb), sz_of hz, k H2 (e1.trans e2)⟩⟩
/-- d[k] = v, v told by what holds of it -/
theorem s_dputG {d : Addr} {k : Key} {tv : TE} (G : V → Hp → Prop) (hv : ∀ Q : VK, (∀ v H1, G v H1 → Q v H1) → tv σ H Q)
    (h : ∀ v H1, G v H1 → ∃ kvs, H1 d = some (.dK kvs) ∧ kvs.length < 100000 ∧ Ev td σ H1 (.ref d) ∧ Ev ty σ H1 (kV k) ∧ ∀ H2, Ex H1 H2 → D.nx σ (upd H2 d (.dK (putK kvs k v)))) : sDPut td ty tv D σ H :=
  hv _ fun v H1 g => by
    obtain ⟨kvs, a, b, c, c', n⟩ := h v H1 g
    exact c H1 (Ex.refl H1) _ fun H2 e2 => c' H2 e2 _ fun H3 e3 => ⟨d, _, rfl, DPut.k ((e2.trans e3) _ _ a) (sz_lt b), n H3 (e2.trans e3)⟩
/-- xs.pop() -/
theorem q_pop {l : Addr} {xs : List V} {y : V} (hl : H l = some (.lst (xs ++ [y]))) (ha : Ev ta σ H (.ref l)) (k : ∀ H1, Ex H H1 → tz D σ (upd H1 l (.lst xs))) :
    tSeq (tDrop (tBM0 K "list" rPop ta)) tz D σ H := ha H (Ex.refl H) _ fun H1 e1 =>
  ⟨Or.inl ⟨rfl, _, sq_of (e1 l _ hl)⟩, l, xs ++ [y], y, rfl, rfl, e1 l _ hl, by simp, by
    rw [List.dropLast_concat]
    exact k H1 e1⟩
end
/-! ### some value of which P holds -/
def EvN (te : TE) (σ : L2.St) (H : Hp) (P : V → Prop) : Prop := ∀ H1, Ex H H1 → ∀ Q : VK, (∀ v H2, Ex H1 H2 → P v → Q v H2) → te σ H1 Q
section
variable {σ : L2.St} {H : Hp} {ta tb te : TE} {P P1 P2 : V → Prop} {v : V} {r : R2} {D : Ends} {tz : TS}
theorem en_ev (h : Ev te σ H v) : EvN te σ H (fun x => x = v) := fun H1 e Q q => h H1 e Q fun H2 e2 => q v H2 e2 rfl
theorem en_op (ha : EvN ta σ H P1) (hb : EvN tb σ H P2) (hr : ∀ x y, P1 x → P2 y → ∃ z, P z ∧ RV r x y H z) : EvN (tOp r ta tb) σ H P := fun H1 e Q q =>
  ha H1 e _ fun x H2 e2 p1 => hb H2 (e.trans e2) _ fun y H3 e3 p2 => by
    obtain ⟨z, pz, hz⟩ := hr x y p1 p2
    exact hz H3 ((e.trans e2).trans e3) Q fun H4 e4 => q z H4 ((e2.trans e3).trans e4) pz
theorem en_call {sp : Sp} {dvs vs : List V} {E : XK} {ta : TA} (h : EvA ta σ H vs) (hs : ∀ H1, Ex H H1 → ∀ Q : VK, (∀ v H2, Ex H1 H2 → P v → Q v H2) → ∀ E : XK, sp (vs ++ dvs) H1 Q E) : EvN (tCall sp dvs E ta) σ H P := fun H1 e Q q =>
  h H1 e _ fun H2 e2 => hs H2 (e.trans e2) Q (fun v H3 e3 p => q v H3 (e2.trans e3) p) E
theorem s_retN (h : EvN te σ H P) (k : ∀ v H1, Ex H H1 → P v → D.rt v H1) : tRet te D σ H := h H (Ex.refl H) _ fun v H1 e p => k v H1 e p
theorem q_asgN {i : Nat} (h : EvN te σ H P) (k : ∀ v H1, Ex H H1 → P v → tz D (σ.set i (some v)) H1) : tSeq (tAsg te (gName i)) tz D σ H := h H (Ex.refl H) _ fun v H1 e p => k v H1 e p
end
/-! ### one object left out -/
/-- the heap without what stands at a -/
def hide (a : Addr) (H : Hp) : Hp := fun b => if b = a then none else H b
theorem hide_at {a : Addr} {H : Hp} : hide a H a = none := by unfold hide; rw [if_pos rfl]
theorem hide_ne {a b : Addr} {H : Hp} (h : b ≠ a) : hide a H b = H b := by unfold hide; rw [if_neg h]
theorem hide_ex {a : Addr} {H : Hp} : Ex (hide a H) H := fun b o h => by
  by_cases e : b = a
  · rw [e, hide_at] at h; cases h
  · rwa [hide_ne e] at h
theorem hide_get {a b : Addr} {H : Hp} {o : HO} (h : H b = some o) (n : b ≠ a) : hide a H b = some o := by rw [hide_ne n]; exact h
theorem hide_mono {a : Addr} {H H' : Hp} (e : Ex H H') : Ex (hide a H) (hide a H') := fun b o h => by
  by_cases q : b = a
  · rw [q, hide_at] at h; cases h
  · rw [hide_ne q] at h ⊢
    exact e b o h
/-- back to a heap that does not know a -/
theorem ex_hide {a : Addr} {B H : Hp} (e : Ex B H) (n : B a = none) : Ex B (hide a H) := fun b o h => by
  rw [hide_ne (ne_of_none h n)]
  exact e b o h
theorem hide_upd {a : Addr} {H : Hp} {o : HO} : hide a (upd H a o) = hide a H := by
  funext b
  unfold hide
  split
  · rfl
  · rename_i h
    exact upd_ne h
theorem hide_upd_ne {a b : Addr} {H : Hp} {o : HO} (h : b ≠ a) : hide a (upd H b o) = upd (hide a H) b o := by
  funext c
  by_cases q : c = a
  · rw [q, hide_at, upd_ne (Ne.symm h), hide_at]
  · rw [hide_ne q]
    by_cases z : c = b
    · rw [z, upd_same, upd_same]
    · rw [upd_ne z, upd_ne z, hide_ne q]
/-! ### rows read: a value and the texts of the list there -/
abbrev VR := V × List Str
def RowsP (K : PySem.W.Frag) (H : Hp) (rs : List VR) : Prop := ∀ r ∈ rs, ∃ p, r.1 = .ref p ∧ SqL K H p (r.2.map V.str)
theorem RowsP.mono {K : PySem.W.Frag} {H H' : Hp} {rs : List VR} (h : RowsP K H rs) (e : Ex H H') : RowsP K H' rs := fun r hr => let ⟨p, a, b⟩ := h r hr; ⟨p, a, ex_l e b⟩
theorem dpAll_rows {K : PySem.W.Frag} {H : Hp} : ∀ {rs : List VR}, RowsP K H rs → DpAll K H (rs.map (·.1)) (rs.map fun r => dS r.2)
  | [], _ => .nil
  | r :: rs, h => by
    obtain ⟨p, a, b⟩ := h r List.mem_cons_self
    refine .cons ?_ (dpAll_rows fun x hx => h x (List.mem_cons_of_mem _ hx))
    show Dp K H r.1 (dS r.2)
    rw [a]
    exact dp_S b
theorem shaped_dSs {rs : List (List Str)} (h : ∀ r ∈ rs, Oks r) : SeqAt.shaped (.list (rs.map dS)) = true := by
  have := shaped_dOs (rs := rs.map some) fun r hr l hl => by
    obtain ⟨x, hx, rfl⟩ := List.mem_map.mp hr
    cases hl
    exact h _ hx
  rw [List.map_map] at this
  exact this
theorem eqv_nil (ds : List PyData) : PyData.eqv (.list ds) (.list []) = ds.isEmpty := by
  cases ds <;> simp [PyData.eqv, PyData.eqvAll]
theorem shaped_nil : SeqAt.shaped (.list []) = true := by
  unfold SeqAt.shaped
  simp [PyData.canLay0, PyData.canLayAll0, PyData.depth, PyData.depthAll]
theorem mem_getElem {α : Type} {l : List α} {i : Nat} {x : α} (h : l[i]? = some x) : x ∈ l := List.mem_of_getElem? h
theorem cutTake {xs : List V} {k : Nat} : cutV xs none (some (k : Int)) = xs.take k := by
  unfold cutV
  rw [HT.sIx_none, HT.sIx_nat]
  simp
theorem cutDrop {xs : List V} {k : Nat} : cutV xs (some (k : Int)) none = xs.drop k := by
  unfold cutV
  rw [HT.sIx_none, HT.sIx_nat]
  rw [List.take_of_length_le (by rw [List.length_drop]; exact Nat.le_refl _)]
  rw [Nat.min_def]
  split
  · rfl
  · rw [List.drop_of_length_le (Nat.le_refl _), List.drop_of_length_le (by omega)]
section
variable {K : PySem.W.Frag} {σ : L2.St} {H : Hp} {ta tb te : TE} {x y : V}
theorem rv_neD {d e : PyData} (hm : ∀ H1, Ex H H1 → Dp K H1 x d ∧ Dp K H1 y e) (s1 : SeqAt.shaped d = true) (s2 : SeqAt.shaped e = true) : RV (rNeD K) x y H (.bl (!PyData.eqv d e)) := fun H1 e1 _ q => ⟨d, e, (hm H1 e1).1, (hm H1 e1).2, s1, s2, q H1 (Ex.refl H1)⟩
theorem rv_eqD {d e : PyData} (hm : ∀ H1, Ex H H1 → Dp K H1 x d ∧ Dp K H1 y e) (s1 : SeqAt.shaped d = true) (s2 : SeqAt.shaped e = true) : RV (rEqD K) x y H (.bl (PyData.eqv d e)) := fun H1 e1 _ q => ⟨d, e, (hm H1 e1).1, (hm H1 e1).2, s1, s2, q H1 (Ex.refl H1)⟩
theorem el_nil : EvL (tLst tNil) σ H [] := el_lst ea_nil (Nat.zero_le _)
/-- xs != [] -/
theorem ev_neNil {p : Addr} {l : List Str} (h : Ev ta σ H (.ref p)) (hS : SqL K H p (l.map V.str)) (ho : Oks l) : Ev (tOp (rNeD K) ta (tLst tNil)) σ H (.bl (!l.isEmpty)) := by
  refine ev_is (ev_opL h el_nil fun q H1 hq e1 => rv_neD (K := K) (fun H2 e2 => ⟨dp_S (ex_l (e1.trans e2) hS), .lst (sq_of (e2 _ _ hq)) .nil⟩) (shaped_dS ho) shaped_nil) ?_
  unfold dS
  rw [eqv_nil]
  cases l <;> rfl
theorem ev_eqNil {p : Addr} {l : List Str} (h : Ev ta σ H (.ref p)) (hS : SqL K H p (l.map V.str)) (ho : Oks l) : Ev (tOp (rEqD K) ta (tLst tNil)) σ H (.bl l.isEmpty) := by
  refine ev_is (ev_opL h el_nil fun q H1 hq e1 => rv_eqD (K := K) (fun H2 e2 => ⟨dp_S (ex_l (e1.trans e2) hS), .lst (sq_of (e2 _ _ hq)) .nil⟩) (shaped_dS ho) shaped_nil) ?_
  unfold dS
  rw [eqv_nil]
  cases l <;> rfl
end
section
variable {σ : L2.St} {H : Hp} {ta tb te : TE} {r : R2} {D : Ends} {tz : TS} {Q : VK}
theorem q_raw {i : Nat} (h : te σ H fun v H1 => tz D (σ.set i (some v)) H1) : tSeq (tAsg te (gName i)) tz D σ H := h
theorem s_raw {i : Nat} (h : te σ H fun v H1 => D.nx (σ.set i (some v)) H1) : tAsg te (gName i) D σ H := h
theorem op_raw (h : ta σ H fun x H1 => tb σ H1 fun y H2 => r x y H2 Q) : tOp r ta tb σ H Q := h
end
end EX

set_option Elab.async false
set_option linter.all false
set_option maxRecDepth 100000
/-! draws: a tap (a list of four ints at tp) that each draw changes; a draw is any number in its range -/
namespace EX
open PySem L2 Evl
def Tap (H : Hp) (tp : Addr) : Prop := ∃ a b c d : Int, H tp = some (.lst [.int a, .int b, .int c, .int d])
theorem Tap.mono {H H' : Hp} {tp : Addr} (t : Tap H tp) (e : Ex H H') : Tap H' tp := let ⟨a, b, c, d, h⟩ := t; ⟨a, b, c, d, e _ _ h⟩
/-- the promise of a draw below n -/
def spDraw : Sp := fun vs H Q _ => ∃ (tp : Addr) (n : Int), vs = [.ref tp, .int n] ∧ Tap H tp ∧ 0 < n ∧ n < 1073741824 ∧
  ∀ (r : Int) (H' : Hp), 0 ≤ r → r < n → Ex (hide tp H) H' → Tap H' tp → Q (.int r) H'
/-- te evaluates, drawing, to some value of which P holds; what B knows stays -/
def Dr (tp : Addr) (te : TE) (σ : L2.St) (B : Hp) (P : V → Prop) : Prop := ∀ H1, Ex B H1 → Tap H1 tp → ∀ Q : VK, (∀ v H2, Ex B H2 → Tap H2 tp → P v → Q v H2) → te σ H1 Q
def DrT (tp : Addr) (tt : TT) (σ : L2.St) (B : Hp) (P : Bool → Prop) : Prop := ∀ H1, Ex B H1 → Tap H1 tp → ∀ Q : Bool → Hp → Prop, (∀ b H2, Ex B H2 → Tap H2 tp → P b → Q b H2) → tt σ H1 Q
section
variable {tp : Addr} {σ : L2.St} {B H : Hp} {ta tb te : TE} {t u : TT} {P P1 P2 : V → Prop} {v : V} {r : R2} {D : Ends} {tu tw tz : TS}
theorem Dr.imp (h : Dr tp te σ B P) (k : ∀ v, P v → P1 v) : Dr tp te σ B P1 := fun H1 e t Q q => h H1 e t Q fun v H2 e2 t2 p => q v H2 e2 t2 (k v p)
theorem dr_ev (h : Ev te σ B v) : Dr tp te σ B (fun x => x = v) := fun H1 e t Q q => h H1 e Q fun H2 e2 => q v H2 (e.trans e2) (t.mono e2) rfl
theorem dr_var {i : Nat} (h : σ[i]? = some (some v)) : Dr tp (tVar i) σ B (fun x => x = v) := dr_ev (ev_var h)
theorem dr_c : Dr tp (tC v) σ B (fun x => x = v) := dr_ev ev_c
theorem dr_draw {j : Nat} (N : Int) (hN : N < 1073741824) (hj : σ[j]? = some (some (.ref tp))) (nB : B tp = none) (h : Dr tp te σ B (fun v => ∃ n : Int, v = .int n ∧ 0 < n ∧ n ≤ N)) :
    Dr tp (tCall spDraw [] E0 (tCons (tVar j) (tCons te tNil))) σ B (fun v => ∃ r : Int, v = .int r ∧ 0 ≤ r ∧ r < N) := fun H1 e t Q q =>
  ⟨_, hj, h H1 e t _ fun v H2 e2 t2 ⟨n, hv, h0, hn⟩ => by
    subst hv
    exact ⟨tp, n, rfl, t2, h0, by omega, fun r H3 r0 r1 e3 t3 => q _ H3 ((ex_hide e2 nB).trans e3) t3 ⟨r, rfl, r0, by omega⟩⟩⟩
theorem dr_op (ha : Dr tp ta σ B P1) (hb : Dr tp tb σ B P2) (hr : ∀ x y, P1 x → P2 y → ∃ z, P z ∧ RV r x y B z) : Dr tp (tOp r ta tb) σ B P := fun H1 e t Q q =>
  ha H1 e t _ fun x H2 e2 t2 p1 => hb H2 e2 t2 _ fun y H3 e3 t3 p2 => by
    obtain ⟨z, pz, hz⟩ := hr x y p1 p2
    exact hz H3 e3 Q fun H4 e4 => q z H4 (e3.trans e4) (t3.mono e4) pz
/-- int(x) -/
theorem dr_int1 (h : Dr tp te σ B (fun v => ∃ b, v = .bl b)) : Dr tp (tCB (fun xs H Q => (∃ i, xs = [.int i] ∧ Q (.int i) H) ∨ ∃ k, xs = [.bl k] ∧ Q (.int (if k then 1 else 0)) H) (tCons te tNil)) σ B (fun v => v = .int 0 ∨ v = .int 1) := fun H1 e t Q q =>
  h H1 e t _ fun v H2 e2 t2 ⟨b, hb⟩ => .inr ⟨b, by rw [hb], q _ H2 e2 t2 (by cases b <;> simp)⟩
theorem drT_test (h : Dr tp te σ B (fun v => ∃ b, v = .bl b)) : DrT tp (tTest te) σ B (fun _ => True) := fun H1 e t Q q => h H1 e t _ fun v H2 e2 t2 ⟨b, hb⟩ => ⟨b, hb, q b H2 e2 t2 trivial⟩
theorem drT_ev {b : Bool} (h : EvT t σ B b) : DrT tp t σ B (fun c => c = b) := fun H1 e t Q q => h H1 e Q fun H2 e2 => q b H2 (e.trans e2) (t.mono e2) rfl
theorem drT_or {p q : Bool → Prop} (h1 : DrT tp t σ B p) (h2 : DrT tp u σ B q) : DrT tp (tOr t u) σ B (fun _ => True) := fun H1 e tt Q k => h1 H1 e tt _ fun c H2 e2 t2 _ => by
  cases c with
  | true =>
    show Q true H2
    exact k true H2 e2 t2 trivial
  | false =>
    show u σ H2 Q
    exact h2 H2 e2 t2 Q fun c H3 e3 t3 _ => k c H3 e3 t3 trivial
/-! ### statements -/
theorem q_asgD {i : Nat} (ht : Tap H tp) (h : Dr tp te σ (hide tp H) P) (k : ∀ v H1, Ex (hide tp H) H1 → Tap H1 tp → P v → tz D (σ.set i (some v)) H1) : tSeq (tAsg te (gName i)) tz D σ H :=
  h H hide_ex ht _ fun v H1 e t p => k v H1 e t p
theorem s_ifD {p : Bool → Prop} (ht : Tap H tp) (h : DrT tp t σ (hide tp H) p) (k1 : p true → ∀ H1, Ex (hide tp H) H1 → Tap H1 tp → tu D σ H1) (k2 : p false → ∀ H1, Ex (hide tp H) H1 → Tap H1 tp → tw D σ H1) : tIfS t tu tw D σ H :=
  h H hide_ex ht _ fun b H1 e t pb => by
    cases b with
    | true =>
      show tu D σ H1
      exact k1 pb H1 e t
    | false =>
      show tw D σ H1
      exact k2 pb H1 e t
theorem q_whenD {p : Bool → Prop} (ht : Tap H tp) (h : DrT tp t σ (hide tp H) p) (k1 : p true → ∀ H1, Ex (hide tp H) H1 → Tap H1 tp → tu { D with nx := tz D } σ H1) (k2 : p false → ∀ H1, Ex (hide tp H) H1 → Tap H1 tp → tz D σ H1) : tSeq (tIfS t tu tNext) tz D σ H :=
  s_ifD (D := { D with nx := tz D }) ht h k1 k2
theorem s_whenD {p : Bool → Prop} (ht : Tap H tp) (h : DrT tp t σ (hide tp H) p) (k1 : p true → ∀ H1, Ex (hide tp H) H1 → Tap H1 tp → tu D σ H1) (k2 : p false → ∀ H1, Ex (hide tp H) H1 → Tap H1 tp → D.nx σ H1) : tIfS t tu tNext D σ H :=
  s_ifD ht h k1 k2
end
end EX

set_option Elab.async false
set_option linter.all false
set_option maxRecDepth 100000
namespace EX
open PySem L2 Evl
section
variable {tp : Addr} {σ : L2.St} {B H : Hp} {ta tb te : TE} {t u : TT} {P P1 P2 : V → Prop} {v : V} {r : R2} {D : Ends} {tu tw tz : TS} {K : PySem.W.Frag}
/-- the first operand a new list -/
theorem dr_opL {xs : List V} (nB : B tp = none) (ha : EvL ta σ B xs) (hb : ∀ B', Ex B B' → B' tp = none → Dr tp tb σ B' P2) (hr : ∀ p y B', Ex B B' → B' p = some (.lst xs) → P2 y → ∃ z, P z ∧ RV r (.ref p) y B' z) : Dr tp (tOp r ta tb) σ B P := fun H1 e t Q q =>
  ha H1 e _ fun p H2 np e2 at2 => by
    have hp : p ≠ tp := by
      obtain ⟨a, b, c, d, ht⟩ := t
      exact fun z => by rw [z, ht] at np; cases np
    have eB : Ex B (hide tp H2) := ex_hide (e.trans e2) nB
    refine hb (hide tp H2) eB hide_at H2 hide_ex (t.mono e2) _ fun y H3 e3 t3 p2 => ?_
    obtain ⟨z, pz, hz⟩ := hr p y (hide tp H2) eB (hide_get at2 hp) p2
    exact hz H3 e3 Q fun H4 e4 => q z H4 (eB.trans (e3.trans e4)) (t3.mono e4) pz
theorem ixAt {xs : List V} {p : Addr} {i : Int} {j : Nat} {x : V} (h : H p = some (.lst xs)) (hi : i = (j : Int)) (hx : xs[j]? = some x) : RV (rIxL K) (.ref p) (.int i) H x := rv_ixL (sq_of h) (at_of hi hx)
/-- for .. in range(a draw) -/
theorem s_forD {j : Nat} (N : Int) (hN : N ≤ 100000) (ht : Tap H tp) (h : Dr tp te σ (hide tp H) (fun v => ∃ r : Int, v = .int r ∧ 0 ≤ r ∧ r < N)) (Pv : Nat → L2.St → Hp → Prop) (h0 : ∀ H1, Ex (hide tp H) H1 → Tap H1 tp → Pv 0 σ H1)
    (hs : ∀ (i : Nat) σ' H', (i : Int) + 1 < N → Pv i σ' H' → tu { D with nx := Pv (i + 1), ct := Pv (i + 1), bk := D.nx } (σ'.set j (some (.int (i : Int)))) H') (hd : ∀ (n : Nat) σ' H', (n : Int) < N → Pv n σ' H' → D.nx σ' H') :
    tFor (iRng1 (tCons te tNil)) (gName j) tu D σ H :=
  h H hide_ex ht _ fun v H1 e t ⟨n, hv, n0, n1⟩ => by
    subst hv
    refine ⟨n, rfl, by omega, by omega, for_range (lo := 0) (n := n.toNat) Pv (h0 H1 e t) (fun i σ' H' hi p => ?_) fun σ' H' p => hd n.toNat σ' H' (by omega) p⟩
    show tu { D with nx := Pv (i + 1), ct := Pv (i + 1), bk := D.nx } (σ'.set j (some (.int ((0 : Int) + (i : Int))))) H'
    rw [Int.zero_add]
    exact hs i σ' H' (by omega) p
theorem q_forD {j : Nat} (N : Int) (hN : N ≤ 100000) (ht : Tap H tp) (h : Dr tp te σ (hide tp H) (fun v => ∃ r : Int, v = .int r ∧ 0 ≤ r ∧ r < N)) (Pv : Nat → L2.St → Hp → Prop) (h0 : ∀ H1, Ex (hide tp H) H1 → Tap H1 tp → Pv 0 σ H1)
    (hs : ∀ (i : Nat) σ' H', (i : Int) + 1 < N → Pv i σ' H' → tu { D with nx := Pv (i + 1), ct := Pv (i + 1), bk := tz D } (σ'.set j (some (.int (i : Int)))) H') (hd : ∀ (n : Nat) σ' H', (n : Int) < N → Pv n σ' H' → tz D σ' H') :
    tSeq (tFor (iRng1 (tCons te tNil)) (gName j) tu) tz D σ H := s_forD (D := { D with nx := tz D }) N hN ht h Pv h0 hs hd
/-- a comprehension over reversed(xs) -/
theorem lc_rev {a : Addr} {xs : List V} {g : TG} {tt : TT} {vs : List Nat} {H1 : Hp} {Dl : Addr} {Qd : Hp → Prop} (Pv : Nat → Hp → Prop) (h0 : Pv 0 (upd H1 Dl (.lst []))) (hl : ∀ i H, i ≤ xs.length → Pv i H → SqL K H a xs)
    (hs : ∀ i x H, i < xs.length → xs[xs.length - 1 - i]? = some x → Pv i H → g x (wipe σ vs) H fun σ2 H2 => wipe σ2 vs = wipe σ vs ∧ tt σ2 H2 fun b H3 =>
      if b = true then te σ2 H3 fun y H4 => ∃ acc, H4 Dl = some (.lst acc) ∧ acc.length < sizeLine ∧ Pv (i + 1) (upd H4 Dl (.lst (acc ++ [y]))) else Pv (i + 1) H3) (hd : ∀ H, Pv xs.length H → Qd H) :
    ∃ W : Nat → Nat → Hp → Prop, (∃ m, W 0 m (upd H1 Dl (.lst []))) ∧ ∀ i m H, W i m H →
      ((Itv K a xs.length).stop i H ∧ Qd H) ∨ ((Itv K a xs.length).go i H ∧ ∃ Nx : Hp → Prop, (∀ H', Nx H' → ∃ m', m' < m ∧ W (i + 1) m' H') ∧ ∀ x H', (Itv K a xs.length).yld i H x H' → g x (wipe σ vs) H' fun σ2 H2 => wipe σ2 vs = wipe σ vs ∧ tt σ2 H2 fun b H3 =>
        if b = true then te σ2 H3 fun y H4 => ∃ acc, H4 Dl = some (.lst acc) ∧ acc.length < sizeLine ∧ Nx (upd H4 Dl (.lst (acc ++ [y]))) else Nx H3) := by
  refine ⟨fun i m H => m = xs.length - i ∧ i ≤ xs.length ∧ Pv i H, ⟨xs.length, rfl, Nat.zero_le _, h0⟩, ?_⟩
  rintro i m H ⟨rfl, hi, p⟩
  by_cases hlt : i < xs.length
  · have hj : xs.length - 1 - i < xs.length := by omega
    refine .inr ⟨⟨hlt, xs, xs[xs.length - 1 - i], hl i H hi p, List.getElem?_eq_getElem hj⟩, fun H' => Pv (i + 1) H', fun H' h => ⟨xs.length - (i + 1), by omega, rfl, by omega, h⟩, ?_⟩
    rintro x H' ⟨rfl, hx⟩
    exact hs i x H' hlt (hx xs (hl i H' hi p)) p
  · have e : i = xs.length := by omega
    subst e
    exact .inl ⟨Nat.le_refl _, hd H p⟩
theorem el_lcRev {a : Addr} {xs : List V} {tl : TE} {j : Nat} {vs : List Nat} (f : Nat → Bool) (v : Nat → V) (h : Ev tl σ H (.ref a)) (hx : SqL K H a xs) (hz : xs.length ≤ 40000) (hw : ∀ x, wipe ((wipe σ vs).set j (some x)) vs = wipe σ vs)
    (ht : ∀ (i : Nat) (x : V) H1, Ex H H1 → i < xs.length → xs[xs.length - 1 - i]? = some x → EvT t ((wipe σ vs).set j (some x)) H1 (f i)) (he : ∀ (i : Nat) (x : V) H1, Ex H H1 → i < xs.length → xs[xs.length - 1 - i]? = some x → f i = true → Ev te ((wipe σ vs).set j (some x)) H1 (v i)) :
    EvL (tLc (iRev K (tCons tl tNil)) (gName j) t te vs) σ H (given xs.length f v) := fun H0 e Q q => h H0 e _ fun H1 e1 => ⟨a, xs, rfl, ex_l (e.trans e1) hx, fun Dl hD =>
  lc_rev (xs := xs) (Cw H1 f v Dl) ⟨hD, Ex.new hD, upd_same⟩ (fun i H' _ p => ex_l ((e.trans e1).trans p.2.1) hx) (fun i x H' hlt hi p => ⟨hw x, cw_turn p (by omega) (ht i x H1 (e.trans e1) hlt hi) (fun hf => he i x H1 (e.trans e1) hlt hi hf)⟩)
    (fun H' p => q Dl H' (fresh_back e1 p.1) (e1.trans p.2.1) p.2.2)⟩
end
/-- a slice of texts is a list of texts of it -/
theorem cut_strs (ts : List Str) (lo hi : Option Int) : ∃ nl : List Str, cutV (ts.map V.str) lo hi = nl.map V.str ∧ (∀ x ∈ nl, x ∈ ts) ∧ nl.length ≤ ts.length := by
  refine ⟨(ts.drop (HT.sIx ts.length 0 lo)).take (HT.sIx ts.length ts.length hi - HT.sIx ts.length 0 lo), ?_, fun x hx => List.mem_of_mem_drop (List.mem_of_mem_take hx), ?_⟩
  · unfold cutV
    rw [List.length_map, List.map_take, List.map_drop]
  · rw [List.length_take, List.length_drop]
    omega
theorem mem_given {n : Nat} {f : Nat → Bool} {v : Nat → V} {x : V} (h : x ∈ given n f v) : ∃ i, i < n ∧ f i = true ∧ x = v i := by
  unfold given at h
  obtain ⟨i, hi, rfl⟩ := List.mem_map.mp h
  obtain ⟨h1, h2⟩ := List.mem_filter.mp hi
  exact ⟨i, List.mem_range.mp h1, h2, rfl⟩
/-- values that are all texts of ts -/
theorem strs_of {vs : List V} {P : Str → Prop} (h : ∀ v ∈ vs, ∃ x, v = .str x ∧ P x) : ∃ xs : List Str, vs = xs.map V.str ∧ ∀ x ∈ xs, P x := by
  induction vs with
  | nil => exact ⟨[], rfl, fun x hx => nomatch hx⟩
  | cons v vs ih =>
    obtain ⟨x, rfl, hx⟩ := h v List.mem_cons_self
    obtain ⟨xs, rfl, hxs⟩ := ih fun w hw => h w (List.mem_cons_of_mem _ hw)
    exact ⟨x :: xs, rfl, fun y hy => by
      rcases List.mem_cons.mp hy with q | q
      · rw [q]; exact hx
      · exact hxs y q⟩
end EX

set_option Elab.async false
set_option linter.all false
set_option maxRecDepth 100000
namespace EX
open PySem L2 Evl
section
variable {tp : Addr} {σ : L2.St} {B H : Hp} {ta tb te : TE} {t u : TT} {P P1 P2 : V → Prop} {v : V} {r : R2} {D : Ends} {tu tw tz : TS} {K : PySem.W.Frag} {sp : Sp} {vs : List V} {E : XK} {tA : TA}
/-- for i, x in enumerate(xs) -/
theorem s_forE {a : Addr} {xs : List V} {tl : TE} {i j : Nat} (h : Ev tl σ H (.ref a)) (hx : SqL K H a xs) (Pv : Nat → L2.St → Hp → Prop) (h0 : ∀ H1, Ex H H1 → Pv 0 σ H1) (hl : ∀ n σ' H', n ≤ xs.length → Pv n σ' H' → SqL K H' a xs)
    (hs : ∀ (n : Nat) (x : V) σ' H' T, xs[n]? = some x → Pv n σ' H' → H' T = none → tu { D with nx := Pv (n + 1), ct := Pv (n + 1), bk := D.nx } ((σ'.set i (some (.int (n : Nat)))).set j (some x)) (upd H' T (.tup [.int (n : Nat), x]))) (hd : ∀ σ' H', Pv xs.length σ' H' → D.nx σ' H') :
    tFor (iEnum K (tCons tl tNil)) (gTup K 2 (gCons (gName i) (gCons (gName j) gNil))) tu D σ H :=
  h H (Ex.refl H) _ fun H1 e => ⟨a, xs, rfl, ex_l e hx, fun n m σ' H' => m = xs.length - n ∧ n ≤ xs.length ∧ Pv n σ' H', ⟨xs.length, rfl, Nat.zero_le _, h0 H1 e⟩, by
    rintro n m σ' H' ⟨rfl, hn, p⟩
    have hS := hl n σ' H' hn p
    by_cases hlt : n < xs.length
    · refine .inr ⟨⟨xs, xs[n], hS, List.getElem?_eq_getElem hlt⟩, fun σ2 H2 => Pv (n + 1) σ2 H2, fun σ2 H2 q => ⟨xs.length - (n + 1), by omega, rfl, by omega, q⟩, ?_⟩
      rintro v H2 ⟨T, x, rfl, nT, rfl, hv⟩
      exact ⟨T, _, rfl, st_of upd_same, rfl, _, _, rfl, _, _, rfl, rfl, hs n x σ' H' T (hv xs hS) p nT⟩
    · have e : n = xs.length := by omega
      subst e
      exact .inl ⟨⟨xs, hS, Nat.le_refl _⟩, hd σ' H' p⟩⟩
theorem q_forE {a : Addr} {xs : List V} {tl : TE} {i j : Nat} (h : Ev tl σ H (.ref a)) (hx : SqL K H a xs) (Pv : Nat → L2.St → Hp → Prop) (h0 : ∀ H1, Ex H H1 → Pv 0 σ H1) (hl : ∀ n σ' H', n ≤ xs.length → Pv n σ' H' → SqL K H' a xs)
    (hs : ∀ (n : Nat) (x : V) σ' H' T, xs[n]? = some x → Pv n σ' H' → H' T = none → tu { D with nx := Pv (n + 1), ct := Pv (n + 1), bk := tz D } ((σ'.set i (some (.int (n : Nat)))).set j (some x)) (upd H' T (.tup [.int (n : Nat), x]))) (hd : ∀ σ' H', Pv xs.length σ' H' → tz D σ' H') :
    tSeq (tFor (iEnum K (tCons tl tNil)) (gTup K 2 (gCons (gName i) (gCons (gName j) gNil))) tu) tz D σ H := s_forE (D := { D with nx := tz D }) h hx Pv h0 hl hs hd
/-- x = f(..), f(..) by f's own promise -/
theorem q_callA {i : Nat} (h : EvA tA σ H vs) (k : ∀ H1, Ex H H1 → sp (vs ++ []) H1 (fun v H2 => tz D (σ.set i (some v)) H2) E) : tSeq (tAsg (tCall sp [] E tA) (gName i)) tz D σ H := h H (Ex.refl H) _ k
theorem s_callD (h : EvA tA σ H vs) (k : ∀ H1, Ex H H1 → sp (vs ++ []) H1 (fun _ H2 => D.nx σ H2) E) : tDrop (tCall sp [] E tA) D σ H := h H (Ex.refl H) _ k
theorem s_retA (h : EvA tA σ H vs) (k : ∀ H1, Ex H H1 → sp (vs ++ []) H1 D.rt E) : tRet (tCall sp [] E tA) D σ H := h H (Ex.refl H) _ k
theorem call_raw {Q : VK} (h : EvA tA σ H vs) (k : ∀ H1, Ex H H1 → sp (vs ++ []) H1 Q E) : tCall sp [] E tA σ H Q := h H (Ex.refl H) _ k
theorem cutS_mem {z : Str} {lo hi : Option Int} : (∀ c ∈ (cutS z lo hi).cps.toList, c ∈ z.cps.toList) ∧ (cutS z lo hi).length ≤ z.length := by
  unfold cutS
  constructor
  · intro c hc
    exact List.mem_of_mem_drop (List.mem_of_mem_take (by simpa using hc))
  · unfold Str.length
    simp
    omega
/-- z[:a draw] -/
theorem dr_slTo {z : Str} {N : Int} (hz : z.length ≤ 1000) (h : Dr tp te σ B (fun v => ∃ r : Int, v = .int r ∧ 0 ≤ r ∧ r < N)) :
    Dr tp (tSl rSlS (tC (.str z)) tNoPart (tPart te)) σ B (fun v => ∃ x : Str, v = .str x ∧ (∀ c ∈ x.cps.toList, c ∈ z.cps.toList) ∧ x.length ≤ z.length) := fun H1 e t Q q =>
  h H1 e t _ fun v H2 e2 t2 ⟨r, hv, _, _⟩ => ⟨r, hv, z, rfl, sz_of (by omega), q _ H2 e2 t2 ⟨_, rfl, cutS_mem.1, cutS_mem.2⟩⟩
theorem rv_addS {a b : Str} (h : a.length + b.length ≤ 100000) : RV (fun x y H Q => ∃ i j, x = .str i ∧ y = .str j ∧ i.length + j.length ≤ sizeLine ∧ Q (.str (i ++ j)) H) (.str a) (.str b) H (.str (a ++ b)) := fun H1 _ _ q => ⟨a, b, rfl, rfl, sz_of h, q H1 (Ex.refl H1)⟩
theorem ixS {z : Str} {i : Int} {j c : Nat} (hz : z.length ≤ 1000) (hi : i = (j : Int)) (hc : z.cps.toList[j]? = some c) : RV rIxS (.str z) (.int i) H (.str ⟨#[c]⟩) := rv_ixS (by omega) (by rw [hi]; exact atI_nat hc)
end
end EX

set_option Elab.async false
set_option linter.all false
set_option maxRecDepth 100000
set_option maxHeartbeats 1000000
/-! list(reversed(xs)), xs a list -/
namespace LR
open PySem PySem.Spec PyProof.Rows
section
variable {prog : Program} {w : World} {A : Around} {E : Value → Shared → Prop} {s : Shared}
theorem list_rev {it l : Addr} {items : Array Value} {Q : Value → Shared → Prop} (hh : A.handled = none) (hi : s.heap.IsRevIter it l ((items.size : Int) - 1)) (hl : s.heap.IsList l items) (hne : l ≠ it) (hn : items.size ≤ sizeLine)
    (h : ∀ (h' : Heap) (tk : Nat) (acc : Array Value) (c : Nat), (∀ b o, b ≠ it → s.heap.get? b = some o → h'.get? b = some o) → h'.get? s.heap.objs.size = some { cls := .type "list", dict := none, data := .seq acc c, slots := #[] } →
      ItemsOf (fun i v => items[items.size - 1 - i]? = some v) acc items.size → Q (.ref s.heap.objs.size) { s with heap := h', toks := tk }) :
    wpAny (model prog w) A (call (.type "list") [.ref it]) Q E s := by
  refine callType_codes (Q₁ := fun x s1 => x = .ref s.heap.objs.size ∧ s1 = { s with heap := s.heap.push { cls := .type "list", data := .seq #[] } }) PySem.F.called_list (PySem.F.typeCall_list_1 _) PySem.F.entry_list_init (code_list_new _ ⟨rfl, rfl⟩) ?_
  rintro x s1 ⟨rfl, rfl⟩
  have n1 : (s.heap.push { cls := .type "list", data := .seq #[] }).get? s.heap.objs.size = some { cls := .type "list", data := .seq #[] } := Heap.get?_push_size _ rfl
  refine ⟨⟨_, n1, rfl⟩, PySem.F.args_list_init_2 _ _, ?_⟩
  show wpAny _ A.in1.in1 (do let old ← Builtin.List.listItems (.ref s.heap.objs.size); Builtin.List.listUpdate (.ref s.heap.objs.size) (fun _ => #[]); letGo old.toList.reverse; Builtin.List.listExtendWith (.ref s.heap.objs.size) (.ref it) .none) _ _ _
  refine wpAny_bind ?_
  unfold Builtin.List.listItems
  refine wpAny_bind (wpAny_seqItems n1 rfl (wpAny_pure ?_))
  refine wpAny_bind (show wpAny _ A.in1.in1 (updateSeq s.heap.objs.size (fun _ => #[])) _ _ _ from wpAny_updateSeq n1 rfl ?_)
  refine wpAny_bind (wpAny_letGo ?_)
  have n2 := Heap.get?_update_self (Obj.mapSeq (fun _ => (#[] : Array Value))) n1 rfl
  have hil : it < s.heap.objs.size := let ⟨o, e, _⟩ := hi; Heap.lt_size e
  have hll : l < s.heap.objs.size := let ⟨o, e, _⟩ := hl; Heap.lt_size e
  have keep : ∀ b o, s.heap.get? b = some o → ((s.heap.push { cls := .type "list", data := .seq #[] }).update s.heap.objs.size (Obj.mapSeq (fun _ => (#[] : Array Value)))).get? b = some o := fun b o e =>
    (Heap.get?_update_other _ _ (Nat.ne_of_gt (Heap.lt_size e))).trans (Heap.get?_push_of_some _ e)
  have hi2 := hi.at fun o e => keep it o e
  have hl2 := (show ∀ {h h' : Heap}, h.IsList l items → (∀ o, h.get? l = some o → h'.get? l = some o) → h'.IsList l items from fun x k => let ⟨o, e, r⟩ := x; ⟨o, k o e, r⟩) hl fun o e => keep l o e
  have hd2 : Obj.mapSeq (fun _ => (#[] : Array Value)) { cls := .type "list", data := .seq #[] } = { cls := .type "list", data := .seq #[] } := rfl
  rw [hd2] at n2
  clear n1
  generalize (s.heap.push { cls := .type "list", data := .seq #[] }).update s.heap.objs.size (Obj.mapSeq (fun _ => (#[] : Array Value))) = h2 at n2 keep hi2 hl2
  have ty : ({ s with heap := h2 } : Shared).TypeIs (.ref it) "list_reverseiterator" := Heap.IsRevIter.typeIs (s := { s with heap := h2 }) hi2
  have sr : Builtin.List.listSameRef (.ref s.heap.objs.size) (.ref it) = false := by simp [Builtin.List.listSameRef, Nat.ne_of_gt hil]
  unfold Builtin.List.listExtendWith
  refine wpAny_bind (wpAny_typeOf ty ?_)
  rw [if_neg (by rw [sr]; decide)]
  refine wpAny_bind (wpAny_pyIter_revIter (s := { s with heap := h2 }) hi2 (wpAny_bind (wpAny_holding ?_)))
  unfold Builtin.List.listLengthHint
  refine wpAny_bind (wpAny_specialOf ty RT.nolen_lri ?_)
  show wpAny _ A.in1.in1 (specialOf (Value.ref it) (Str.ofString "__length_hint__") >>= _) _ _ _
  refine wpAny_bind (wpAny_specialOf ty RT.hint_lri ?_)
  generalize hnm : ("list_reverseiterator.__length_hint__" : String) = nm
  wp_delta
  rw [show splitId nm = some ("list_reverseiterator", "__length_hint__") from by subst hnm; decide +kernel]
  subst hnm
  refine wpAny_bind (wpAny_isInstance (b := true) ty (by rw [isSubtype_type]; kernel_rfl) (wpAny_pure ?_))
  rw [if_neg (by decide)]
  have z0 : ((items.size : Nat) : Int) - 1 - ((0 : Nat) : Int) = (items.size : Int) - 1 := by omega
  have W := (Walks.listRev (prog := prog) (w := w) (A := A.in1.in1) hh it l hne items).toS
  refine wpAny_pure ⟨plainId_quiet PySem.F.plain_extend_loop _, codeAny_extend_loopS W hn _ (fun q => ?_) _ items.size 0 _ _ _ rfl (Nat.zero_le _) ⟨Nat.zero_le _, by rw [z0]; exact hi2, hl2⟩ n2 (ItemsOf.nil _) fun s' acc c hm at' hacc => ?_⟩
  · rcases List.mem_cons.mp q with q | q
    · exact absurd q (Nat.ne_of_gt hil)
    · exact absurd (List.mem_singleton.mp q) (Nat.ne_of_gt hll)
  · refine ⟨rfl, ?_⟩
    rw [Moved.eq_with hm]
    refine h s'.heap s'.toks acc c (fun b o hb e => hm.heap b o (fun q => ?_) (keep b o e)) at' hacc
    rcases List.mem_cons.mp q with q | q
    · exact absurd q (Nat.ne_of_lt (Heap.lt_size e))
    · exact hb (List.mem_singleton.mp q)
end
end LR
namespace L2
open PySem PySem.Spec PyProof.Rows
def tListRev (K : PySem.W.Frag) (te : TE) : TE := fun σ H Q => te σ H fun v H1 => ∃ (a : Addr) (xs : List V), v = .ref a ∧ SqL K H1 a xs ∧ ∀ q, H1 q = none → Q (.ref q) (upd H1 q (.lst xs.reverse))
theorem peListRev {X : Cx} {K : PySem.W.Frag} {e : Expr} {te : TE} {p p2 pos pos2 : Pos} (hc : X.calm = true) (hg : Gl X "list") (hm : X.mg "list" = none) (hg2 : Gl X "reversed") (hm2 : X.mg "reversed" = none) (he : PE X e te)
    (hs : starEach [e] X.env = (false, eval e X.env) :: starEach [] X.env := by rfl)
    (hs2 : starEach [.Call (.Name "reversed" p2) [e] [] pos2] X.env = (false, eval (.Call (.Name "reversed" p2) [e] [] pos2) X.env) :: starEach [] X.env := by rfl) (hK : X.K = K := by rfl) :
    PE X (.Call (.Name "list" p) [.Call (.Name "reversed" p2) [e] [] pos2] [] pos) (tListRev K te) := by
  subst hK
  refine ⟨fun pins s σ H Q I h => Call_ (ld_blt I hg hm (show bootBuiltins "list" = some (.type "list") by decide +kernel) (PyProof.Rows.callWith_type1 (args_cons (Call_ (ld_blt I hg2 hm2 PyProof.Rows.boot_reversed (PyProof.Rows.callWith_type1 (args_cons (thn (he.run pins s σ H _ I h) fun u s1 ⟨v, H1, I1, r1, a, xs, ev, hq, q⟩ => args_nil ?_) hs) hs rfl))) hs2) hs2 rfl))⟩
  subst ev
  obtain rfl : u = Value.ref a := r1
  obtain ⟨its, rv, pl, hz⟩ := I1.list hq
  have hl := pl.isList
  have hlt : a < s1.heap.objs.size := let ⟨_, e, _⟩ := hl; Heap.lt_size e
  refine call_reversed_list hl (args_nil ?_)
  have I2 : Inv X pins σ H1 { s1 with heap := s1.heap.push (revObj a ((its.toArray.size : Int) - 1)) } := I1.kept (t' := s1.toks) fun b o e => Heap.get?_push_of_some _ e
  have fp : FpOk X pins H1 s1.heap.objs.size := I1.fpOk (Nat.le_refl _) (I1.hok.fresh (Nat.le_refl _))
  refine LR.list_rev (s := { s1 with heap := s1.heap.push (revObj a ((its.toArray.size : Int) - 1)) }) (I1.ok.hd hc) ⟨_, Heap.get?_push_size _ rfl, rfl, rfl⟩ (hl.push _) (Nat.ne_of_lt hlt) (by rw [List.size_toArray, ← rv.length]; exact hz) fun h' tk acc c hk at' hi => ?_
  have new : ObjOk X.prog X.w (upd H1 (s1.heap.push (revObj a ((its.toArray.size : Int) - 1))).objs.size (.lst xs.reverse)) h' (s1.heap.push (revObj a ((its.toArray.size : Int) - 1))).objs.size (.lst xs.reverse) :=
    ⟨by rw [List.length_reverse]; exact hz, acc.toList, c, RT.vals_rev rv hi, by rw [Array.toArray_toList]; exact at'⟩
  refine ⟨.ref _, _, I2.turnedNew (t' := tk) (ch := [s1.heap.objs.size]) (fun b o hb e => hk b o (fun q => hb (by rw [q]; exact List.mem_singleton.mpr rfl)) e) (fun b hb => by rw [List.mem_singleton.mp hb]; exact fp) (Nat.le_refl _) new, rfl, q _ (I2.hok.fresh (Nat.le_refl _))⟩
end L2

set_option Elab.async false
set_option linter.all false
set_option maxRecDepth 100000
namespace K
open PySem L2 Evl EX
def top (i : Nat) : Stmt := PySem.Challenge.pw_snakehall_k22_whole_elders_walked.main.body.getD i (.Pass ⟨0, 0, 0, 0⟩)
abbrev s_next_title : Stmt := top 1
abbrev N_next_title : List Str := ["lists", "one", "other"]
theorem sc_next_title : FnScope N_next_title ["lists"] (defScope s_next_title) := ⟨rfl, rfl, rfl, by decide +kernel, rfl, by decide +kernel, by decide +kernel⟩
abbrev s_merged : Stmt := top 2
abbrev N_merged : List Str := ["lists", "left", "order", "title", "one"]
theorem sc_merged : FnScope N_merged ["lists"] (defScope s_merged) := ⟨rfl, rfl, rfl, by decide +kernel, rfl, by decide +kernel, by decide +kernel⟩
abbrev s_order_by : Stmt := top 3
abbrev N_order_by : List Str := ["title", "elders", "orders", "lists", "behind", "elder"]
theorem sc_order_by : FnScope N_order_by ["title", "elders", "orders"] (defScope s_order_by) := ⟨rfl, rfl, rfl, by decide +kernel, rfl, by decide +kernel, by decide +kernel⟩
abbrev s_order_of : Stmt := top 4
abbrev N_order_of : List Str := ["elders", "title", "orders", "waiting", "here", "lacking", "elder"]
theorem sc_order_of : FnScope N_order_of ["elders", "title"] (defScope s_order_of) := ⟨rfl, rfl, rfl, by decide +kernel, rfl, by decide +kernel, by decide +kernel⟩
abbrev s__law_cell_at : Stmt := top 6
abbrev N__law_cell_at : List Str := ["_law_script", "_law_k"]
theorem sc__law_cell_at : FnScope N__law_cell_at ["_law_script", "_law_k"] (defScope s__law_cell_at) := ⟨rfl, rfl, rfl, by decide +kernel, rfl, by decide +kernel, by decide +kernel⟩
abbrev s__law_mixed : Stmt := top 7
abbrev N__law_mixed : List Str := ["_law_number", "_law_k", "_law_once", "_law_twice"]
theorem sc__law_mixed : FnScope N__law_mixed ["_law_number", "_law_k"] (defScope s__law_mixed) := ⟨rfl, rfl, rfl, by decide +kernel, rfl, by decide +kernel, by decide +kernel⟩
abbrev s__law_tap : Stmt := top 8
abbrev N__law_tap : List Str := ["_law_cell"]
theorem sc__law_tap : FnScope N__law_tap ["_law_cell"] (defScope s__law_tap) := ⟨rfl, rfl, rfl, by decide +kernel, rfl, by decide +kernel, by decide +kernel⟩
abbrev s__law_next : Stmt := top 9
abbrev N__law_next : List Str := ["_law_tap_here", "_law_size", "_law_digit"]
theorem sc__law_next : FnScope N__law_next ["_law_tap_here", "_law_size"] (defScope s__law_next) := ⟨rfl, rfl, rfl, by decide +kernel, rfl, by decide +kernel, by decide +kernel⟩
abbrev s__law_walk : Stmt := top 10
abbrev N__law_walk : List Str := ["_law_title", "_law_elders", "_law_told", "_law_rows", "_law_order", "_law_heads", "_law_good", "_law_elder", "_law_row", "_law_head"]
theorem sc__law_walk : FnScope N__law_walk ["_law_title", "_law_elders", "_law_told"] (defScope s__law_walk) := ⟨rfl, rfl, rfl, by decide +kernel, rfl, by decide +kernel, by decide +kernel⟩
abbrev s__law_more : Stmt := top 11
abbrev N__law_more : List Str := ["_law_tap_here", "_law_titles", "_law_elders", "_law_fresh", "_law_some", "_law_near", "_law_turn", "_law_elder", "_law_title"]
theorem sc__law_more : FnScope N__law_more ["_law_tap_here", "_law_titles", "_law_elders", "_law_fresh"] (defScope s__law_more) := ⟨rfl, rfl, rfl, by decide +kernel, rfl, by decide +kernel, by decide +kernel⟩
abbrev s__law_group_right : Stmt := top 12
abbrev N__law_group_right : List Str := ["_law_cells", "_law_start", "_law_titles", "_law_elders", "_law_k", "_law_cell", "_law_tap_here", "_law_fresh", "_law_told", "_law_title"]
theorem sc__law_group_right : FnScope N__law_group_right ["_law_cells", "_law_start"] (defScope s__law_group_right) := ⟨rfl, rfl, rfl, by decide +kernel, rfl, by decide +kernel, by decide +kernel⟩
abbrev s__law_long_right : Stmt := top 13
abbrev N__law_long_right : List Str := ["_law_tap_here", "_law_titles", "_law_order", "_law_k", "_law_elders"]
theorem sc__law_long_right : FnScope N__law_long_right ["_law_tap_here"] (defScope s__law_long_right) := ⟨rfl, rfl, rfl, by decide +kernel, rfl, by decide +kernel, by decide +kernel⟩
abbrev s_law : Stmt := top 14
abbrev N_law : List Str := ["_law_script", "_law_cells", "_law_tap_here", "_law_start"]
theorem sc_law : FnScope N_law ["_law_script"] (defScope s_law) := ⟨rfl, rfl, rfl, by decide +kernel, rfl, by decide +kernel, by decide +kernel⟩
structure Txt (mg : Str → Option Value) : Prop where
  any : mg "any" = none
  len : mg "len" = none
  list : mg "list" = none
  set : mg "set" = none
  abs : mg "abs" = none
  int : mg "int" = none
  range : mg "range" = none
  reversed : mg "reversed" = none
  enumerate : mg "enumerate" = none
  dict : mg "dict" = none
  max : mg "max" = none
theorem getD_tail (ls : List (List Str)) (j : Nat) : ∀ {l}, ls[j]? = some l → (ls.getD j []) = l := by
  intro l h
  rw [List.getD_eq_getElem?_getD, h]
  rfl
theorem given_all {α : Type} (ls : List α) (d : α) (f : α → V) : given ls.length (fun _ => true) (fun j => f (ls.getD j d)) = ls.map f := by
  unfold given
  rw [List.filter_eq_self.mpr (fun _ _ => rfl)]
  apply List.ext_getElem?
  intro j
  by_cases h : j < ls.length
  · rw [List.getElem?_map, List.getElem?_map, List.getElem?_range h, List.getElem?_eq_getElem h]
    show some (f (ls.getD j d)) = some (f ls[j])
    rw [List.getD_eq_getElem?_getD, List.getElem?_eq_getElem h]
    rfl
  · rw [List.getElem?_eq_none (by simp; omega), List.getElem?_eq_none (by simp; omega)]
section
variable {P : Program} {w : World} {K : PySem.W.Frag} {mg : Str → Option Value} {base : Heap}
def spNext (K : PySem.W.Frag) : Sp := fun vs H Q _ => ∃ (a : Addr) (ps : List V) (ls : List (List Str)), vs = [.ref a] ∧ SqL K H a ps ∧ Rows K H ps ls ∧ ls.length ≤ 1000 ∧ (∀ l ∈ ls, l ≠ []) ∧ RetV (optS (EM.nextT ls)) H Q
theorem ok_next {f : Addr} {fd : FuncData} (F : Fun K "next_title" "next_title" s_next_title f fd) (T : Txt mg) : FnOk P w K mg base CX0 1 f fd ["lists"] (spNext K) := by
  refine F.ok sc_next_title (fun vs H Q E h => ?_) (fun cdv A outer s H vs Q E hr h => ?_)
  · obtain ⟨a, ps, ls, rfl, _⟩ := h
    rfl
  · obtain ⟨a, ps, ls, rfl, hS, hR, hz, hne, k⟩ := h
    refine ⟨_, pss_cons (ps_for PassesOwn.never rfl (piL (K := K) (pv 0)) (pg_name (i := 1) sc_next_title.nd rfl (Or.inr rfl))
        (pss_one (ps_if (pt_not (pt_val (pe_callB (crAny (K := K)) (by rfl) T.any (by decide +kernel) (pa_cons (pe_lc (own := [("other", 2)]) (g := gName 2) (tt := tYes) rfl sc_next_title.nd (piL (K := K) (pv 0)) (blkOk_by (N := N_next_title) (sc := defScope s_next_title) (by decide +kernel)) (fun _ _ _ _ _ => pg_name (i := 2) sc_next_title.nd rfl (Or.inl rfl)) (fun _ _ _ _ _ => pts_nil) (fun _ _ _ _ _ => pe_cmpR (opIn (K := K)) (pe_ix (ixL (K := K)) (pv 1) (pe_int) (fun _ _ => rfl)) (pe_slice (slL (K := K)) (pv 2) (po_some (pe_int)) po_none) (by rfl))) pa_nil))))
          (pss_one (ps_ret (pe_ix (ixL (K := K)) (pv 1) (pe_int) (fun _ _ => rfl))))
          (pss_nil))))
      (pss_one (ps_ret (pe_non))), ?_⟩
    have hlen : ps.length = ls.length := hR.1
    refine q_forLn (K := K) (ev_var rfl) hS (fun i σ H' => ∃ v o, σ = [some (.ref a), v, o] ∧ Ex H H' ∧ ∀ l ∈ ls.take i, ∀ t, l.head? = some t → EM.free ls t = false) ?_ ?_ ?_ ?_
    · intro H1 e
      exact ⟨_, _, rfl, e, fun l hl => by simp at hl⟩
    · rintro i σ H' _ ⟨v, o, rfl, e, _⟩
      exact ex_l e hS
    · rintro i x σ H' hi ⟨v, o, rfl, e, hp⟩
      obtain ⟨p, l, rfl, hl, hq⟩ := (hR.mono e).at hi
      obtain ⟨t, r, rfl⟩ : ∃ t r, l = t :: r := by
        cases l with
        | nil => exact absurd rfl (hne _ (List.mem_of_getElem? hl))
        | cons t r => exact ⟨t, r, rfl⟩
      have hb : EvT (tNot (tB (tCB (rAny K) (tCons (tLc (iList K (tVar 0)) (gName 2) tYes (tOp (rIn K false) (tOp (rIxL K) (tVar 1) (tC (V.int 0))) (tSl (rSlL K) (tVar 2) (tPart (tC (V.int 1))) tNoPart)) (List.map (fun x => x.snd) [(Str.ofString "other", 2)])) tNil))))
          [some (V.ref a), some (V.ref p), o] H' (EM.free ls t) := by
        have e1 : EM.free ls t = !((ls.map fun o => decide (t ∈ o.tail)).any id) := by
          unfold EM.free
          rw [List.any_map]
          rfl
        rw [e1]
        refine et_not (et_B (ev_any ?_))
        have e2 : (ls.map fun o => decide (t ∈ o.tail)).map V.bl = given ps.length (fun _ => true) (fun j => V.bl (decide (t ∈ (ls.getD j []).tail))) := by
          rw [hlen, given_all ls [] (fun o => V.bl (decide (t ∈ o.tail))), List.map_map]
          rfl
        rw [e2]
        refine el_lcL (K := K) (fun _ => true) _ (ev_var rfl) (ex_l e hS) (by omega) (fun x => rfl) (fun j x H1 e1 hj => ?_) (fun j x H1 e1 hj _ => ?_)
        · exact fun H2 _ Q q => q H2 (Ex.refl H2)
        · obtain ⟨p', l', rfl, hl', hq'⟩ := (hR.mono (e.trans e1)).at hj
          rw [getD_tail ls j hl', ← inV_str t l'.tail]
          refine ev_opL (xs := l'.tail.map V.str) (x := V.str t) (ev_op (ev_var rfl) ev_c (rv_ixL (ex_l e1 hq) at0)) ?_ fun q H2 hq2 e2 => rv_isL (sq_of hq2) rfl (flat_str _)
          have := el_sl (K := K) (ev_var (σ := [some (V.ref a), some (V.ref p), some (V.ref p')]) (i := 2) rfl) (eo_some (i := 1) ev_c) eo_none hq'
          rw [cut1, ← List.map_tail] at this
          exact this
      refine s_when hb (fun ht H1 e1 => ?_) (fun ht H1 e1 => ?_)
      · refine s_ret (v := .str t) (ev_op (ev_var rfl) ev_c (rv_ixL (ex_l e1 hq) at0)) fun H2 e2 => ?_
        have hn : EM.nextT ls = some t := EM.nextT_at hl rfl ht hp
        rw [hn] at k
        exact k.go (e.trans (e1.trans e2))
      · refine ⟨_, _, rfl, e.trans e1, fun l' hl' t' ht' => ?_⟩
        rw [List.take_add_one, hl] at hl'
        rcases List.mem_append.mp hl' with q | q
        · exact hp l' q t' ht'
        · simp at q
          subst q
          simp at ht'
          subst ht'
          exact ht
    · rintro σ H' ⟨v, o, rfl, e, hp⟩
      have hn : EM.nextT ls = none := EM.nextT_no (by rwa [List.take_of_length_le (by omega)] at hp)
      rw [hn] at k
      exact s_ret ev_c fun H2 e2 => k.go (e.trans e2)
end
end K

set_option Elab.async false
set_option linter.all false
set_option maxRecDepth 100000
namespace K
open PySem L2 Evl EX
/-- a list of texts or none -/
def RetO (r : Option (List Str)) (H : Hp) (Q : VK) : Prop := match r with
  | none => RetV .non H Q
  | some l => RetL (l.map V.str) H Q
abbrev Rw := Addr × List Str
/-- rows of our own: their addresses apart from one another, made behind H -/
structure Own (H H' : Hp) (rs : List Rw) : Prop where
  nd : (rs.map (·.1)).Nodup
  new : ∀ r ∈ rs, H r.1 = none
  at_ : ∀ r ∈ rs, H' r.1 = some (.lst (r.2.map V.str))
theorem Own.mono {H H' H2 : Hp} {rs : List Rw} (o : Own H H' rs) (e : Ex H' H2) : Own H H2 rs := ⟨o.nd, o.new, fun r hr => e _ _ (o.at_ r hr)⟩
theorem Own.rows {K : PySem.W.Frag} {H H' : Hp} {rs : List Rw} (o : Own H H' rs) : Rows K H' (rs.map fun r => V.ref r.1) (rs.map (·.2)) := by
  refine ⟨by simp, fun i l h => ?_⟩
  rw [List.getElem?_map] at h
  cases hr : rs[i]? with
  | none => rw [hr] at h; cases h
  | some r =>
    rw [hr] at h
    cases h
    exact ⟨r.1, by rw [List.getElem?_map, hr]; rfl, sq_of (o.at_ r (List.mem_of_getElem? hr))⟩
theorem own_of {H H' : Hp} {D : Addr} {qs : List Addr} {ls : List (List Str)} (r : NewL H H' D qs (ls.map fun l => l.map V.str)) : Own H H' (qs.zip ls) ∧ (qs.zip ls).map (·.1) = qs ∧ (qs.zip ls).map (·.2) = ls := by
  have hl : qs.length = ls.length := by rw [r.rows.1, List.length_map]
  have h1 : (qs.zip ls).map (·.1) = qs := List.map_fst_zip (by omega)
  have h2 : (qs.zip ls).map (·.2) = ls := List.map_snd_zip (by omega)
  refine ⟨⟨by rw [h1]; exact r.nd, fun x hx => r.new _ (List.of_mem_zip hx).1, fun x hx => ?_⟩, h1, h2⟩
  obtain ⟨i, hi, e⟩ := List.getElem_of_mem hx
  rw [List.length_zip] at hi
  have hi1 : i < qs.length := by omega
  have hi2 : i < ls.length := by omega
  rw [List.getElem_zip] at e
  obtain ⟨q, a1, a2⟩ := r.rows.2 i (ls[i].map V.str) (by rw [List.getElem?_map, List.getElem?_eq_getElem hi2]; rfl)
  rw [List.getElem?_eq_getElem hi1] at a1
  cases a1
  subst e
  exact a2
theorem nodup_ix' {α : Type} {l : List α} (hN : l.Nodup) {i j : Nat} {x : α} (a : l[i]? = some x) (b : l[j]? = some x) : i = j := nd_ix hN a b
section
variable {P : Program} {w : World} {K : PySem.W.Frag} {mg : Str → Option Value} {base : Heap}
def spMerged (K : PySem.W.Frag) : Sp := fun vs H Q _ => ∃ (a : Addr) (ps : List V) (ls : List (List Str)), vs = [.ref a] ∧ SqL K H a ps ∧ Rows K H ps ls ∧ ls.length ≤ 1000 ∧ EM.tot ls ≤ 10000 ∧ RetO (EM.merge ls) H Q
theorem ok_merged {f : Addr} {fd : FuncData} (F : Fun K "merged" "merged" s_merged f fd) (T : Txt mg) (G_next_title : Def P w K mg base 1 "next_title" ["lists"] (spNext K)) : FnOk P w K mg base CX0 2 f fd ["lists"] (spMerged K) := by
  refine F.ok sc_merged (fun vs H Q E h => ?_) (fun cdv A outer s H vs Q E hr h => ?_)
  · obtain ⟨a, ps, ls, rfl, _⟩ := h
    rfl
  · obtain ⟨a, ps, ls, rfl, hS, hR, hz, ht, k⟩ := h
    have hlen : ps.length = ls.length := hR.1
    refine ⟨_, pss_cons (ps_setLc (i := 1) (own := [("one", 4)]) (g := gName 4) rfl sc_merged.nd rfl rfl (sw_true rfl rfl rfl (by decide +kernel)) (piL (K := K) (pv 0)) (blkOk_by (N := N_merged) (sc := defScope s_merged) (by decide +kernel)) (fun _ _ _ _ _ => pg_name (i := 4) sc_merged.nd rfl (Or.inl rfl)) (fun _ _ _ _ _ => pts_one (pt_cmpR op_gt (pe_callB (clLen (K := K)) (by rfl) T.len (by decide +kernel) (pa_cons (pv 4) pa_nil)) (pe_int) (nomark _))) (fun _ _ _ _ _ => pe_callTy (clList (K := K)) (by rfl) T.list (by decide +kernel) (pa_cons (pv 4) pa_nil)))
      (pss_cons (ps_set (i := 2) sc_merged.nd rfl (Or.inl rfl) (pe_lst (pa_nil)))
      (pss_cons (ps_while PassesOwn.never (pt_cmpR op_gt (pe_callB (clLen (K := K)) (by rfl) T.len (by decide +kernel) (pa_cons (pv 1) pa_nil)) (pe_int) (nomark _))
        (pss_cons (ps_set (i := 3) sc_merged.nd rfl (Or.inl rfl) (pe_def G_next_title (hr.mono (by decide)) (by rfl) (pa_cons (pv 1) pa_nil)))
        (pss_cons (ps_if (pt_cmpR op_isN (pv 3) (pe_non) (nomark _))
          (pss_one (ps_ret (pe_non)))
          (pss_nil))
        (pss_cons (ps_expr (peBm (K := K) PySem.F.plainAttrs_list PySem.F.slot_list_append PySem.F.type_list_append mt_append (pv 2) (pa_cons (pv 3) pa_nil)))
        (pss_cons (ps_for PassesOwn.never rfl (piL (K := K) (pv 1)) (pg_name (i := 4) sc_merged.nd rfl (Or.inl rfl))
          (pss_one (ps_if (pt_cmpR op_eq (pe_ix (ixL (K := K)) (pv 4) (pe_int) (fun _ _ => rfl)) (pv 3) (nomark _))
            (pss_one (ps_expr (peBm (K := K) PySem.F.plainAttrs_list PySem.F.slot_list_pop PySem.F.type_list_pop mt_popAt (pv 4) (pa_cons (pe_int) pa_nil))))
            (pss_nil))))
        (pss_one (ps_setLc (i := 1) (own := [("one", 4)]) (g := gName 4) rfl sc_merged.nd rfl rfl (sw_true rfl rfl rfl (by decide +kernel)) (piL (K := K) (pv 1)) (blkOk_by (N := N_merged) (sc := defScope s_merged) (by decide +kernel)) (fun _ _ _ _ _ => pg_name (i := 4) sc_merged.nd rfl (Or.inl rfl)) (fun _ _ _ _ _ => pts_one (pt_cmpR op_gt (pe_callB (clLen (K := K)) (by rfl) T.len (by decide +kernel) (pa_cons (pv 4) pa_nil)) (pe_int) (nomark _))) (fun _ _ _ _ _ => pv 4))))))))
      (pss_one (ps_ret (pv 2))))), ?_⟩
    -- left = [list(one) for one in lists if len(one) > 0]
    refine q_lcNew (K := K) (fun i => !(ls.getD i []).isEmpty) (fun i => (ls.getD i []).map V.str) (ev_var rfl) hS (by omega) (fun x => rfl) ?_ ?_ ?_
    · intro i x H1 e1 hi
      obtain ⟨p, l, rfl, hl, hq⟩ := (hR.mono e1).at hi
      rw [getD_of hl]
      refine et_test (ev_is (ev_op (ev_len (K := K) (ev_var rfl) hq) ev_c rv_I0) ?_)
      cases l <;> simp
    · intro i x H1 e1 hi _
      obtain ⟨p, l, rfl, hl, hq⟩ := (hR.mono e1).at hi
      rw [getD_of hl]
      exact el_list (K := K) (ev_var rfl) hq
    · intro L qs H1 hN
      rw [show givenL ps.length (fun i => !(ls.getD i []).isEmpty) (fun i => (ls.getD i []).map V.str) = (EM.live ls).map (fun l => l.map V.str) by
        rw [hlen]
        exact range_filter ls [] (fun l => !l.isEmpty) (fun l => l.map V.str)] at hN
      obtain ⟨own, z1, z2⟩ := own_of hN
      generalize qs.zip (EM.live ls) = rs at own z1 z2
      subst z1
      have atL := hN.at_
      have exL := hN.ex
      rw [List.map_map] at atL
      clear hN hS hR
      -- order = []
      refine q_asgL (el_lst ea_nil (Nat.zero_le _)) fun O H2 nO e2 atO => ?_
      have hO : H O = none := fresh_back exL nO
      have hOr : ∀ r ∈ rs, O ≠ r.1 := fun r hr z => by
        have := own.at_ r hr
        rw [← z, nO] at this
        cases this
      refine q_while (fun m σ H' => ∃ (L : Addr) (rs : List Rw) (od : List Str) (v3 v4 : Option V), σ = [some (.ref a), some (.ref L), some (.ref O), v3, v4] ∧ Ex H H' ∧ H' O = some (.lst (od.map V.str)) ∧
          H' L = some (.lst (rs.map fun r => V.ref r.1)) ∧ O ≠ L ∧ Own H H' rs ∧ (∀ r ∈ rs, O ≠ r.1) ∧ (∀ r ∈ rs, r.2 ≠ []) ∧ od.length + EM.tot (rs.map (·.2)) ≤ 10000 ∧ rs.length ≤ 1000 ∧ m = EM.tot (rs.map (·.2)) ∧
          EM.merge ls = (EM.merge (rs.map (·.2))).map (od ++ ·)) (EM.tot (rs.map (·.2))) ?_ ?_
      · refine ⟨L, rs, [], _, _, rfl, exL.trans e2, atO, e2 _ _ atL, fun z => ?_, own.mono e2, hOr, ?_, ?_, ?_, rfl, ?_⟩
        · rw [z, atL] at nO
          cases nO
        · intro r hr
          have : r.2 ∈ EM.live ls := by rw [← z2]; exact List.mem_map.mpr ⟨r, hr, rfl⟩
          have := (List.mem_filter.mp this).2
          intro q
          rw [q] at this
          cases this
        · rw [z2, EM.tot_live]
          simpa using ht
        · have : rs.length = (EM.live ls).length := by rw [← z2, List.length_map]
          rw [this]
          exact Nat.le_trans (List.length_filter_le _ _) hz
        · rw [z2, EM.merge_live]
          cases EM.merge ls <;> simp
      · clear own atL exL nO e2 atO hOr z2 rs L H1 H2
        rintro m σ H' ⟨L, rs, od, v3, v4, rfl, e, atO, atL, nOL, own, hOr, hne, hB, hrl, rfl, hm⟩
        refine ⟨!rs.isEmpty, et_test (ev_is (ev_op (ev_len (K := K) (ev_var rfl) (sq_of atL)) ev_c rv_I0) ?_), fun hb H1 e1 => ⟨_, fun σ2 H2 h => h, ?_⟩, fun hb H1 e1 => ?_⟩
        · cases rs <;> simp
        · -- title = next_title(left)
          refine q_asg (v := optS (EM.nextT (rs.map (·.2)))) (ev_call (ea_cons (ev_var rfl) ea_nil) fun H2 e2 Q' q' E' => ⟨L, _, _, rfl, sq_of ((e1.trans e2) _ _ atL), (own.mono (e1.trans e2)).rows, by simpa using hrl, ?_, fun H3 e3 => q' H3 e3⟩) fun H2 e2 => ?_
          · intro l hl
            obtain ⟨r, hr, rfl⟩ := List.mem_map.mp hl
            exact hne r hr
          have hlive : EM.live (rs.map (·.2)) ≠ [] := by
            rw [EM.live_of_ne fun l hl => by
              obtain ⟨r, hr, rfl⟩ := List.mem_map.mp hl
              exact hne r hr]
            intro q
            rw [List.map_eq_nil_iff] at q
            subst q
            cases hb
          have e12 := e1.trans e2
          cases hn : EM.nextT (rs.map (·.2)) with
          | none =>
            refine q_when (b := true) (et_test (ev_op (ev_var rfl) ev_c rv_isN)) (fun _ H3 e3 => ?_) (fun q => nomatch q)
            refine s_ret ev_c fun H4 e4 => ?_
            rw [hm, EM.merge_none hlive hn] at k
            exact RetV.go (show RetV .non H Q from k) (e.trans (e12.trans (e3.trans e4)))
          | some t =>
            refine q_when (b := false) (et_test (ev_op (ev_var rfl) ev_c rv_isN)) (fun q => nomatch q) (fun _ H3 e3 => ?_)
            have e13 := e12.trans e3
            -- order.append(title)
            refine q_app (K := K) (e13 _ _ atO) (ev_var rfl) (ev_var rfl) (by rw [List.length_map]; omega) fun H4 e4 => ?_
            have e14 := e13.trans e4
            -- for one in left
            have hL5 : upd H4 O (.lst (od.map V.str ++ [V.str t])) L = some (.lst (rs.map fun r => V.ref r.1)) := by rw [upd_ne (Ne.symm nOL)]; exact e14 _ _ atL
            have hd := (EM.tot_drop_lt t _ (EM.nextT_mem hn))
            refine q_forLn (K := K) (ev_var rfl) (sq_of hL5) (fun i σ H'' => ∃ v4, σ = [some (.ref a), some (.ref L), some (.ref O), some (.str t), v4] ∧ Ex H H'' ∧ H'' O = some (.lst ((od ++ [t]).map V.str)) ∧ H'' L = some (.lst (rs.map fun r => V.ref r.1)) ∧
              ∀ j r, rs[j]? = some r → H'' r.1 = some (.lst ((if j < i then EM.dropH t r.2 else r.2).map V.str))) ?_ ?_ ?_ ?_
            · intro H5 e5
              refine ⟨_, rfl, (Ex.mut (e.trans e14) hO).trans e5, e5 _ _ (by rw [upd_same]; simp [optS]), e5 _ _ hL5, fun j r hr => ?_⟩
              have hrm := List.mem_of_getElem? hr
              rw [if_neg (by omega)]
              refine e5 _ _ ?_
              rw [upd_ne (Ne.symm (hOr r hrm))]
              exact e14 _ _ (own.at_ r hrm)
            · rintro i σ' H'' _ ⟨_, rfl, _, _, hL, _⟩
              exact sq_of hL
            · rintro i x σ' H'' hi ⟨v4', rfl, e5, hO5, hL, hrows⟩
              rw [List.getElem?_map] at hi
              cases hr : rs[i]? with
              | none => rw [hr] at hi; cases hi
              | some r =>
                rw [hr] at hi
                cases hi
                have hrm := List.mem_of_getElem? hr
                have hat := hrows i r hr
                rw [if_neg (by omega)] at hat
                obtain ⟨p, l⟩ := r
                obtain ⟨y, tl, rfl⟩ : ∃ y tl, l = y :: tl := by
                  cases l with
                  | nil => exact absurd rfl (hne _ hrm)
                  | cons y tl => exact ⟨y, tl, rfl⟩
                have hstep : ∀ (H6 : Hp), (∀ a o, a ≠ p → H'' a = some o → H6 a = some o) → H6 p = some (.lst ((EM.dropH t (y :: tl)).map V.str)) → ∀ j r, rs[j]? = some r → H6 r.1 = some (.lst ((if j < i + 1 then EM.dropH t r.2 else r.2).map V.str)) := by
                  intro H6 kp hp6 j r' hj
                  by_cases q : j = i
                  · subst q
                    rw [hr] at hj
                    cases hj
                    rw [if_pos (by omega)]
                    exact hp6
                  · have hne' : r'.1 ≠ p := fun z => q (nodup_ix' own.nd (x := p) (by rw [List.getElem?_map, hj]; exact congrArg some z) (by rw [List.getElem?_map, hr]; rfl))
                    have := hrows j r' hj
                    by_cases hji : j < i
                    · rw [if_pos hji] at this
                      rw [if_pos (by omega)]
                      exact kp _ _ hne' this
                    · rw [if_neg hji] at this
                      rw [if_neg (by omega)]
                      exact kp _ _ hne' this
                refine s_when (b := decide (y = t)) (et_test (ev_is (ev_op (ev_op (ev_var rfl) ev_c (rv_ixL (K := K) (sq_of hat) at0)) (ev_var rfl) (rv_eq rfl)) ?_)) (fun hb H6 e6 => ?_) (fun hb H6 e6 => ?_)
                · rw [dec_str]
                  by_cases q : y = t <;> simp [q]
                · have hyt : y = t := of_decide_eq_true hb
                  have hLp : L ≠ p := ne_of hL hat (fun z => by
                    injection z with z1
                    cases rs with
                    | nil => simp at hr
                    | cons r0 rs0 => simp at z1)
                  refine s_pop0 (K := K) (e6 _ _ hat) (ev_var rfl) ev_c fun H7 e7 => ?_
                  refine ⟨_, rfl, Ex.mut (e5.trans (e6.trans e7)) (own.new _ hrm), ?_, ?_, hstep _ (fun b o hb' ho => ?_) ?_⟩
                  · rw [upd_ne (hOr _ hrm)]
                    exact (e6.trans e7) _ _ hO5
                  · rw [upd_ne hLp]
                    exact (e6.trans e7) _ _ hL
                  · rw [upd_ne hb']
                    exact (e6.trans e7) _ _ ho
                  · have hd' : EM.dropH t (y :: tl) = tl := by
                      unfold EM.dropH
                      rw [if_pos (by rw [hyt]; rfl)]
                      rfl
                    rw [upd_same, hd']
                · have hyt : ¬ y = t := of_decide_eq_false hb
                  refine ⟨_, rfl, e5.trans e6, e6 _ _ hO5, e6 _ _ hL, hstep _ (fun b o _ ho => e6 _ _ ho) ?_⟩
                  have hd' : EM.dropH t (y :: tl) = y :: tl := by
                    unfold EM.dropH
                    rw [if_neg (by intro z; exact hyt (Option.some.inj z))]
                  rw [hd']
                  exact e6 _ _ hat
            · rintro σ' H'' ⟨v4', rfl, e5, hO5, hL, hrows⟩
              -- left = [one for one in left if len(one) > 0]
              have hrow : ∀ r ∈ rs, H'' r.1 = some (.lst ((EM.dropH t r.2).map V.str)) := fun r hr => by
                obtain ⟨j, hj, e⟩ := List.getElem_of_mem hr
                have := hrows j r (by rw [List.getElem?_eq_getElem hj, e])
                rwa [if_pos (by simpa using hj)] at this
              have hg : given (rs.map fun r => V.ref r.1).length (fun i => !(EM.dropH t (rs.getD i (0, [])).2).isEmpty) (fun i => V.ref (rs.getD i (0, [])).1) = ((rs.map fun r => (r.1, EM.dropH t r.2)).filter fun r => !r.2.isEmpty).map fun r => V.ref r.1 := by
                rw [List.length_map, given_filter rs (0, []) (fun r => !(EM.dropH t r.2).isEmpty) (fun r => V.ref r.1), List.filter_map, List.map_map]
                rfl
              refine s_asgL (xs := ((rs.map fun r => (r.1, EM.dropH t r.2)).filter fun r => !r.2.isEmpty).map fun r => V.ref r.1) ?_ fun p H6 hp e6 atp => ?_
              · rw [← hg]
                refine el_lcL (K := K) _ _ (ev_var rfl) (sq_of hL) (by rw [List.length_map]; omega) (fun x => rfl) (fun j x H7 e7 hj => ?_) (fun j x H7 e7 hj _ => ?_)
                · rw [List.getElem?_map] at hj
                  cases hr : rs[j]? with
                  | none => rw [hr] at hj; cases hj
                  | some r =>
                    rw [hr] at hj
                    cases hj
                    rw [getD_of hr]
                    refine et_test (ev_is (ev_op (ev_len (K := K) (ev_var rfl) (sq_of (e7 _ _ (hrow r (List.mem_of_getElem? hr))))) ev_c rv_I0) ?_)
                    cases EM.dropH t r.2 <;> simp
                · rw [List.getElem?_map] at hj
                  cases hr : rs[j]? with
                  | none => rw [hr] at hj; cases hj
                  | some r =>
                    rw [hr] at hj
                    cases hj
                    rw [getD_of hr]
                    exact ev_var rfl
              · have hls : ((rs.map fun r => (r.1, EM.dropH t r.2)).filter fun r => !r.2.isEmpty).map (·.2) = EM.live ((rs.map (·.2)).map (EM.dropH t)) := by
                  unfold EM.live
                  rw [List.filter_map, List.map_map, List.filter_map, List.filter_map, List.map_map]
                  rfl
                have hmem : ∀ r ∈ (rs.map fun r => (r.1, EM.dropH t r.2)).filter (fun r => !r.2.isEmpty), ∃ r0 ∈ rs, r = (r0.1, EM.dropH t r0.2) ∧ r.2 ≠ [] := by
                  intro r hr
                  obtain ⟨h1, h2⟩ := List.mem_filter.mp hr
                  obtain ⟨r0, h3, rfl⟩ := List.mem_map.mp h1
                  refine ⟨r0, h3, rfl, fun z => ?_⟩
                  rw [z] at h2
                  cases h2
                refine ⟨EM.tot (((rs.map fun r => (r.1, EM.dropH t r.2)).filter fun r => !r.2.isEmpty).map (·.2)), ?_, p, _, od ++ [t], _, _, rfl, e5.trans e6, e6 _ _ hO5, atp, ?_, ⟨?_, ?_, ?_⟩, ?_, ?_, ?_, ?_, rfl, ?_⟩
                · rw [hls, EM.tot_live]
                  exact hd
                · intro z
                  rw [← z, hO5] at hp
                  cases hp
                · refine List.Nodup.sublist ?_ own.nd
                  have : rs.map (·.1) = (rs.map fun r => (r.1, EM.dropH t r.2)).map (·.1) := by rw [List.map_map]; rfl
                  rw [this]
                  exact List.Sublist.map _ List.filter_sublist
                · intro r hr
                  obtain ⟨r0, h0, rfl, _⟩ := hmem r hr
                  exact own.new r0 h0
                · intro r hr
                  obtain ⟨r0, h0, rfl, _⟩ := hmem r hr
                  exact e6 _ _ (hrow r0 h0)
                · intro r hr
                  obtain ⟨r0, h0, rfl, _⟩ := hmem r hr
                  exact hOr r0 h0
                · intro r hr
                  obtain ⟨r0, h0, _, hn⟩ := hmem r hr
                  exact hn
                · rw [hls, EM.tot_live, List.length_append, List.length_singleton]
                  omega
                · refine Nat.le_trans (List.length_filter_le _ _) ?_
                  rw [List.length_map]
                  exact hrl
                · rw [hm, EM.merge_step hn, hls, EM.merge_live]
                  cases EM.merge ((rs.map (·.2)).map (EM.dropH t)) <;> simp
        · -- return order
          have hrs : rs = [] := by
            cases rs with
            | nil => rfl
            | cons _ _ => cases hb
          subst hrs
          have hm' : EM.merge ls = some od := by
            rw [hm]
            show (EM.merge ([] : List (List Str))).map _ = _
            rw [EM.merge_done (show EM.live ([] : List (List Str)) = [] from rfl)]
            simp
          rw [hm'] at k
          exact s_ret (ev_var rfl) fun H2 e2 => (show RetL (od.map V.str) H Q from k) O H2 hO (e.trans (e1.trans e2)) ((e1.trans e2) _ _ atO)
end
end K

set_option Elab.async false
set_option linter.all false
set_option maxRecDepth 100000
namespace K
open PySem L2 Evl EX
theorem RetO.go {r : Option (List Str)} {H : Hp} {Q : VK} (k : RetO r H Q) {K : PySem.W.Frag} {H' : Hp} (e : Ex H H') : RetO r H' Q := by
  cases r with
  | none => exact fun H2 e2 => (show RetV .non H Q from k) H2 (e.trans e2)
  | some l => exact fun p H2 hp e2 h2 => (show RetL (l.map V.str) H Q from k) p H2 (fresh_back e hp) (e.trans e2) h2
theorem mapM_get {f : Str → Option (List Str)} : ∀ {es : List Str} {ls : List (List Str)}, es.mapM f = some ls → ∀ (i : Nat) l, ls[i]? = some l → ∃ e, es[i]? = some e ∧ f e = some l
  | [], ls, h, i, l, hl => by
    simp at h
    subst h
    simp at hl
  | e :: es, ls, h, i, l, hl => by
    rw [List.mapM_cons] at h
    cases he : f e with
    | none => rw [he] at h; cases h
    | some o =>
      cases hm : es.mapM f with
      | none => rw [he, hm] at h; cases h
      | some r =>
        rw [he, hm] at h
        cases h
        cases i with
        | zero =>
          simp at hl
          subst hl
          exact ⟨e, rfl, he⟩
        | succ i =>
          simp at hl
          obtain ⟨e', a, b⟩ := mapM_get hm i l hl
          exact ⟨e', by simpa using a, b⟩
theorem mapM_none {f : Str → Option (List Str)} : ∀ {es : List Str}, (es.map f).any (·.isNone) = true → es.mapM f = none
  | [], h => by simp at h
  | e :: es, h => by
    rw [List.mapM_cons]
    cases he : f e with
    | none => rfl
    | some o =>
      rw [List.map_cons, List.any_cons, he] at h
      rw [mapM_none (es := es) (by simpa using h)]
      rfl
theorem mapM_all {f : Str → Option (List Str)} : ∀ {es : List Str}, (es.map f).any (·.isNone) = false → ∃ ls, es.mapM f = some ls
  | [], _ => ⟨[], rfl⟩
  | e :: es, h => by
    rw [List.map_cons, List.any_cons, Bool.or_eq_false_iff] at h
    obtain ⟨ls, hl⟩ := mapM_all (es := es) h.2
    cases he : f e with
    | none => rw [he] at h; cases h.1
    | some o => exact ⟨o :: ls, by rw [List.mapM_cons, he, hl]; rfl⟩
theorem tot_le {ls : List (List Str)} {B : Nat} (h : ∀ l ∈ ls, l.length ≤ B) : EM.tot ls ≤ B * ls.length := by
  induction ls with
  | nil => simp [EM.tot_nil]
  | cons l ls ih =>
    rw [EM.tot_cons, List.length_cons, Nat.mul_succ]
    have h1 := h l List.mem_cons_self
    have h2 := ih fun x hx => h x (List.mem_cons_of_mem _ hx)
    omega
section
variable {P : Program} {w : World} {K : PySem.W.Frag} {mg : Str → Option Value} {base : Heap}
def spOrderBy (K : PySem.W.Frag) : Sp := fun vs H Q _ => ∃ (t : Str) (el d : Addr) (es : List Str) (kvs : List (Key × V)) (f : Str → Option (List Str)), vs = [.str t, .ref el, .ref d] ∧ H el = some (.lst (es.map V.str)) ∧ Rd H d (.dK kvs) ∧ es.length ≤ 50 ∧
  (∀ e ∈ es, ∃ v, valV kvs (Sum.inr e) = some v ∧ ValO K H v (f e)) ∧ (∀ e ∈ es, OksO (f e) ∧ ∀ l, f e = some l → l.length ≤ 100) ∧ RetO (EM.orderBy t es f) H Q
theorem ok_order_by {f : Addr} {fd : FuncData} (F : Fun K "order_by" "order_by" s_order_by f fd) (T : Txt mg) (G_merged : Def P w K mg base 2 "merged" ["lists"] (spMerged K)) : FnOk P w K mg base CX0 3 f fd ["title", "elders", "orders"] (spOrderBy K) := by
  refine F.ok sc_order_by (fun vs H Q E h => ?_) (fun cdv A outer s H vs Q E hr h => ?_)
  · obtain ⟨t, el, d, es, kvs, f, rfl, _⟩ := h
    rfl
  · obtain ⟨t, el, d, es, kvs, f, rfl, hE, hd, hz, hv, ho, k⟩ := h
    have hu := hu_of hr
    refine ⟨_, pss_cons (ps_if (pt_cmpR op_lt (pe_lenSetS (K := K) rfl (by rfl) T.len (by rfl) T.set (pv 1)) (pe_callB (clLen (K := K)) (by rfl) T.len (by decide +kernel) (pa_cons (pv 1) pa_nil)) (nomark _))
        (pss_one (ps_ret (pe_non)))
        (pss_nil))
      (pss_cons (ps_setLc (i := 3) (own := [("elder", 5)]) (g := gName 5) (tt := tYes) rfl sc_order_by.nd rfl rfl (sw_true rfl rfl rfl (by decide +kernel)) (piL (K := K) (pv 1)) (blkOk_by (N := N_order_by) (sc := defScope s_order_by) (by decide +kernel)) (fun _ _ _ _ _ => pg_name (i := 5) sc_order_by.nd rfl (Or.inl rfl)) (fun _ _ _ _ _ => pts_nil) (fun _ _ _ _ _ => pe_dget hu (pv 2) (pv 5) (fun _ _ => rfl)))
      (pss_cons (ps_if (pt_cmpR (opInD (K := K) (hu65 hr)) (pe_non) (pv 3) (by rfl))
        (pss_one (ps_ret (pe_non)))
        (pss_nil))
      (pss_cons (ps_set (i := 4) sc_order_by.nd rfl (Or.inl rfl) (pe_def G_merged (hr.mono (by decide)) (by rfl) (pa_cons (pe_op op_cat (pv 3) (pe_lst (pa_cons (pv 1) pa_nil))) pa_nil)))
      (pss_cons (ps_if (pt_cmpR op_isN (pv 4) (pe_non) (nomark _))
        (pss_one (ps_ret (pe_non)))
        (pss_nil))
      (pss_one (ps_ret (pe_op op_cat (pe_lst (pa_cons (pv 0) pa_nil)) (pv 4)))))))), ?_⟩
    refine q_when (et_lenSet (K := K) (ev_var rfl) (sq_of hE) (by omega)) (fun hb H1 e1 => ?_) (fun hb H1 e1 => ?_)
    · have nd : ¬ es.Nodup := by simpa using hb
      unfold EM.orderBy at k
      rw [if_neg nd] at k
      exact s_ret ev_c fun H2 e2 => RetV.go (show RetV .non H Q from k) (e1.trans e2)
    · have nd : es.Nodup := by simpa using hb
      unfold EM.orderBy at k
      rw [if_pos nd] at k
      -- lists = [orders[elder] for elder in elders]
      have hval : ∀ e ∈ es, valV kvs (Sum.inr e) = some ((valV kvs (Sum.inr e)).getD .non) := fun e he => by
        obtain ⟨v, h1, _⟩ := hv e he
        rw [h1]
        rfl
      have hg : given (es.map V.str).length (fun _ => true) (fun i => (valV kvs (Sum.inr (es.getD i Str.empty))).getD .non) = es.map fun e => (valV kvs (Sum.inr e)).getD .non := by
        rw [List.length_map]
        exact given_map es Str.empty fun e => (valV kvs (Sum.inr e)).getD .non
      refine q_asgL (xs := es.map fun e => (valV kvs (Sum.inr e)).getD .non) ?_ fun L H2 nL e2 atL => ?_
      · rw [← hg]
        refine el_lcL (K := K) _ _ (ev_var rfl) (sq_of (e1 _ _ hE)) (by rw [List.length_map]; omega) (fun x => rfl) (fun j x H3 e3 hj => ?_) (fun j x H3 e3 hj _ => ?_)
        · exact fun H4 _ Q q => q H4 (Ex.refl H4)
        · rw [List.getElem?_map] at hj
          cases hr : es[j]? with
          | none => rw [hr] at hj; cases hj
          | some e =>
            rw [hr] at hj
            cases hj
            rw [getD_of hr]
            exact ev_dget (k := Sum.inr e) (ev_var rfl) (ev_var rfl) (ex_rd (e1.trans e3) hd) (hval e (List.mem_of_getElem? hr))
      have hvals : ∀ H3, Ex H2 H3 → ∀ (i : Nat) v r, (es.map fun e => (valV kvs (Sum.inr e)).getD .non)[i]? = some v → (es.map f)[i]? = some r → ValO K H3 v r := fun H3 e3 i v r h1 h2 => by
        rw [List.getElem?_map] at h1 h2
        cases he : es[i]? with
        | none => rw [he] at h1; cases h1
        | some e =>
          rw [he] at h1 h2
          cases h1
          cases h2
          obtain ⟨v, a, b⟩ := hv e (List.mem_of_getElem? he)
          show ValO K H3 ((valV kvs (Sum.inr e)).getD .non) (f e)
          rw [a]
          exact b.mono (e1.trans (e2.trans e3))
      have hdp : ∀ H3, Ex H2 H3 → Dp K H3 .non .none ∧ Dp K H3 (.ref L) (.list ((es.map f).map dO)) := fun H3 e3 => ⟨.non, .lst (sq_of (e3 _ _ atL)) (dp_Os (by simp) (hvals H3 e3))⟩
      have hsh : SeqAt.shaped (.list ((es.map f).map dO)) = true := shaped_dOs fun r hr => by
        obtain ⟨e, he, rfl⟩ := List.mem_map.mp hr
        exact (ho e he).1
      refine q_when (b := (es.map f).any (·.isNone)) (et_test (ev_is (ev_op ev_c (ev_var rfl) (rv_inD (K := K) (hdp H2 (Ex.refl H2)).1 (hdp H2 (Ex.refl H2)).2 shaped_none hsh hdp)) (by rw [any_none]))) (fun hb H3 e3 => ?_) (fun hb H3 e3 => ?_)
      · rw [mapM_none hb] at k
        exact s_ret ev_c fun H4 e4 => RetV.go (show RetV .non H Q from k) (e1.trans (e2.trans (e3.trans e4)))
      · obtain ⟨ls, hls⟩ := mapM_all hb
        have hlen : ls.length = es.length := (EM.mapM_some hls).1
        rw [hls] at k
        simp only [Option.bind_some] at k
        have e13 := e1.trans (e2.trans e3)
        -- behind = merged(lists + [elders])
        refine el_cat (σ := [some (V.str t), some (V.ref el), some (V.ref d), some (V.ref L), none, none]) (ev_var (i := 3) rfl) (e3 _ _ atL) (el_lst (ea_cons (ev_var (i := 1) rfl) ea_nil) (by simp)) (by simp; omega) H3 (Ex.refl H3) _ fun p H4 np e4 atp => ?_
        have htot : EM.tot (ls ++ [es]) ≤ 10000 := by
          have h1 : EM.tot (ls ++ [es]) ≤ 100 * (ls ++ [es]).length := tot_le fun l hl => by
            rcases List.mem_append.mp hl with q | q
            · obtain ⟨e, he, hf⟩ := (EM.mapM_some hls).2 l q
              exact (ho e he).2 l hf
            · simp at q
              subst q
              omega
          have h2 : (ls ++ [es]).length ≤ 51 := by simp; omega
          omega
        refine ⟨p, _, ls ++ [es], rfl, sq_of atp, ⟨by simp [hlen], fun i l hl => ?_⟩, by simp; omega, ?_, ?_⟩
        · by_cases hi : i < ls.length
          · rw [List.getElem?_append_left hi] at hl
            obtain ⟨e, he, hfe⟩ := mapM_get hls i l hl
            obtain ⟨v, h1, h2⟩ := hv e (List.mem_of_getElem? he)
            rw [hfe] at h2
            obtain ⟨q, rfl, hq⟩ := h2
            refine ⟨q, ?_, ex_l (e13.trans e4) hq⟩
            rw [List.getElem?_append_left (by simp; omega), List.getElem?_map, he]
            show some ((valV kvs (Sum.inr e)).getD .non) = _
            rw [h1]
            rfl
          · have hil : i = ls.length := by
              have := (List.getElem?_eq_some_iff.mp hl).1
              simp at this
              omega
            subst hil
            rw [List.getElem?_append_right (Nat.le_refl _), Nat.sub_self] at hl
            cases hl
            refine ⟨el, ?_, sq_of ((e13.trans e4) _ _ hE)⟩
            rw [List.getElem?_append_right (by simp; omega)]
            simp [hlen]
        · exact htot
        · cases hm : EM.merge (ls ++ [es]) with
          | none =>
            rw [hm] at k
            intro H5 e5
            show tSeq _ _ _ _ _
            refine q_when (b := true) (et_test (ev_op (ev_var rfl) ev_c (rv_isN (x := .non)))) (fun _ H6 e6 => ?_) (fun q => nomatch q)
            exact s_ret ev_c fun H7 e7 => RetV.go (show RetV .non H Q from k) (e13.trans (e4.trans (e5.trans (e6.trans e7))))
          | some b =>
            rw [hm] at k
            intro B H5 nB e5 atB
            show tSeq _ _ _ _ _
            refine q_when (b := false) (et_test (ev_op (ev_var rfl) ev_c (rv_isN (x := .ref B)))) (fun q => nomatch q) (fun _ H6 e6 => ?_)
            have e16 := e13.trans (e4.trans (e5.trans e6))
            refine s_retL (xs := (t :: b).map V.str) (el_cat1 (xs := [.str t]) (el_lst (ea_cons (ev_var rfl) ea_nil) (by simp)) (ev_var rfl) (e6 _ _ atB) ?_) fun p' H7 np' e7 at7 => ?_
            · have hb : b.length ≤ 10000 := Nat.le_trans (EM.merge_len _ _ _ (Nat.le_refl _) hm) htot
              simp
              omega
            · exact RetL.go (show RetL ((t :: b).map V.str) H Q from k) e16 np' e7 at7
end
end K

set_option Elab.async false
set_option linter.all false
set_option maxRecDepth 100000
namespace K
open PySem L2 Evl EX
/-- a dict of elders: what it tells of each title of U -/
structure Eld (K : PySem.W.Frag) (H : Hp) (kvs : List (Key × V)) (E : Str → List Str) (U : List Str) : Prop where
  at_ : ∀ x ∈ U, ∃ p, valV kvs (Sum.inr x) = some (.ref p) ∧ H p = some (.lst ((E x).map V.str))
  sub : ∀ x ∈ U, ∀ e ∈ E x, e ∈ U
theorem Eld.mono {K : PySem.W.Frag} {H H' : Hp} {kvs : List (Key × V)} {E : Str → List Str} {U : List Str} (h : Eld K H kvs E U) (e : Ex H H') : Eld K H' kvs E U :=
  ⟨fun x hx => let ⟨p, a, b⟩ := h.at_ x hx; ⟨p, a, e _ _ b⟩, h.sub⟩
/-- what is known so far: the dict at od -/
structure Known (H0 H : Hp) (wa : Addr) (okvs : List (Key × V)) (ks : List Str) (f : Str → Option (List Str)) : Prop where
  keys : okvs.map (·.1) = ks.map Sum.inr
  nd : ks.Nodup
  vals : ∀ x ∈ ks, ∃ v, valV okvs (Sum.inr x) = some v ∧ match f x with
    | none => v = .non
    | some l => ∃ p, v = .ref p ∧ p ≠ wa ∧ H0 p = none ∧ H p = some (.lst (l.map V.str))
theorem valV_keys {okvs : List (Key × V)} {ks : List Str} (h : okvs.map (·.1) = ks.map Sum.inr) (x : Str) : (valV okvs (Sum.inr x)).isSome = decide (x ∈ ks) := by
  cases hv : valV okvs (Sum.inr x : Key) with
  | none =>
    have := valV_not hv
    rw [h] at this
    have hx : x ∉ ks := fun q => this (List.mem_map.mpr ⟨x, q, rfl⟩)
    simp [hx]
  | some v =>
    have := valV_in hv
    rw [h] at this
    obtain ⟨y, hy, e⟩ := List.mem_map.mp this
    cases e
    simp [hy]
theorem keys_put {okvs : List (Key × V)} {ks : List Str} (h : okvs.map (·.1) = ks.map Sum.inr) (x : Str) (v : V) : (putK okvs (Sum.inr x) v).map (·.1) = (EM.addK ks x).map Sum.inr := by
  have hs := valV_keys h x
  by_cases hx : x ∈ ks
  · have : (okvs.any fun kv => decide (kv.1 = (Sum.inr x : Key))) = true := by rw [valV_any, hs]; simp [hx]
    unfold putK EM.addK
    rw [if_pos this, if_pos hx, ← h, List.map_map]
    apply List.map_congr_left
    intro kv _
    show (if kv.1 = (Sum.inr x : Key) then (kv.1, v) else kv).1 = kv.1
    split <;> rfl
  · have : valV okvs (Sum.inr x : Key) = none := by
      cases hv : valV okvs (Sum.inr x : Key) with
      | none => rfl
      | some v' => rw [hv] at hs; simp [hx] at hs
    unfold EM.addK
    rw [putK_new v this, if_neg hx, List.map_append, List.map_append, h]
    rfl
theorem addK_nd {ks : List Str} {x : Str} (h : ks.Nodup) : (EM.addK ks x).Nodup := by
  unfold EM.addK
  split
  · exact h
  · rename_i hx
    exact nodup_snoc h hx
section
variable {P : Program} {w : World} {K : PySem.W.Frag} {mg : Str → Option Value} {base : Heap}
def spOrderOf (K : PySem.W.Frag) : Sp := fun vs H Q _ => ∃ (d : Addr) (t : Str) (kvs : List (Key × V)) (E : Str → List Str) (U : List Str) (r : Str → Nat), vs = [.ref d, .str t] ∧ Rd H d (.dK kvs) ∧ Eld K H kvs E U ∧ t ∈ U ∧ U.length ≤ 100 ∧ Oks U ∧
  (∀ x, (E x).length ≤ 50) ∧ (∀ x, ∀ e ∈ E x, r e < r x) ∧ r t ≤ 100 ∧ RetO (EM.O E r t) H Q
theorem ok_order_of {f : Addr} {fd : FuncData} (F : Fun K "order_of" "order_of" s_order_of f fd) (T : Txt mg) (G_order_by : Def P w K mg base 3 "order_by" ["title", "elders", "orders"] (spOrderBy K)) : FnOk P w K mg base CX0 4 f fd ["elders", "title"] (spOrderOf K) := by
  refine F.ok sc_order_of (fun vs H Q E h => ?_) (fun cdv A outer s H vs Q E hr h => ?_)
  · obtain ⟨d, t, kvs, E, U, r, rfl, _⟩ := h
    rfl
  · obtain ⟨d, t, kvs, El, U, rk, rfl, hd, hE, htU, hUl, hOk, hEl, hrk, hrt, k⟩ := h
    have hu := hu_of hr
    refine ⟨_, pss_cons (ps_set (i := 2) sc_order_of.nd rfl (Or.inr rfl) (pe_dnewK))
      (pss_cons (ps_set (i := 3) sc_order_of.nd rfl (Or.inl rfl) (pe_lst (pa_cons (pv 1) pa_nil)))
      (pss_cons (ps_while PassesOwn.never (pt_cmpR op_gt (pe_callB (clLen (K := K)) (by rfl) T.len (by decide +kernel) (pa_cons (pv 3) pa_nil)) (pe_int) (nomark _))
        (pss_cons (ps_set (i := 4) sc_order_of.nd rfl (Or.inl rfl) (pe_ix (ixL (K := K)) (pv 3) (pe_un un_neg (pe_int)) (fun _ _ => rfl)))
        (pss_cons (ps_setLc (i := 5) (own := [("elder", 6)]) (g := gName 6) rfl sc_order_of.nd rfl rfl (sw_true rfl rfl rfl (by decide +kernel)) (piL (K := K) (pe_dget hu (pv 0) (pv 4) (fun _ _ => rfl))) (blkOk_by (N := N_order_of) (sc := defScope s_order_of) (by decide +kernel)) (fun _ _ _ _ _ => pg_name (i := 6) sc_order_of.nd rfl (Or.inl rfl)) (fun _ _ _ _ _ => pts_one (pt_cmp (pc_dnotin hu (pv 6) (pv 2)) (by rfl))) (fun _ _ _ _ _ => pv 6))
        (pss_one (ps_if (pt_cmpR op_gt (pe_callB (clLen (K := K)) (by rfl) T.len (by decide +kernel) (pa_cons (pv 5) pa_nil)) (pe_int) (nomark _))
          (pss_one (ps_expr (peBm (K := K) PySem.F.plainAttrs_list PySem.F.slot_list_extend PySem.F.type_list_extend mt_extend (pv 3) (pa_cons (pv 5) pa_nil))))
          (pss_cons (ps_expr (pe_bm0 PySem.F.plainAttrs_list PySem.F.slot_list_pop PySem.F.type_list_pop mt_pop (pv 3)))
          (pss_one (ps_dput hu (pv 2) (pv 4) (pe_def G_order_by (hr.mono (by decide)) (by rfl) (pa_cons (pv 4) (pa_cons (pe_dget hu (pv 0) (pv 4) (fun _ _ => rfl)) (pa_cons (pv 2) pa_nil)))) rfl))))))))
      (pss_one (ps_ret (pe_dget hu (pv 2) (pv 1) (fun _ _ => rfl)))))), ?_⟩
    have hOO : ∀ x ∈ U, OksO (EM.O El rk x) ∧ ∀ l, EM.O El rk x = some l → l.length ≤ 100 := fun x hx => ⟨fun l hl y hy => hOk y ((EM.O_has hrk hE.sub _ x (Nat.le_refl _) hx l hl).2 y hy).1, fun l hl => Nat.le_trans (EM.O_len hrk hE.sub hx hl) hUl⟩
    -- orders = {}
    refine fun od nod => ?_
    have exo : Ex H (upd H od (.dK [])) := Ex.new nod
    refine q_asgL (el_lst (ea_cons (ev_var rfl) ea_nil) (by simp)) fun wa H2 nw e2 atw => ?_
    have nwa : H wa = none := fresh_back exo nw
    have how : od ≠ wa := fun z => by rw [← z, upd_same] at nw; cases nw
    obtain ⟨m0, hm0⟩ := EM.runs_all (E := El) (r := rk) (L := 50) hrk hEl t
    refine q_while (fun m σ H' => ∃ (wt ks : List Str) (okvs : List (Key × V)) (v4 v5 v6 : Option V), σ = [some (.ref d), some (.str t), some (.ref od), some (.ref wa), v4, v5, v6] ∧ Ex H H' ∧ H' wa = some (.lst (wt.map V.str)) ∧ H' od = some (.dK okvs) ∧
      Known H H' wa okvs ks (EM.O El rk) ∧ (∀ x ∈ wt, x ∈ U) ∧ (∀ x ∈ ks, x ∈ U) ∧ EM.Runs El (1 + 50 * rk t) (fun ks => t ∈ ks) m wt ks) m0 ?_ ?_
    · exact ⟨[t], [], [], _, _, _, rfl, exo.trans e2, atw, e2 _ _ upd_same, ⟨rfl, List.nodup_nil, fun x hx => nomatch hx⟩, fun x hx => by simp at hx; subst hx; exact htU, fun x hx => (nomatch hx), hm0⟩
    · clear hm0 m0 atw e2 nw exo H2
      rintro m σ H' ⟨wt, ks, okvs, v4, v5, v6, rfl, e, atw, ato, hK, hwU, hkU, hR⟩
      refine ⟨!wt.isEmpty, et_test (ev_is (ev_op (ev_len (K := K) (ev_var rfl) (sq_of atw)) ev_c rv_I0) ?_), fun hb H1 e1 => ⟨_, fun σ2 H2 h => h, ?_⟩, fun hb H1 e1 => ?_⟩
      · cases wt <;> simp
      · have hsz : okvs.length ≤ 100 := by
          have h1 : okvs.length = ks.length := by
            have := congrArg List.length hK.keys
            simpa using this
          have h2 := EM.nodup_len hK.nd hkU
          omega
        have keep : ∀ (H5 : Hp) (o : HO), Ex H' H5 → Known H (upd H5 wa o) wa okvs ks (EM.O El rk) := fun H5 o e5 => ⟨hK.keys, hK.nd, fun y hy => by
          obtain ⟨v, h1, h2⟩ := hK.vals y hy
          refine ⟨v, h1, ?_⟩
          cases hO : EM.O El rk y with
          | none =>
            rw [hO] at h2
            exact h2
          | some l =>
            rw [hO] at h2
            obtain ⟨p, rfl, hp, hn, hq⟩ := h2
            exact ⟨p, rfl, hp, hn, by rw [upd_ne hp]; exact e5 _ _ hq⟩⟩
        -- both ways begin alike
        have start : ∀ (w : List Str) (x : Str) (D : Ends) (tz : TS), wt = w ++ [x] → (∀ p H3, Ex H1 H3 → H3 p = some (.lst ((EM.lack El ks x).map V.str)) → tz D [some (.ref d), some (.str t), some (.ref od), some (.ref wa), some (.str x), some (.ref p), v6] H3) →
            tSeq (tAsg (tOp (rIxL K) (tVar 3) (tUn (rU fun i => .int (-i)) (tC (.int 1)))) (gName 4)) (tSeq (tAsg (tLc (iList K (tDGet (tVar 0) (tVar 4))) (gName 6) (tB (tDNotIn (tVar 6) (tVar 2))) (tVar 6) [6]) (gName 5)) tz) D [some (.ref d), some (.str t), some (.ref od), some (.ref wa), v4, v5, v6] H1 := by
          rintro w x D tz rfl kk
          have hxU : x ∈ U := hwU x (by simp)
          refine q_asg (v := .str x) (ev_op (ev_var rfl) (ev_un ev_c ru_neg) (rv_ixL (K := K) (sq_of (e1 _ _ atw)) (by rw [List.map_append]; exact atI_last _ _))) fun H2 e2 => ?_
          obtain ⟨q, hq1, hq2⟩ := (hE.mono (e.trans (e1.trans e2))).at_ x hxU
          have hg : given ((El x).map V.str).length (fun i => !decide ((El x).getD i Str.empty ∈ ks)) (fun i => V.str ((El x).getD i Str.empty)) = (EM.lack El ks x).map V.str := by
            rw [List.length_map]
            exact given_filter (El x) Str.empty (fun e => !decide (e ∈ ks)) V.str
          refine q_asgL (xs := (EM.lack El ks x).map V.str) ?_ fun p H3 np e3 at3 => kk p H3 (e2.trans e3) at3
          rw [← hg]
          have hlen := hEl x
          refine el_lcL (K := K) _ _ (ev_dget (k := Sum.inr x) (ev_var rfl) (ev_var rfl) (ex_rd (e.trans (e1.trans e2)) hd) hq1) (sq_of hq2) (by rw [List.length_map]; omega) (fun x => rfl) (fun j y H4 e4 hj => ?_) (fun j y H4 e4 hj _ => ?_)
          · rw [List.getElem?_map] at hj
            cases hr : (El x)[j]? with
            | none => rw [hr] at hj; cases hj
            | some y =>
              rw [hr] at hj
              cases hj
              rw [getD_of hr, ← valV_keys hK.keys]
              exact et_B (ev_dnin (k := Sum.inr y) (ev_var rfl) (ev_var rfl) (.inl ((e1.trans (e2.trans e4)) _ _ ato)))
          · rw [List.getElem?_map] at hj
            cases hr : (El x)[j]? with
            | none => rw [hr] at hj; cases hj
            | some y =>
              rw [hr] at hj
              cases hj
              rw [getD_of hr]
              exact ev_var rfl
        cases hR with
        | done h => cases hb
        | @push m w x ks hB hl h =>
          refine start w x _ _ rfl fun p H3 e3 at3 => ?_
          have e03 := e1.trans e3
          have hbt : 0 < (EM.lack El ks x).length := List.length_pos_iff.mpr hl
          have hll : (EM.lack El ks x).length ≤ 50 := Nat.le_trans (List.length_filter_le _ _) (hEl x)
          refine s_if (b := true) (et_test (ev_is (ev_op (ev_len (K := K) (ev_var rfl) (sq_of at3)) ev_c rv_I0) ?_)) (fun _ H4 e4 => ?_) (fun q => nomatch q)
          · rw [List.length_map]
            simp
            omega
          · refine s_ext (K := K) ((e03.trans e4) _ _ atw) (e4 _ _ at3) (ev_var rfl) (ev_var rfl) (by rw [List.length_map, List.length_map]; omega) fun H5 e5 => ?_
            have e05 := e03.trans (e4.trans e5)
            refine ⟨m, Nat.lt_succ_self _, w ++ [x] ++ EM.lack El ks x, ks, okvs, _, _, _, rfl, Ex.mut (e.trans e05) nwa, ?_, ?_, keep H5 _ e05, ?_, hkU, h⟩
            · rw [upd_same, List.map_append (l₁ := w ++ [x])]
            · rw [upd_ne how]
              exact e05 _ _ ato
            · intro y hy
              rcases List.mem_append.mp hy with q | q
              · exact hwU y q
              · exact hE.sub x (hwU x (by simp)) y (List.mem_filter.mp q).1
        | @pop m w x ks hB hl h =>
          refine start w x _ _ rfl fun p H3 e3 at3 => ?_
          have e03 := e1.trans e3
          have hxU : x ∈ U := hwU x (by simp)
          rw [hl] at at3
          refine s_if (b := false) (et_test (ev_is (ev_op (ev_len (K := K) (ev_var rfl) (sq_of at3)) ev_c rv_I0) ?_)) (fun q => nomatch q) (fun _ H4 e4 => ?_)
          · rfl
          · have atw4 := (e03.trans e4) _ _ atw
            rw [List.map_append] at atw4
            refine q_pop (K := K) atw4 (ev_var rfl) fun H5 e5 => ?_
            have e05 := e03.trans (e4.trans e5)
            have ex6 : Ex H (upd H5 wa (.lst (w.map V.str))) := Ex.mut (e.trans e05) nwa
            have ato6 : upd H5 wa (.lst (w.map V.str)) od = some (.dK okvs) := by rw [upd_ne how]; exact e05 _ _ ato
            have hK6 := keep H5 (.lst (w.map V.str)) e05
            have atw6 : upd H5 wa (.lst (w.map V.str)) wa = some (.lst (w.map V.str)) := upd_same
            generalize upd H5 wa (.lst (w.map V.str)) = H6 at ex6 ato6 hK6 atw6
            obtain ⟨q, hq1, hq2⟩ := (hE.mono ex6).at_ x hxU
            -- orders[here] = order_by(here, elders[here], orders)
            refine s_dputG (d := od) (k := Sum.inr x) (fun v H8 => Ex H6 H8 ∧ match EM.O El rk x with
                | none => v = .non
                | some l => ∃ p, v = .ref p ∧ H6 p = none ∧ H8 p = some (.lst (l.map V.str))) (fun Q' q' => ?_) fun v H8 hG => ?_
            · refine ea_cons (ev_var rfl) (ea_cons (ev_dget (k := Sum.inr x) (ev_var rfl) (ev_var rfl) (ex_rd ex6 hd) hq1) (ea_cons (ev_var rfl) ea_nil)) H6 (Ex.refl H6) _ fun H7 e7 => ?_
              have hEk := EM.lack_nil hl
              refine ⟨x, q, od, El x, okvs, EM.O El rk, rfl, e7 _ _ hq2, .inl (e7 _ _ ato6), hEl x, fun y hy => ?_, fun y hy => hOO y (hE.sub x hxU y hy), ?_⟩
              · obtain ⟨v, h1, h2⟩ := hK6.vals y (hEk y hy)
                refine ⟨v, h1, ?_⟩
                cases hO : EM.O El rk y with
                | none => rw [hO] at h2; exact h2
                | some l =>
                  rw [hO] at h2
                  obtain ⟨p', rfl, _, _, hq'⟩ := h2
                  exact ⟨p', rfl, sq_of (e7 _ _ hq')⟩
              · rw [← EM.O_eq hrk x]
                cases hO : EM.O El rk x with
                | none => exact fun H8 e8 => q' _ _ ⟨e7.trans e8, by rw [hO]⟩
                | some l => exact fun p' H8 np e8 h8 => q' _ _ ⟨e7.trans e8, by rw [hO]; exact ⟨p', rfl, fresh_back e7 np, h8⟩⟩
            · obtain ⟨e8, hv⟩ := hG
              refine ⟨okvs, e8 _ _ ato6, by omega, ev_var rfl, ev_var rfl, fun H9 e9 => ?_⟩
              have e69 := e8.trans e9
              refine ⟨m, Nat.lt_succ_self _, w, EM.addK ks x, _, _, _, _, rfl, Ex.mut (ex6.trans e69) nod, ?_, upd_same, ⟨keys_put hK6.keys x v, addK_nd hK6.nd, fun y hy => ?_⟩, fun y hy => hwU y (by simp [hy]), fun y hy => ?_, h⟩
              · rw [upd_ne (Ne.symm how)]
                exact e69 _ _ atw6
              · rw [valV_put]
                by_cases hyx : y = x
                · subst hyx
                  refine ⟨v, by rw [if_pos rfl], ?_⟩
                  cases hO : EM.O El rk y with
                  | none => rw [hO] at hv; exact hv
                  | some l =>
                    rw [hO] at hv
                    obtain ⟨p', rfl, np, h8⟩ := hv
                    refine ⟨p', rfl, fun z => ?_, fresh_back ex6 np, ?_⟩
                    · rw [z, atw6] at np
                      cases np
                    · have : p' ≠ od := fun z => by
                        rw [z, ato6] at np
                        cases np
                      rw [upd_ne this]
                      exact e9 _ _ h8
                · rw [if_neg (fun z => hyx (Sum.inr.inj z))]
                  have hyk : y ∈ ks := (EM.mem_addK.mp hy).resolve_right hyx
                  obtain ⟨v', h1, h2⟩ := hK6.vals y hyk
                  refine ⟨v', h1, ?_⟩
                  cases hO : EM.O El rk y with
                  | none => rw [hO] at h2; exact h2
                  | some l =>
                    rw [hO] at h2
                    obtain ⟨p', rfl, np, nh, h8⟩ := h2
                    refine ⟨p', rfl, np, nh, ?_⟩
                    have : p' ≠ od := ne_of h8 ato6 (by intro z; cases z)
                    rw [upd_ne this]
                    exact e69 _ _ h8
              · rcases EM.mem_addK.mp hy with z | z
                · exact hkU y z
                · subst z
                  exact hxU
      · -- return orders[title]
        have hwt : wt = [] := by
          cases wt with
          | nil => rfl
          | cons _ _ => cases hb
        subst hwt
        have htk : t ∈ ks := by
          generalize hw : ([] : List Str) = w0 at hR
          cases hR with
          | done h => exact h
          | push _ _ _ => simp at hw
          | pop _ _ _ => simp at hw
        obtain ⟨v, h1, h2⟩ := hK.vals t htk
        refine s_ret (ev_dget (k := Sum.inr t) (ev_var rfl) (ev_var rfl) (.inl (e1 _ _ ato)) h1) fun H2 e2 => ?_
        cases hO : EM.O El rk t with
        | none =>
          rw [hO] at h2 k
          rw [h2]
          exact RetV.go (show RetV .non H Q from k) (e.trans (e1.trans e2))
        | some l =>
          rw [hO] at h2 k
          obtain ⟨p, rfl, hp, hn, hq⟩ := h2
          exact (show RetL (l.map V.str) H Q from k) p H2 hn (e.trans (e1.trans e2)) ((e1.trans e2) _ _ hq)
end
end K

set_option Elab.async false
set_option linter.all false
set_option maxRecDepth 100000
namespace K
open PySem L2 Evl EX
section
variable {P : Program} {w : World} {K : PySem.W.Frag} {mg : Str → Option Value} {base : Heap}
def spMixed : Sp := fun vs H Q _ => ∃ (n k : Int), vs = [.int n, .int k] ∧ ∀ r : Int, 0 ≤ r → r < 2147483629 → RetV (.int r) H Q
theorem ok_mixed {f : Addr} {fd : FuncData} (F : Fun K "_law_mixed" "_law_mixed" s__law_mixed f fd) : FnOk P w K mg base CX0 1 f fd ["_law_number", "_law_k"] spMixed := by
  refine F.ok sc__law_mixed (fun vs H Q E h => ?_) (fun cdv A outer s H vs Q E hr h => ?_)
  · obtain ⟨n, k, rfl, _⟩ := h
    rfl
  · obtain ⟨n, k, rfl, q⟩ := h
    refine ⟨_, pss_cons (ps_set (i := 2) sc__law_mixed.nd rfl (Or.inl rfl) (pe_op op_mod (pe_op op_mul (pe_op op_add (pe_op op_add (pe_op op_mod (pv 0) (pe_int)) (pe_op op_mul (pe_int) (pv 1))) (pe_int)) (pe_int)) (pe_int)))
      (pss_cons (ps_set (i := 3) sc__law_mixed.nd rfl (Or.inl rfl) (pe_op op_mod (pe_op op_mul (pv 2) (pe_op op_add (pe_op op_add (pe_op op_mod (pv 2) (pe_int)) (pv 1)) (pe_int))) (pe_int)))
      (pss_one (ps_ret (pe_op op_mod (pe_op op_add (pe_op op_mul (pv 3) (pe_int)) (pv 2)) (pe_int))))), ?_⟩
    refine q_asg (ev_op (ev_op (ev_op (ev_op (ev_op (ev_var rfl) ev_c (rv_I (by decide))) (ev_op ev_c (ev_var rfl) (rv_I (.inl (by decide)))) rv_I0) ev_c rv_I0) ev_c (rv_I (.inr (by decide)))) ev_c (rv_I (by decide))) fun H1 e1 => ?_
    generalize ho : ((n % 1000000007 + 7 * k + 1) * 48271) % 2147483647 = once
    have h0 : 0 ≤ once := by rw [← ho]; exact Int.emod_nonneg _ (by decide)
    have h1 : once < 2147483647 := by rw [← ho]; exact Int.emod_lt_of_pos _ (by decide)
    refine q_asg (ev_op (ev_op (ev_var rfl) (ev_op (ev_op (ev_op (ev_var rfl) ev_c (rv_I (by decide))) (ev_var rfl) rv_I0) ev_c rv_I0) (rv_I (.inl ⟨by omega, by omega⟩))) ev_c (rv_I (by decide))) fun H2 e2 => ?_
    refine s_ret (ev_op (ev_op (ev_op (ev_var rfl) ev_c (rv_I (.inr (by decide)))) (ev_var rfl) rv_I0) ev_c (rv_I (by decide))) fun H3 e3 => ?_
    exact q _ (Int.emod_nonneg _ (by decide)) (Int.emod_lt_of_pos _ (by decide)) H3 (e1.trans (e2.trans e3))
def spTap : Sp := fun vs H Q _ => ∃ c : Int, vs = [.int c] ∧ ∀ p H', H p = none → Ex H H' → Tap H' p → Q (.ref p) H'
theorem ok_tap {f : Addr} {fd : FuncData} (F : Fun K "_law_tap" "_law_tap" s__law_tap f fd) (T : Txt mg) : FnOk P w K mg base CX0 1 f fd ["_law_cell"] spTap := by
  refine F.ok sc__law_tap (fun vs H Q E h => ?_) (fun cdv A outer s H vs Q E hr h => ?_)
  · obtain ⟨n, rfl, _⟩ := h
    rfl
  · obtain ⟨c, rfl, q⟩ := h
    refine ⟨_, pss_one (ps_ret (pe_lst (pa_cons (pe_callB call_abs (by rfl) T.abs (by decide +kernel) (pa_cons (pv 0) pa_nil)) (pa_cons (pe_callTy call_int1 (by rfl) T.int (by decide +kernel) (pa_cons (pe_cmpR op_lt (pe_callB call_abs (by rfl) T.abs (by decide +kernel) (pa_cons (pv 0) pa_nil)) (pe_op op_pow (pe_int) (pe_int)) (nomark _)) pa_nil)) (pa_cons (pe_int) (pa_cons (pv 0) pa_nil)))))), ?_⟩
    refine s_retL (xs := [.int (if c < 0 then -c else c), .int (if decide ((if c < 0 then -c else c) < 10 ^ 18) = true then 1 else 0), .int 0, .int c]) (el_lst ?_ (by simp)) fun p H1 np e1 h1 => q p H1 np e1 ⟨_, _, _, _, h1⟩
    refine ea_cons ?_ (ea_cons ?_ (ea_cons ev_c (ea_cons (ev_var rfl) ea_nil)))
    · exact ev_cb (ea_cons (ev_var rfl) ea_nil) fun H1 _ Q q => ⟨c, rfl, q H1 (Ex.refl H1)⟩
    · refine ev_cb (ea_cons (ev_op (x := .int (if c < 0 then -c else c)) (y := .int (10 ^ 18)) (ev_cb (ea_cons (ev_var rfl) ea_nil) fun H1 _ Q q => ⟨c, rfl, q H1 (Ex.refl H1)⟩) (ev_op (x := .int 10) (y := .int 18) ev_c ev_c (rv_I ⟨by decide, by decide, by decide⟩)) rv_I0) ea_nil) fun H1 _ Q q => .inr ⟨_, rfl, q H1 (Ex.refl H1)⟩
theorem ok_draw {f : Addr} {fd : FuncData} (F : Fun K "_law_next" "_law_next" s__law_next f fd) (G__law_mixed : Def P w K mg base 1 "_law_mixed" ["_law_number", "_law_k"] spMixed) : FnOk P w K mg base CX0 2 f fd ["_law_tap_here", "_law_size"] spDraw := by
  refine F.ok sc__law_next (fun vs H Q E h => ?_) (fun cdv A outer s H vs Q E hr h => ?_)
  · obtain ⟨tp, n, rfl, _⟩ := h
    rfl
  · obtain ⟨tp, n, rfl, ⟨a, b, c, d, hT⟩, h0, h1, q⟩ := h
    refine ⟨_, pss_cons (ps_asg (pe_op op_add (pe_ix (ixL (K := K)) (pv 0) (pe_int) (fun _ _ => rfl)) (pe_int)) (pg_sub (pv 0) (pe_int) set_list))
      (pss_cons (ps_if (PW.pt (pw_or (pt_cmpR op_eq (pe_ix (ixL (K := K)) (pv 0) (pe_int) (fun _ _ => rfl)) (pe_int) (nomark _)) (pw_or1 (pt_cmpR op_eq (pe_ix (ixL (K := K)) (pv 0) (pe_int) (fun _ _ => rfl)) (pe_int) (nomark _)))))
        (pss_one (ps_ret (pe_op op_mod (pe_def G__law_mixed (hr.mono (by decide)) (by rfl) (pa_cons (pe_ix (ixL (K := K)) (pv 0) (pe_int) (fun _ _ => rfl)) (pa_cons (pe_op op_add (pe_int) (pe_ix (ixL (K := K)) (pv 0) (pe_int) (fun _ _ => rfl))) pa_nil))) (pv 1))))
        (pss_nil))
      (pss_cons (ps_set (i := 2) sc__law_next.nd rfl (Or.inl rfl) (pe_op op_mod (pe_ix (ixL (K := K)) (pv 0) (pe_int) (fun _ _ => rfl)) (pv 1)))
      (pss_cons (ps_asg (pe_op op_fdiv (pe_ix (ixL (K := K)) (pv 0) (pe_int) (fun _ _ => rfl)) (pv 1)) (pg_sub (pv 0) (pe_int) set_list))
      (pss_one (ps_ret (pv 2)))))), ?_⟩
    refine q_setL (j := 2) hT (ev_op (ev_op (ev_var rfl) ev_c (rv_ixL (K := K) (sq_of hT) (atI_nat (j := 2) rfl))) ev_c rv_I0) (ev_var rfl) ev_c (by simp) fun H1 e1 => ?_
    have hT1 : upd H1 tp (.lst [V.int a, .int b, .int (c + 1), .int d]) tp = some (.lst [V.int a, .int b, .int (c + 1), .int d]) := upd_same
    have ex1 : Ex (hide tp H) (upd H1 tp (.lst [V.int a, .int b, .int (c + 1), .int d])) := Ex.mut (hide_ex.trans e1) hide_at
    show tSeq _ _ _ _ (upd H1 tp (.lst [V.int a, .int b, .int (c + 1), .int d]))
    generalize upd H1 tp (.lst [V.int a, .int b, .int (c + 1), .int d]) = H2 at hT1 ex1
    refine q_when (et_or (et_test (ev_op (ev_op (ev_var rfl) ev_c (rv_ixL (K := K) (sq_of hT1) (atI_nat (j := 1) rfl))) ev_c (rv_eq rfl))) (fun _ => et_test (ev_op (ev_op (ev_var rfl) ev_c (rv_ixL (K := K) (sq_of hT1) (atI_nat (j := 0) rfl))) ev_c (rv_eq rfl)))) (fun _ H3 e3 => ?_) (fun _ H3 e3 => ?_)
    · have hT3 := e3 _ _ hT1
      refine s_retN (P := fun v => ∃ r : Int, v = .int r ∧ 0 ≤ r ∧ r < n) (en_op (P1 := fun v => ∃ r : Int, v = .int r) (en_call (ea_cons (ev_op (ev_var rfl) ev_c (rv_ixL (K := K) (sq_of hT3) (atI_nat (j := 3) rfl))) (ea_cons (ev_op ev_c (ev_op (ev_var rfl) ev_c (rv_ixL (K := K) (sq_of hT3) (atI_nat (j := 2) rfl))) rv_I0) ea_nil)) ?_) (en_ev (ev_var rfl)) ?_) ?_
      · exact fun H4 e4 Q' q' E' => ⟨d, _, rfl, fun r r0 r1 H5 e5 => q' _ H5 e5 ⟨r, rfl⟩⟩
      · rintro x y ⟨r, rfl⟩ rfl
        exact ⟨_, ⟨r % n, rfl, Int.emod_nonneg _ (by omega), Int.emod_lt_of_pos _ h0⟩, rv_I h0⟩
      · rintro v H4 e4 ⟨r, rfl, r0, r1⟩
        exact q _ H4 r0 r1 (ex1.trans (e3.trans e4)) ⟨_, _, _, _, e4 _ _ hT3⟩
    · refine q_asg (ev_op (ev_op (ev_var rfl) ev_c (rv_ixL (K := K) (sq_of (e3 _ _ hT1)) (atI_nat (j := 0) rfl))) (ev_var rfl) (rv_I h0)) fun H4 e4 => ?_
      have hT4 := (e3.trans e4) _ _ hT1
      refine q_setL (j := 0) hT4 (ev_op (ev_op (ev_var rfl) ev_c (rv_ixL (K := K) (sq_of hT4) (atI_nat (j := 0) rfl))) (ev_var rfl) (rv_I ⟨h0, h1⟩)) (ev_var rfl) ev_c (by simp) fun H5 e5 => ?_
      refine s_ret (ev_var rfl) fun H6 e6 => ?_
      refine q _ H6 (Int.emod_nonneg _ (by omega)) (Int.emod_lt_of_pos _ h0) ?_ ⟨a / n, b, c + 1, d, e6 _ _ upd_same⟩
      exact (Ex.mut (ex1.trans (e3.trans (e4.trans e5))) hide_at).trans e6
end
end K

set_option Elab.async false
set_option linter.all false
set_option maxRecDepth 100000
namespace K
open PySem L2 Evl EX
theorem givenL_map {α : Type} (rs : List α) (d : α) (f : α → List V) : givenL rs.length (fun _ => true) (fun i => f (rs.getD i d)) = rs.map f := by
  unfold givenL
  rw [List.filter_eq_self.mpr (fun _ _ => rfl)]
  have := congrArg (List.map f) (range_getD rs d)
  rw [List.map_map] at this
  exact this
theorem zip_ref {qs : List Addr} {ls : List (List Str)} (h : (qs.zip ls).map (·.1) = qs) : ((qs.zip ls).map fun r => ((V.ref r.1, r.2) : VR)).map (·.1) = qs.map V.ref := by
  rw [List.map_map]
  conv => rhs; rw [← h]
  rw [List.map_map]
  rfl
theorem zip_row {qs : List Addr} {ls : List (List Str)} (h : (qs.zip ls).map (·.2) = ls) : ((qs.zip ls).map fun r => ((V.ref r.1, r.2) : VR)).map (·.2) = ls := by
  rw [List.map_map]
  exact h
theorem heads_eq (rs : List VR) : ((rs.filter fun r => !r.2.isEmpty).map fun r => V.str (r.2.headD Str.empty)) = (EM.heads (rs.map (·.2))).map V.str := by
  unfold EM.heads
  induction rs with
  | nil => rfl
  | cons r rs ih =>
    obtain ⟨v, l⟩ := r
    cases l with
    | nil =>
      rw [List.map_cons, List.filterMap_cons]
      exact ih
    | cons a b => simpa using ih
theorem good_head (ls : List (List Str)) : ((EM.heads ls).filter (EM.free ls)).head? = EM.nextT ls := by
  unfold EM.nextT
  rw [List.head?_filter]
theorem live_eq (rs : List VR) : (rs.filter fun r => !r.2.isEmpty).map (·.2) = EM.live (rs.map (·.2)) := by
  unfold EM.live
  rw [List.filter_map]
  rfl
theorem take1 (l : List Str) (t : Str) : decide (l.take 1 = [t]) = decide (l.head? = some t) := by
  cases l <;> simp
/-- any([x in row[1:] for row in rows]) -/
theorem ev_anyIn {K : PySem.W.Frag} {σ : L2.St} {H : Hp} {iR ir : Nat} {te : TE} {R : Addr} {rs : List VR} {x : Str} (hR : SqL K H R (rs.map (·.1))) (hz : rs.length ≤ 1000) (hr : RowsP K H rs) (h1 : σ[iR]? = some (some (.ref R)))
    (hw : ∀ x, wipe ((wipe σ [ir]).set ir (some x)) [ir] = wipe σ [ir]) (hir : ∀ x, ((wipe σ [ir]).set ir (some x))[ir]? = some (some x)) (hx : ∀ y H1, Ex H H1 → Ev te ((wipe σ [ir]).set ir (some y)) H1 (.str x)) :
    Ev (tCB (rAny K) (tCons (tLc (iList K (tVar iR)) (gName ir) tYes (tOp (rIn K false) te (tSl (rSlL K) (tVar ir) (tPart (tC (V.int 1))) tNoPart)) [ir]) tNil)) σ H (.bl (!EM.free (rs.map (·.2)) x)) := by
  have e1 : (!EM.free (rs.map (·.2)) x) = ((rs.map fun o => decide (x ∈ o.2.tail)).any id) := by
    unfold EM.free
    rw [Bool.not_not, List.any_map, List.any_map]
    rfl
  rw [e1]
  refine ev_any ?_
  have e2 : (rs.map fun o => decide (x ∈ o.2.tail)).map V.bl = given (rs.map (·.1)).length (fun _ => true) (fun j => V.bl (decide (x ∈ (rs.getD j (.non, [])).2.tail))) := by
    rw [List.length_map, given_map rs (.non, []) (fun o => V.bl (decide (x ∈ o.2.tail))), List.map_map]
    rfl
  rw [e2]
  refine el_lcL (K := K) (fun _ => true) _ (ev_var h1) hR (by rw [List.length_map]; omega) hw (fun j x H1 e1 hj => ?_) (fun j y H1 e1 hj _ => ?_)
  · exact fun H2 _ Q q => q H2 (Ex.refl H2)
  · rw [List.getElem?_map] at hj
    cases hq : rs[j]? with
    | none => rw [hq] at hj; cases hj
    | some r =>
      rw [hq] at hj
      cases hj
      rw [getD_of hq, ← inV_str x r.2.tail]
      obtain ⟨p, hp, hs⟩ := hr r (mem_getElem hq)
      refine ev_opL (xs := r.2.tail.map V.str) (hx _ H1 e1) ?_ fun q H2 hq2 e2 => rv_isL (sq_of hq2) rfl (flat_str _)
      have := el_sl (K := K) (ev_var (σ := (wipe σ [ir]).set ir (some r.1)) (i := ir) (by rw [hir, hp])) (eo_some (i := 1) ev_c) eo_none (ex_l e1 hs)
      rw [cut1, ← List.map_tail] at this
      exact this
section
variable {P : Program} {w : World} {K : PySem.W.Frag} {mg : Str → Option Value} {base : Heap}
def spWalk (K : PySem.W.Frag) : Sp := fun vs H Q _ => ∃ (t : Str) (el d : Addr) (es : List Str) (kvs : List (Key × V)) (f : Str → Option (List Str)), vs = [.str t, .ref el, .ref d] ∧ H el = some (.lst (es.map V.str)) ∧ Rd H d (.dK kvs) ∧ es.length ≤ 50 ∧ Oks es ∧
  (∀ e ∈ es, ∃ v, valV kvs (Sum.inr e) = some v ∧ ValO K H v (f e)) ∧ (∀ e ∈ es, OksO (f e) ∧ ∀ l, f e = some l → l.length ≤ 100) ∧ RetO (EM.orderBy t es f) H Q
theorem ok_walk {f : Addr} {fd : FuncData} (F : Fun K "_law_walk" "_law_walk" s__law_walk f fd) (T : Txt mg) : FnOk P w K mg base CX0 1 f fd ["_law_title", "_law_elders", "_law_told"] (spWalk K) := by
  refine F.ok sc__law_walk (fun vs H Q E h => ?_) (fun cdv A outer s H vs Q E hr h => ?_)
  · obtain ⟨t, el, d, es, kvs, f, rfl, _⟩ := h
    rfl
  · obtain ⟨t, el, d, es, kvs, f, rfl, hE, hd, hz, hOe, hv, ho, k⟩ := h
    have hu := hu_of hr
    refine ⟨_, pss_cons (ps_set (i := 3) sc__law_walk.nd rfl (Or.inr rfl) (pe_lc (own := [("_law_elder", 7)]) (g := gName 7) (tt := tYes) rfl sc__law_walk.nd (piL (K := K) (pv 1)) (blkOk_by (N := N__law_walk) (sc := defScope s__law_walk) (by decide +kernel)) (fun _ _ _ _ _ => pg_name (i := 7) sc__law_walk.nd rfl (Or.inl rfl)) (fun _ _ _ _ _ => pts_nil) (fun _ _ _ _ _ => pe_dget hu (pv 2) (pv 7) (fun _ _ => rfl))))
      (pss_cons (ps_if (PW.pt (pw_or (pt_cmpR (opInD (K := K) (hu65 hr)) (pe_non) (pv 3) (by rfl)) (pw_or1 (pt_cmpR op_lt (pe_lenSetS (K := K) rfl (by rfl) T.len (by rfl) T.set (pv 1)) (pe_callB (clLen (K := K)) (by rfl) T.len (by decide +kernel) (pa_cons (pv 1) pa_nil)) (nomark _)))))
        (pss_one (ps_ret (pe_non)))
        (pss_nil))
      (pss_cons (ps_set (i := 3) sc__law_walk.nd rfl (Or.inr rfl) (pe_op op_cat (pe_lc (own := [("_law_row", 8)]) (g := gName 8) (tt := tYes) rfl sc__law_walk.nd (piL (K := K) (pv 3)) (blkOk_by (N := N__law_walk) (sc := defScope s__law_walk) (by decide +kernel)) (fun _ _ _ _ _ => pg_name (i := 8) sc__law_walk.nd rfl (Or.inl rfl)) (fun _ _ _ _ _ => pts_nil) (fun _ _ _ _ _ => pe_callTy (clList (K := K)) (by rfl) T.list (by decide +kernel) (pa_cons (pv 8) pa_nil))) (pe_lst (pa_cons (pe_callTy (clList (K := K)) (by rfl) T.list (by decide +kernel) (pa_cons (pv 1) pa_nil)) pa_nil))))
      (pss_cons (ps_set (i := 4) sc__law_walk.nd rfl (Or.inl rfl) (pe_lst (pa_cons (pv 0) pa_nil)))
      (pss_cons (ps_while PassesOwn.never (pt_cmpR (opNeD (K := K) hr.units) (pe_lc (own := [("_law_row", 8)]) (g := gName 8) rfl sc__law_walk.nd (piL (K := K) (pv 3)) (blkOk_by (N := N__law_walk) (sc := defScope s__law_walk) (by decide +kernel)) (fun _ _ _ _ _ => pg_name (i := 8) sc__law_walk.nd rfl (Or.inl rfl)) (fun _ _ _ _ _ => pts_one (pt_cmpR (opNeD (K := K) hr.units) (pv 8) (pe_lst (pa_nil)) (nomark _))) (fun _ _ _ _ _ => pv 8)) (pe_lst (pa_nil)) (nomark _))
        (pss_cons (ps_setLc (i := 5) (own := [("_law_row", 8)]) (g := gName 8) rfl sc__law_walk.nd rfl rfl (sw_true rfl rfl rfl (by decide +kernel)) (piL (K := K) (pv 3)) (blkOk_by (N := N__law_walk) (sc := defScope s__law_walk) (by decide +kernel)) (fun _ _ _ _ _ => pg_name (i := 8) sc__law_walk.nd rfl (Or.inl rfl)) (fun _ _ _ _ _ => pts_one (pt_cmpR (opNeD (K := K) hr.units) (pv 8) (pe_lst (pa_nil)) (nomark _))) (fun _ _ _ _ _ => pe_ix (ixL (K := K)) (pv 8) (pe_int) (fun _ _ => rfl)))
        (pss_cons (ps_set (i := 6) sc__law_walk.nd rfl (Or.inr rfl) (pe_lc (own := [("_law_head", 9)]) (g := gName 9) rfl sc__law_walk.nd (piL (K := K) (pv 5)) (blkOk_by (N := N__law_walk) (sc := defScope s__law_walk) (by decide +kernel)) (fun _ _ _ _ _ => pg_name (i := 9) sc__law_walk.nd rfl (Or.inr rfl)) (fun _ _ _ _ _ => pts_one (pt_not (pt_val (pe_callB (crAny (K := K)) (by rfl) T.any (by decide +kernel) (pa_cons (pe_lc (own := [("_law_row", 8)]) (g := gName 8) (tt := tYes) rfl sc__law_walk.nd (piL (K := K) (pv 3)) (blkOk_by (by rfl)) (fun _ _ _ _ _ => pg_name (i := 8) sc__law_walk.nd rfl (Or.inl rfl)) (fun _ _ _ _ _ => pts_nil) (fun _ _ _ _ _ => pe_cmpR (opIn (K := K)) (pv 9) (pe_slice (slL (K := K)) (pv 8) (po_some (pe_int)) po_none) (by rfl))) pa_nil))))) (fun _ _ _ _ _ => pv 9)))
        (pss_cons (ps_if (pt_cmpR (opEqD (K := K) hr.units) (pv 6) (pe_lst (pa_nil)) (nomark _))
          (pss_one (ps_ret (pe_non)))
          (pss_nil))
        (pss_cons (ps_expr (peBm (K := K) PySem.F.plainAttrs_list PySem.F.slot_list_append PySem.F.type_list_append mt_append (pv 4) (pa_cons (pe_ix (ixL (K := K)) (pv 6) (pe_int) (fun _ _ => rfl)) pa_nil)))
        (pss_one (ps_set (i := 3) sc__law_walk.nd rfl (Or.inr rfl) (pe_lc (own := [("_law_row", 8)]) (g := gName 8) (tt := tYes) rfl sc__law_walk.nd (piL (K := K) (pv 3)) (blkOk_by (N := N__law_walk) (sc := defScope s__law_walk) (by decide +kernel)) (fun _ _ _ _ _ => pg_name (i := 8) sc__law_walk.nd rfl (Or.inl rfl)) (fun _ _ _ _ _ => pts_nil) (fun _ _ _ _ _ => pe_slice (slL (K := K)) (pv 8) (po_some (pe_callTy call_int1 (by rfl) T.int (by decide +kernel) (pa_cons (pe_cmpR (opEqD (K := K) hr.units) (pe_slice (slL (K := K)) (pv 8) po_none (po_some (pe_int))) (pe_slice (slL (K := K)) (pv 6) po_none (po_some (pe_int))) (nomark _)) pa_nil))) po_none)))))))))
      (pss_one (ps_ret (pv 4))))))), ?_⟩
    -- rows = [told[elder] for elder in elders]
    have hval : ∀ e ∈ es, valV kvs (Sum.inr e) = some ((valV kvs (Sum.inr e)).getD .non) := fun e he => by
      obtain ⟨v, h1, _⟩ := hv e he
      rw [h1]
      rfl
    have hg : given (es.map V.str).length (fun _ => true) (fun i => (valV kvs (Sum.inr (es.getD i Str.empty))).getD .non) = es.map fun e => (valV kvs (Sum.inr e)).getD .non := by
      rw [List.length_map]
      exact given_map es Str.empty fun e => (valV kvs (Sum.inr e)).getD .non
    refine q_asgL (xs := es.map fun e => (valV kvs (Sum.inr e)).getD .non) ?_ fun L H2 nL e2 atL => ?_
    · rw [← hg]
      refine el_lcL (K := K) _ _ (ev_var rfl) (sq_of hE) (by rw [List.length_map]; omega) (fun x => rfl) (fun j x H3 e3 hj => ?_) (fun j x H3 e3 hj _ => ?_)
      · exact fun H4 _ Q q => q H4 (Ex.refl H4)
      · rw [List.getElem?_map] at hj
        cases hr : es[j]? with
        | none => rw [hr] at hj; cases hj
        | some e =>
          rw [hr] at hj
          cases hj
          rw [getD_of hr]
          exact ev_dget (k := Sum.inr e) (ev_var rfl) (ev_var rfl) (ex_rd e3 hd) (hval e (List.mem_of_getElem? hr))
    have hvals : ∀ H3, Ex H2 H3 → ∀ (i : Nat) v r, (es.map fun e => (valV kvs (Sum.inr e)).getD .non)[i]? = some v → (es.map f)[i]? = some r → ValO K H3 v r := fun H3 e3 i v r h1 h2 => by
      rw [List.getElem?_map] at h1 h2
      cases he : es[i]? with
      | none => rw [he] at h1; cases h1
      | some e =>
        rw [he] at h1 h2
        cases h1
        cases h2
        obtain ⟨v, a, b⟩ := hv e (List.mem_of_getElem? he)
        show ValO K H3 ((valV kvs (Sum.inr e)).getD .non) (f e)
        rw [a]
        exact b.mono (e2.trans e3)
    have hdp : ∀ H3, Ex H2 H3 → Dp K H3 .non .none ∧ Dp K H3 (.ref L) (.list ((es.map f).map dO)) := fun H3 e3 => ⟨.non, .lst (sq_of (e3 _ _ atL)) (dp_Os (by simp) (hvals H3 e3))⟩
    have hsh : SeqAt.shaped (.list ((es.map f).map dO)) = true := shaped_dOs fun r hr => by
      obtain ⟨e, he, rfl⟩ := List.mem_map.mp hr
      exact (ho e he).1
    refine q_when (b := (es.map f).any (·.isNone) || !decide es.Nodup) (et_or (et_test (ev_is (ev_op ev_c (ev_var rfl) (rv_inD (K := K) (hdp H2 (Ex.refl H2)).1 (hdp H2 (Ex.refl H2)).2 shaped_none hsh hdp)) (by rw [any_none]))) fun _ => et_lenSet (K := K) (ev_var rfl) (sq_of (e2 _ _ hE)) (by omega)) (fun hb H3 e3 => ?_) (fun hb H3 e3 => ?_)
    · have hn : EM.orderBy t es f = none := by
        unfold EM.orderBy
        rcases Bool.or_eq_true_iff.mp hb with q | q
        · rw [mapM_none q]
          split <;> rfl
        · rw [if_neg (by simpa using q)]
      rw [hn] at k
      exact s_ret ev_c fun H4 e4 => RetV.go (show RetV .non H Q from k) (e2.trans (e3.trans e4))
    · obtain ⟨hb1, hb2⟩ := Bool.or_eq_false_iff.mp hb
      have nd : es.Nodup := by simpa using hb2
      obtain ⟨ls, hls⟩ := mapM_all hb1
      have hlen : ls.length = es.length := (EM.mapM_some hls).1
      unfold EM.orderBy at k
      rw [if_pos nd, hls] at k
      simp only [Option.bind_some] at k
      have hlOk : ∀ l ∈ ls, Oks l ∧ l.length ≤ 100 := fun l hl => by
        obtain ⟨e, he, hf⟩ := (EM.mapM_some hls).2 l hl
        exact ⟨(ho e he).1 l hf, (ho e he).2 l hf⟩
      have htot : EM.tot (ls ++ [es]) ≤ 10000 := by
        have h1 : EM.tot (ls ++ [es]) ≤ 100 * (ls ++ [es]).length := tot_le fun l hl => by
          rcases List.mem_append.mp hl with q | q
          · exact (hlOk l q).2
          · simp at q
            subst q
            omega
        have h2 : (ls ++ [es]).length ≤ 51 := by simp; omega
        omega
      -- rows = [list(row) for row in rows] + [list(elders)]
      refine q_raw (op_raw ?_)
      refine lcNew (K := K) (fun _ => true) (fun i => (ls.getD i []).map V.str) (ev_var rfl) (sq_of (e3 _ _ atL)) (by rw [List.length_map]; omega) (fun x => rfl) (fun i x H4 e4 hi => ?_) (fun i x H4 e4 hi _ => ?_) fun R0 qs H4 hN => ?_
      · exact fun H4 _ Q q => q H4 (Ex.refl H4)
      · have hi' : i < ls.length := by
          have := (List.getElem?_eq_some_iff.mp hi).1
          rw [List.length_map] at this
          omega
        obtain ⟨e, he, hfe⟩ := mapM_get hls i ls[i] (List.getElem?_eq_getElem hi')
        have hx := hvals H4 (e3.trans e4) i x (f e) hi (by rw [List.getElem?_map, he]; rfl)
        rw [hfe] at hx
        obtain ⟨p, rfl, hp⟩ := hx
        rw [getD_of (List.getElem?_eq_getElem hi')]
        exact el_list (K := K) (ev_var rfl) hp
      · rw [show givenL (es.map fun e => (valV kvs (Sum.inr e)).getD .non).length (fun _ => true) (fun i => (ls.getD i []).map V.str) = ls.map (fun l => l.map V.str) by
          rw [List.length_map, ← hlen]
          exact givenL_map ls [] (fun l => l.map V.str)] at hN
        obtain ⟨own, z1, z2⟩ := own_of hN
        have atR := hN.at_
        have exR := hN.ex
        have e24 := e2.trans (e3.trans exR)
        -- [list(elders)]
        refine el_list (K := K) (ev_var (σ := [some (V.str t), some (V.ref el), some (V.ref d), some (V.ref L), none, none, none, none, none, none]) (i := 1) rfl) (sq_of (e24 _ _ hE)) H4 (Ex.refl H4) _ fun p5 H5 n5 e5 at5 => ?_
        refine ⟨by simp [sizeLine], fun p6 n6 => ?_⟩
        have e6 : Ex H5 (upd H5 p6 (.lst [V.ref p5])) := Ex.new n6
        have at6 : upd H5 p6 (.lst [V.ref p5]) p6 = some (.lst [V.ref p5]) := upd_same
        show ∃ l b xs zs, _
        generalize upd H5 p6 (.lst [V.ref p5]) = H6 at e6 at6
        refine ⟨R0, p6, _, _, rfl, rfl, (e5.trans e6) _ _ atR, at6, by have := hN.rows.1; simp [sizeLine] at this ⊢; omega, fun R nR => ?_⟩
        have e7 : Ex H6 (upd H6 R (.lst (qs.map V.ref ++ [V.ref p5]))) := Ex.new nR
        have at7 : upd H6 R (.lst (qs.map V.ref ++ [V.ref p5])) R = some (.lst (qs.map V.ref ++ [V.ref p5])) := upd_same
        show tSeq _ _ _ _ _
        generalize upd H6 R (.lst (qs.map V.ref ++ [V.ref p5])) = H7 at e7 at7
        have hq : qs.length = ls.length := by have := hN.rows.1; simpa using this
        have e47 := e5.trans (e6.trans e7)
        obtain ⟨rs, r1, r2, r3, r4⟩ : ∃ rs : List VR, rs.map (·.1) = qs.map V.ref ++ [V.ref p5] ∧ rs.map (·.2) = ls ++ [es] ∧ RowsP K H7 rs ∧ ∀ r ∈ rs, Oks r.2 := by
          refine ⟨(qs.zip ls).map (fun r => (V.ref r.1, r.2)) ++ [(V.ref p5, es)], ?_, ?_, ?_, ?_⟩
          · rw [List.map_append, List.map_map, ← z1, List.map_map, z1]
            rfl
          · rw [List.map_append, List.map_map]
            exact congrArg (· ++ [es]) z2
          · intro r hr
            rcases List.mem_append.mp hr with q | q
            · obtain ⟨x, hx, rfl⟩ := List.mem_map.mp q
              exact ⟨x.1, rfl, sq_of (e47 _ _ (own.at_ x hx))⟩
            · rw [List.mem_singleton] at q
              subst q
              exact ⟨p5, rfl, sq_of ((e6.trans e7) _ _ at5)⟩
          · intro r hr
            have : r.2 ∈ ls ++ [es] := by
              rcases List.mem_append.mp hr with q | q
              · obtain ⟨x, hx, rfl⟩ := List.mem_map.mp q
                exact List.mem_append_left _ (List.of_mem_zip hx).2
              · rw [List.mem_singleton] at q
                subst q
                simp
            rcases List.mem_append.mp this with q | q
            · exact (hlOk _ q).1
            · rw [List.mem_singleton] at q
              rw [q]
              exact hOe
        have e07 := e24.trans e47
        rw [← r1] at at7
        rw [← r2] at htot k
        have hrl : rs.length ≤ 60 := by
          have := congrArg List.length r2
          simp at this
          omega
        generalize hls0 : EM.merge (rs.map (·.2)) = M at k
        clear r1 r2 own z1 z2 atR exR e24 e5 at5 n5 e6 at6 n6 e7 nR e47 hN atL hvals hdp hsh hb hb1 hb2 e3 e2 nL hval hg hls hlen hlOk hq hE hd hv ho
        -- order = [title]
        refine q_asgL (el_lst (ea_cons (ev_var rfl) ea_nil) (by simp)) fun O H8 nO e8 atO => ?_
        have hO : H O = none := fresh_back e07 nO
        refine q_while (fun m σ H' => ∃ (R : Addr) (rs : List VR) (od : List Str) (v5 v6 v7 v8 v9 : Option V), σ = [some (.str t), some (.ref el), some (.ref d), some (.ref R), some (.ref O), v5, v6, v7, v8, v9] ∧ Ex H H' ∧ H' O = some (.lst ((t :: od).map V.str)) ∧
          (hide O H') R = some (.lst (rs.map (·.1))) ∧ RowsP K (hide O H') rs ∧ (∀ r ∈ rs, Oks r.2) ∧ od.length + EM.tot (rs.map (·.2)) ≤ 10000 ∧ rs.length ≤ 60 ∧ m = EM.tot (rs.map (·.2)) ∧ M = (EM.merge (rs.map (·.2))).map (od ++ ·)) (EM.tot (rs.map (·.2))) ?_ ?_
        · have hx : Ex H7 (hide O H8) := ex_hide e8 nO
          refine ⟨R, rs, [], _, _, _, _, _, rfl, e07.trans e8, atO, hx _ _ at7, r3.mono hx, r4, by simpa using htot, hrl, rfl, ?_⟩
          rw [← hls0]
          cases EM.merge (rs.map (·.2)) <;> simp
        · clear atO e8 nO hrl hls0 htot r4 r3 at7 e07
          clear rs R H8 H7 H6 H5 H4 H3 H2
          rintro m σ H' ⟨R, rs, od, v5, v6, v7, v8, v9, rfl, e, atO, atR, hRs, hOk, hB, hrl, rfl, hm⟩
          have hRs' : RowsP K H' rs := hRs.mono hide_ex
          have atR' : H' R = some (.lst (rs.map (·.1))) := hide_ex _ _ atR
          -- the rows that are not empty
          have hgl : given (rs.map (·.1)).length (fun i => !(rs.getD i (.non, [])).2.isEmpty) (fun i => (rs.getD i (.non, [])).1) = (rs.filter fun r => !r.2.isEmpty).map (·.1) := by
            rw [List.length_map]
            exact given_filter rs (.non, []) (fun r => !r.2.isEmpty) (·.1)
          have hrow : ∀ {j : Nat} {x : V} {H1 : Hp}, Ex H' H1 → (rs.map (·.1))[j]? = some x → ∃ p l, x = .ref p ∧ rs.getD j (.non, []) = (.ref p, l) ∧ SqL K H1 p (l.map V.str) ∧ Oks l := by
            intro j x H1 e1 hj
            rw [List.getElem?_map] at hj
            cases hr : rs[j]? with
            | none => rw [hr] at hj; cases hj
            | some r =>
              rw [hr] at hj
              cases hj
              obtain ⟨p, a, b⟩ := hRs' r (mem_getElem hr)
              obtain ⟨x, l⟩ := r
              cases a
              exact ⟨p, l, rfl, getD_of hr, ex_l e1 b, hOk _ (mem_getElem hr)⟩
          refine ⟨!(EM.live (rs.map (·.2))).isEmpty, et_test (ev_is (ev_opLL (xs := (rs.filter fun r => !r.2.isEmpty).map (·.1)) ?_ el_nil fun p q H1 hp hq e1 => rv_neD (K := K) (d := .list ((rs.filter fun r => !r.2.isEmpty).map fun r => dS r.2)) (e := .list []) (fun H2 e2 => ⟨.lst (sq_of (e2 _ _ hp)) (dpAll_rows fun r hr => hRs'.mono (e1.trans e2) r (List.mem_filter.mp hr).1), .lst (sq_of (e2 _ _ hq)) .nil⟩) ?_ shaped_nil) ?_), fun hb H1 e1 => ⟨_, fun σ2 H2 h => h, ?_⟩, fun hb H1 e1 => ?_⟩
          · rw [← hgl]
            refine el_lcL (K := K) _ _ (ev_var rfl) (sq_of atR') (by rw [List.length_map]; omega) (fun x => rfl) (fun j x H2 e2 hj => ?_) (fun j x H2 e2 hj _ => ?_)
            · obtain ⟨p, l, rfl, hg, hs, hk⟩ := hrow e2 hj
              rw [hg]
              exact et_test (ev_neNil (K := K) (ev_var rfl) hs hk)
            · obtain ⟨p, l, rfl, hg, hs, hk⟩ := hrow e2 hj
              rw [hg]
              exact ev_var rfl
          · have := shaped_dSs (rs := (rs.filter fun r => !r.2.isEmpty).map (·.2)) fun l hl => by
              obtain ⟨r, hr, rfl⟩ := List.mem_map.mp hl
              exact hOk r (List.mem_filter.mp hr).1
            rw [List.map_map] at this
            exact this
          · rw [eqv_nil, ← live_eq]
            simp only [List.isEmpty_map]
          · -- heads = [row[0] for row in rows if row != []]
            have hgh : given (rs.map (·.1)).length (fun i => !(rs.getD i (.non, [])).2.isEmpty) (fun i => V.str ((rs.getD i (.non, [])).2.headD Str.empty)) = (EM.heads (rs.map (·.2))).map V.str := by
              rw [List.length_map, ← heads_eq]
              exact given_filter rs (.non, []) (fun r => !r.2.isEmpty) (fun r => V.str (r.2.headD Str.empty))
            refine q_asgL (xs := (EM.heads (rs.map (·.2))).map V.str) ?_ fun hd' H2 nh e2 ath => ?_
            · rw [← hgh]
              refine el_lcL (K := K) _ _ (ev_var rfl) (sq_of (e1 _ _ atR')) (by rw [List.length_map]; omega) (fun x => rfl) (fun j x H3 e3 hj => ?_) (fun j x H3 e3 hj hf => ?_)
              · obtain ⟨p, l, rfl, hg, hs, hk⟩ := hrow (e1.trans e3) hj
                rw [hg]
                exact et_test (ev_neNil (K := K) (ev_var rfl) hs hk)
              · obtain ⟨p, l, rfl, hg, hs, hk⟩ := hrow (e1.trans e3) hj
                rw [hg] at hf ⊢
                cases l with
                | nil => cases hf
                | cons y l => exact ev_op (ev_var rfl) ev_c (rv_ixL (K := K) hs at0)
            have hhl : (EM.heads (rs.map (·.2))).length ≤ 60 := by
              unfold EM.heads
              refine Nat.le_trans (List.length_filterMap_le _ _) ?_
              rw [List.length_map]
              exact hrl
            have hhOk : Oks (EM.heads (rs.map (·.2))) := fun y hy => by
              obtain ⟨l, hl, hh⟩ := EM.mem_heads.mp hy
              obtain ⟨r, hr, rfl⟩ := List.mem_map.mp hl
              exact hOk r hr y (List.mem_of_mem_head? hh)
            have e12 := e1.trans e2
            -- good = [head for head in heads if ..]
            have hgg : given ((EM.heads (rs.map (·.2))).map V.str).length (fun i => EM.free (rs.map (·.2)) ((EM.heads (rs.map (·.2))).getD i Str.empty)) (fun i => V.str ((EM.heads (rs.map (·.2))).getD i Str.empty)) = ((EM.heads (rs.map (·.2))).filter (EM.free (rs.map (·.2)))).map V.str := by
              rw [List.length_map]
              exact given_filter _ Str.empty (EM.free (rs.map (·.2))) V.str
            refine q_asgL (xs := ((EM.heads (rs.map (·.2))).filter (EM.free (rs.map (·.2)))).map V.str) ?_ fun gd H3 ng e3 atg => ?_
            · rw [← hgg]
              refine el_lcL (K := K) _ _ (ev_var rfl) (sq_of ath) (by rw [List.length_map]; omega) (fun x => rfl) (fun j x H4 e4 hj => ?_) (fun j x H4 e4 hj _ => ?_)
              · rw [List.getElem?_map] at hj
                cases hr : (EM.heads (rs.map (·.2)))[j]? with
                | none => rw [hr] at hj; cases hj
                | some y =>
                  rw [hr] at hj
                  cases hj
                  rw [getD_of hr]
                  refine et_is (et_not (et_B (ev_anyIn (K := K) (R := R) (rs := rs) (x := y) (sq_of ((e12.trans e4) _ _ atR')) (by omega) (hRs'.mono (e12.trans e4)) rfl (fun x => rfl) (fun x => rfl) fun y' H5 e5 => ev_var rfl))) (Bool.not_not _)
              · rw [List.getElem?_map] at hj
                cases hr : (EM.heads (rs.map (·.2)))[j]? with
                | none => rw [hr] at hj; cases hj
                | some y =>
                  rw [hr] at hj
                  cases hj
                  rw [getD_of hr]
                  exact ev_var rfl
            have hgh := good_head (rs.map (·.2))
            have hgOk : Oks ((EM.heads (rs.map (·.2))).filter (EM.free (rs.map (·.2)))) := fun y hy => hhOk y (List.mem_filter.mp hy).1
            generalize hgood : (EM.heads (rs.map (·.2))).filter (EM.free (rs.map (·.2))) = good at atg hgh hgOk
            have hlive : EM.live (rs.map (·.2)) ≠ [] := by
              intro z
              rw [z] at hb
              cases hb
            have e13 := e12.trans e3
            refine q_when (et_test (ev_eqNil (K := K) (ev_var rfl) (sq_of atg) hgOk)) (fun hb H4 e4 => ?_) (fun hb H4 e4 => ?_)
            · have hg : good = [] := by simpa using hb
              rw [hg] at hgh
              rw [hm, EM.merge_none hlive hgh.symm] at k
              exact s_ret ev_c fun H5 e5 => RetV.go (show RetV .non H Q from k) (e.trans (e13.trans (e4.trans e5)))
            · cases good with
              | nil => cases hb
              | cons x good =>
                have hn : EM.nextT (rs.map (·.2)) = some x := hgh.symm
                have e14 := e13.trans e4
                have hd := EM.tot_drop_lt x _ (EM.nextT_mem hn)
                -- order.append(good[0])
                refine q_app (K := K) (e14 _ _ atO) (ev_var rfl) (ev_op (ev_var rfl) ev_c (rv_ixL (K := K) (sq_of (e4 _ _ atg)) at0)) (by rw [List.length_map, List.length_cons]; omega) fun H5 e5 => ?_
                have e15 := e14.trans e5
                have nRO : R ≠ O := fun z => by rw [z, hide_at] at atR; cases atR
                have ngO : gd ≠ O := fun z => by rw [z, e12 _ _ atO] at ng; cases ng
                have ex6 : Ex (hide O H') (upd H5 O (.lst ((t :: od).map V.str ++ [V.str x]))) := Ex.mut (hide_ex.trans e15) hide_at
                have exH6 : Ex H (upd H5 O (.lst ((t :: od).map V.str ++ [V.str x]))) := Ex.mut (e.trans e15) hO
                have atO6 : upd H5 O (.lst ((t :: od).map V.str ++ [V.str x])) O = some (.lst ((t :: (od ++ [x])).map V.str)) := by rw [upd_same]; simp
                have atg6 : upd H5 O (.lst ((t :: od).map V.str ++ [V.str x])) gd = some (.lst ((x :: good).map V.str)) := by rw [upd_ne ngO]; exact (e4.trans e5) _ _ atg
                generalize upd H5 O (.lst ((t :: od).map V.str ++ [V.str x])) = H6 at ex6 exH6 atO6 atg6
                -- rows = [row[int(row[:1] == good[:1]):] for row in rows]
                refine s_raw ?_
                refine lcNew (K := K) (fun _ => true) (fun i => (EM.dropH x (rs.getD i (.non, [])).2).map V.str) (ev_var rfl) (sq_of (ex6 _ _ atR)) (by rw [List.length_map]; omega) (fun x => rfl) (fun i x H7 e7 hi => ?_) (fun i y H7 e7 hi _ => ?_) fun R' qs H7 hN => ?_
                · exact fun H4 _ Q q => q H4 (Ex.refl H4)
                · rw [List.getElem?_map] at hi
                  cases hr : rs[i]? with
                  | none => rw [hr] at hi; cases hi
                  | some r =>
                    rw [hr] at hi
                    cases hi
                    rw [getD_of hr]
                    obtain ⟨p, hp, hs⟩ := hRs.mono (ex6.trans e7) r (mem_getElem hr)
                    have hro := hOk r (mem_getElem hr)
                    obtain ⟨y, l⟩ := r
                    cases hp
                    have hx1 : PyData.strOk x = true := hgOk x List.mem_cons_self
                    have hA : EvL (tSl (rSlL K) (tVar 8) tNoPart (tPart (tC (V.int 1)))) [some (V.str t), some (V.ref el), some (V.ref d), some (V.ref R), some (V.ref O), some (V.ref hd'), some (V.ref gd), v7, some (V.ref p), v9] H7 ((l.take 1).map V.str) := by
                      have := el_sl (K := K) (ev_var (σ := [some (V.str t), some (V.ref el), some (V.ref d), some (V.ref R), some (V.ref O), some (V.ref hd'), some (V.ref gd), v7, some (V.ref p), v9]) (i := 8) rfl) eo_none (eo_some (i := ((1 : Nat) : Int)) ev_c) hs
                      rw [cutTake, ← List.map_take] at this
                      exact this
                    have hB' : EvL (tSl (rSlL K) (tVar 6) tNoPart (tPart (tC (V.int 1)))) [some (V.str t), some (V.ref el), some (V.ref d), some (V.ref R), some (V.ref O), some (V.ref hd'), some (V.ref gd), v7, some (V.ref p), v9] H7 ([x].map V.str) := by
                      have := el_sl (K := K) (ev_var (σ := [some (V.str t), some (V.ref el), some (V.ref d), some (V.ref R), some (V.ref O), some (V.ref hd'), some (V.ref gd), v7, some (V.ref p), v9]) (i := 6) rfl) eo_none (eo_some (i := ((1 : Nat) : Int)) ev_c) (sq_of (e7 _ _ atg6))
                      rw [cutTake, ← List.map_take] at this
                      exact this
                    have hI : Ev (tCB (fun xs H Q => (∃ i, xs = [V.int i] ∧ Q (V.int i) H) ∨ ∃ k, xs = [V.bl k] ∧ Q (V.int (if k = true then 1 else 0)) H) (tCons (tOp (rEqD K) (tSl (rSlL K) (tVar 8) tNoPart (tPart (tC (V.int 1)))) (tSl (rSlL K) (tVar 6) tNoPart (tPart (tC (V.int 1))))) tNil))
                        [some (V.str t), some (V.ref el), some (V.ref d), some (V.ref R), some (V.ref O), some (V.ref hd'), some (V.ref gd), v7, some (V.ref p), v9] H7 (.int ((if decide (l.head? = some x) = true then 1 else 0 : Nat) : Int)) := by
                      refine ev_is (ev_cb (ea_cons (ev_opLL hA hB' fun a b H8 ha hb e8 => rv_eqD (K := K) (fun H9 e9 => ⟨dp_S (sq_of (e9 _ _ ha)), dp_S (sq_of (e9 _ _ hb))⟩) (shaped_dS fun z hz => hro z (List.mem_of_mem_take hz)) (shaped_dS fun z hz => by rw [List.mem_singleton.mp hz]; exact hx1)) ea_nil) fun H8 _ Q q => .inr ⟨_, rfl, q H8 (Ex.refl H8)⟩) ?_
                      rw [eqv_dS, take1]
                      cases decide (l.head? = some x) <;> rfl
                    have := el_sl (K := K) (ev_var (σ := [some (V.str t), some (V.ref el), some (V.ref d), some (V.ref R), some (V.ref O), some (V.ref hd'), some (V.ref gd), v7, some (V.ref p), v9]) (i := 8) rfl) (eo_some hI) eo_none hs
                    rw [cutDrop, ← List.map_drop] at this
                    have hdl : l.drop (if decide (l.head? = some x) = true then 1 else 0) = EM.dropH x l := by
                      unfold EM.dropH
                      by_cases z : l.head? = some x
                      · rw [if_pos z]
                        simp [z]
                      · rw [if_neg z]
                        simp [z]
                    rw [hdl] at this
                    exact this
                · have hgv : givenL (rs.map (·.1)).length (fun _ => true) (fun i => (EM.dropH x (rs.getD i (.non, [])).2).map V.str) = ((rs.map (·.2)).map (EM.dropH x)).map (fun l => l.map V.str) := by
                    rw [List.length_map, givenL_map rs (.non, []) (fun r => (EM.dropH x r.2).map V.str), List.map_map, List.map_map]
                    rfl
                  rw [hgv] at hN
                  obtain ⟨own, z1, z2⟩ := own_of hN
                  have hRO : R' ≠ O := fun z => by
                    have := hN.nD
                    rw [z, atO6] at this
                    cases this
                  have s1 : ((qs.zip ((rs.map (·.2)).map (EM.dropH x))).map fun r => (V.ref r.1, r.2)).map (·.1) = qs.map V.ref := zip_ref z1
                  have s2 : ((qs.zip ((rs.map (·.2)).map (EM.dropH x))).map fun r => (V.ref r.1, r.2)).map (·.2) = (rs.map (·.2)).map (EM.dropH x) := zip_row z2
                  refine ⟨EM.tot ((rs.map (·.2)).map (EM.dropH x)), hd, R', (qs.zip ((rs.map (·.2)).map (EM.dropH x))).map (fun r => (V.ref r.1, r.2)), od ++ [x], _, _, _, _, _, rfl, exH6.trans hN.ex, hN.ex _ _ atO6, ?_, ?_, ?_, ?_, ?_, ?_, ?_⟩
                  · rw [s1]
                    exact hide_get hN.at_ hRO
                  · intro r hr
                    obtain ⟨y, hy, rfl⟩ := List.mem_map.mp hr
                    refine ⟨y.1, rfl, sq_of (hide_get (own.at_ y hy) fun z => ?_)⟩
                    have := own.new y hy
                    rw [z, atO6] at this
                    cases this
                  · intro r hr
                    have : r.2 ∈ (rs.map (·.2)).map (EM.dropH x) := by
                      rw [← s2]
                      exact List.mem_map.mpr ⟨r, hr, rfl⟩
                    obtain ⟨l, hl, hl2⟩ := List.mem_map.mp this
                    obtain ⟨r0, hr0, rfl⟩ := List.mem_map.mp hl
                    intro z hz
                    rw [← hl2] at hz
                    exact hOk r0 hr0 z (EM.dropH_sub hz)
                  · rw [s2, List.length_append, List.length_singleton]
                    omega
                  · have := congrArg List.length s2
                    simp only [List.length_map] at this ⊢
                    omega
                  · rw [s2]
                  · rw [s2, hm, EM.merge_step hn]
                    cases EM.merge ((rs.map (·.2)).map (EM.dropH x)) <;> simp
          · -- return order
            have hl : EM.live (rs.map (·.2)) = [] := by simpa using hb
            rw [hm, EM.merge_done hl] at k
            refine s_ret (ev_var rfl) fun H2 e2 => ?_
            have k' : RetL ((t :: od).map V.str) H Q := by
              have : RetO (some (t :: (od ++ []))) H Q := k
              rw [List.append_nil] at this
              exact this
            exact k' O H2 hO (e.trans (e1.trans e2)) ((e1.trans e2) _ _ atO)
end
end K

set_option Elab.async false
set_option linter.all false
set_option maxRecDepth 100000
namespace K
open PySem L2 Evl EX
section
variable {P : Program} {w : World} {K : PySem.W.Frag} {mg : Str → Option Value} {base : Heap}
def spMore : Sp := fun vs H Q _ => ∃ (tp ti ed : Addr) (s : Str) (ts : List Str) (kvs : List (Key × V)), vs = [.ref tp, .ref ti, .ref ed, .str s] ∧ Tap H tp ∧ H ti = some (.lst (ts.map V.str)) ∧ H ed = some (.dK kvs) ∧ ti ≠ tp ∧ Oks ts ∧ ts.length ≤ 40 ∧ kvs.length ≤ 1000 ∧
  ∀ (sm : List Str) (p : Addr) (H' : Hp), (∀ e ∈ sm, e ∈ ts) → sm.length ≤ 40 → H p = none → H' p = some (.lst (sm.map V.str)) → H' ti = some (.lst ((ts ++ [s]).map V.str)) → H' ed = some (.dK (putK kvs (Sum.inr s) (.ref p))) → Tap H' tp →
    (∀ a o, a ≠ tp → a ≠ ti → a ≠ ed → H a = some o → H' a = some o) → Q .non H'
theorem ok_more {f : Addr} {fd : FuncData} (F : Fun K "_law_more" "_law_more" s__law_more f fd) (T : Txt mg) (G__law_next : Def P w K mg base 2 "_law_next" ["_law_tap_here", "_law_size"] spDraw) : FnOk P w K mg base CX0 3 f fd ["_law_tap_here", "_law_titles", "_law_elders", "_law_fresh"] spMore := by
  refine F.ok sc__law_more (fun vs H Q E h => ?_) (fun cdv A outer s H vs Q E hr h => ?_)
  · obtain ⟨tp, ti, ed, s, ts, kvs, rfl, _⟩ := h
    rfl
  · obtain ⟨tp, ti, ed, st, ts, kvs, rfl, hT, hti, hed, hne, hOk, hz, hkz, k⟩ := h
    have hu := hu_of hr
    have hedt : ed ≠ tp := by
      obtain ⟨a, b, c, d, hT⟩ := hT
      exact ne_of hed hT (by intro z; cases z)
    have hedi : ed ≠ ti := ne_of hed hti (by intro z; cases z)
    refine ⟨_, pss_cons (ps_set (i := 4) sc__law_more.nd rfl (Or.inr rfl) (pe_lst (pa_nil)))
      (pss_cons (ps_set (i := 5) sc__law_more.nd rfl (Or.inl rfl) (pe_slice (slL (K := K)) (pv 1) (po_some (pe_un un_neg (pe_int))) po_none))
      (pss_cons (ps_for PassesOwn.never rfl (pi_range1 (by rfl) T.range (pa_cons (pe_def G__law_next (hr.mono (by decide)) (by rfl) (pa_cons (pv 0) (pa_cons (pe_ix (ixL (K := K)) (pe_lst (pa_cons (pe_int) (pa_cons (pe_int) (pa_cons (pe_int) (pa_cons (pe_int) pa_nil))))) (pe_def G__law_next (hr.mono (by decide)) (by rfl) (pa_cons (pv 0) (pa_cons (pe_int) pa_nil))) (fun _ _ => rfl)) pa_nil))) pa_nil)) (pg_name (i := 6) sc__law_more.nd rfl (Or.inl rfl))
        (pss_one (ps_if (pt_cmpR (opNeD (K := K) hr.units) (pv 5) (pe_lst (pa_nil)) (nomark _))
          (pss_cons (ps_set (i := 7) sc__law_more.nd rfl (Or.inl rfl) (pe_ix (ixL (K := K)) (pe_lst (pa_cons (pv 5) (pa_cons (pv 1) pa_nil))) (pe_callTy call_int1 (by rfl) T.int (by decide +kernel) (pa_cons (pe_cmpR op_eq (pe_def G__law_next (hr.mono (by decide)) (by rfl) (pa_cons (pv 0) (pa_cons (pe_int) pa_nil))) (pe_int) (nomark _)) pa_nil)) (fun _ _ => rfl)))
          (pss_cons (ps_set (i := 7) sc__law_more.nd rfl (Or.inl rfl) (pe_ix (ixL (K := K)) (pv 7) (pe_def G__law_next (hr.mono (by decide)) (by rfl) (pa_cons (pv 0) (pa_cons (pe_callB (clLen (K := K)) (by rfl) T.len (by decide +kernel) (pa_cons (pv 7) pa_nil)) pa_nil))) (fun _ _ => rfl)))
          (pss_one (ps_if (PW.pt (pw_or (pt_cmpR (opNin (K := K)) (pv 7) (pv 4) (by rfl)) (pw_or1 (pt_cmpR op_eq (pe_def G__law_next (hr.mono (by decide)) (by rfl) (pa_cons (pv 0) (pa_cons (pe_int) pa_nil))) (pe_int) (nomark _)))))
            (pss_one (ps_expr (peBm (K := K) PySem.F.plainAttrs_list PySem.F.slot_list_append PySem.F.type_list_append mt_append (pv 4) (pa_cons (pv 7) pa_nil))))
            (pss_nil)))))
          (pss_nil))))
      (pss_cons (ps_if (pt_cmpR op_gt (pe_def G__law_next (hr.mono (by decide)) (by rfl) (pa_cons (pv 0) (pa_cons (pe_int) pa_nil))) (pe_int) (nomark _))
        (pss_one (ps_set (i := 4) sc__law_more.nd rfl (Or.inr rfl) (pe_lc (own := [("_law_title", 8)]) (g := gName 8) rfl sc__law_more.nd (piRev (K := K) (by rfl) T.reversed (pa_cons (pv 1) pa_nil)) (blkOk_by (N := N__law_more) (sc := defScope s__law_more) (by decide +kernel)) (fun _ _ _ _ _ => pg_name (i := 8) sc__law_more.nd rfl (Or.inl rfl)) (fun _ _ _ _ _ => pts_one (pt_cmpR (opIn (K := K)) (pv 8) (pv 4) (by rfl))) (fun _ _ _ _ _ => pv 8))))
        (pss_nil))
      (pss_cons (ps_expr (peBm (K := K) PySem.F.plainAttrs_list PySem.F.slot_list_append PySem.F.type_list_append mt_append (pv 1) (pa_cons (pv 3) pa_nil)))
      (pss_one (ps_dput hu (pv 2) (pv 3) (pv 4) rfl)))))), ?_⟩
    refine q_asgL el_nil fun so H1 nso e1 ats => ?_
    obtain ⟨nl, hnl, hnl1, hnl2⟩ := cut_strs ts (some (-10)) none
    refine q_asgL (xs := nl.map V.str) (by rw [← hnl]; exact el_sl (K := K) (ev_var rfl) (eo_some (ev_un ev_c ru_neg)) eo_none (sq_of (e1 _ _ hti))) fun nr H2 nnr e2 atn => ?_
    have e02 := e1.trans e2
    have hso : so ≠ nr := fun z => by rw [← z, ats] at nnr; cases nnr
    have hnr : H nr = none := fresh_back e1 nnr
    have hsotp : so ≠ tp := by
      obtain ⟨a, b, c, d, hT⟩ := hT
      exact fun z => by rw [z, hT] at nso; cases nso
    have hnrtp : nr ≠ tp := by
      obtain ⟨a, b, c, d, hT⟩ := hT
      exact fun z => by rw [z, hT] at hnr; cases hnr
    -- the end: titles.append(fresh), elders[fresh] = some
    have fin : ∀ (so : Addr) (sm : List Str) (v5 v6 v7 v8 : Option V) (H3 : Hp), H so = none → H3 so = some (.lst (sm.map V.str)) → (∀ e ∈ sm, e ∈ ts) → sm.length ≤ 40 → Ex (hide tp H) H3 → Tap H3 tp →
        tSeq (tDrop (tBM K "list" rAppend (tVar 1) (tCons (tVar 3) tNil))) (sDPut (tVar 2) (tVar 3) (tVar 4)) { nx := fun x H' => Q .non H', rt := Q } [some (.ref tp), some (.ref ti), some (.ref ed), some (.str st), some (.ref so), v5, v6, v7, v8] H3 := by
      intro so sm v5 v6 v7 v8 H3 nso at3 hsub hsl e3 t3
      have hsoti : so ≠ ti := fun z => by rw [z, hti] at nso; cases nso
      have hsoed : so ≠ ed := fun z => by rw [z, hed] at nso; cases nso
      refine q_app (K := K) (xs := ts.map V.str) (e3 _ _ (hide_get hti hne)) (ev_var rfl) (ev_var rfl) (by rw [List.length_map]; omega) fun H4 e4 => ?_
      refine s_dputG (d := ed) (k := Sum.inr st) (fun v H5 => v = .ref so ∧ Ex (upd H4 ti (.lst (ts.map V.str ++ [V.str st]))) H5) (fun Q' q' => ⟨_, rfl, q' _ _ ⟨rfl, Ex.refl _⟩⟩) ?_
      rintro v H5 ⟨rfl, e5⟩
      refine ⟨kvs, e5 _ _ (by rw [upd_ne hedi]; exact e4 _ _ (e3 _ _ (hide_get hed hedt))), by omega, ev_var rfl, ev_var rfl, fun H6 e6 => ?_⟩
      have e56 := e5.trans e6
      obtain ⟨a, b, c, d, ht3⟩ := t3
      refine k sm so _ hsub hsl nso ?_ ?_ upd_same ⟨a, b, c, d, ?_⟩ fun x o h1 h2 h3 hx => ?_
      · rw [upd_ne hsoed]
        exact e56 _ _ (by rw [upd_ne hsoti]; exact e4 _ _ at3)
      · rw [upd_ne (Ne.symm hedi)]
        exact e56 _ _ (by rw [upd_same, List.map_append]; rfl)
      · rw [upd_ne (Ne.symm hedt)]
        exact e56 _ _ (by rw [upd_ne (Ne.symm hne)]; exact e4 _ _ ht3)
      · rw [upd_ne h3]
        exact e56 _ _ (by rw [upd_ne h2]; exact e4 _ _ (e3 _ _ (hide_get hx h1)))
    have htp2 : Tap H2 tp := hT.mono e02
    -- for turn in range(next(tap, [2, 3, 3, 9][next(tap, 4)]))
    refine q_forD (tp := tp) 9 (by decide) htp2 ?_ (fun i σ' H' => ∃ (sm : List Str) (v6 v7 v8 : Option V), σ' = [some (.ref tp), some (.ref ti), some (.ref ed), some (.str st), some (.ref so), some (.ref nr), v6, v7, v8] ∧ Tap H' tp ∧ Ex (hide tp H) H' ∧ H' so = some (.lst (sm.map V.str)) ∧ H' nr = some (.lst (nl.map V.str)) ∧ (∀ e ∈ sm, e ∈ ts) ∧ sm.length ≤ i) ?_ ?_ ?_
    · refine dr_draw 9 (by decide) rfl hide_at ?_
      refine dr_opL hide_at (el_lst (ea_cons ev_c (ea_cons ev_c (ea_cons ev_c (ea_cons ev_c ea_nil)))) (by simp)) (fun B' _ n' => dr_draw 4 (by decide) rfl n' (dr_c.imp fun v hv => ⟨4, hv, by decide, by decide⟩)) ?_
      rintro p y B' _ hp ⟨r, rfl, r0, r1⟩
      have : r = 0 ∨ r = 1 ∨ r = 2 ∨ r = 3 := by omega
      rcases this with rfl | rfl | rfl | rfl
      · exact ⟨_, ⟨2, rfl, by decide, by decide⟩, ixAt (j := 0) hp rfl rfl⟩
      · exact ⟨_, ⟨3, rfl, by decide, by decide⟩, ixAt (j := 1) hp rfl rfl⟩
      · exact ⟨_, ⟨3, rfl, by decide, by decide⟩, ixAt (j := 2) hp rfl rfl⟩
      · exact ⟨_, ⟨9, rfl, by decide, by decide⟩, ixAt (j := 3) hp rfl rfl⟩
    · intro H3 e3 t3
      refine ⟨[], _, _, _, rfl, t3, (hide_mono e02).trans e3, e3 _ _ (hide_get (e2 _ _ ats) hsotp), e3 _ _ (hide_get atn hnrtp), (fun e he => nomatch he), Nat.le_refl _⟩
    · rintro i σ' H3 hi ⟨sm, v6, v7, v8, rfl, t3, e3, at3, atn3, hsub, hsl⟩
      have hti3 := e3 _ _ (hide_get hti hne)
      refine s_when (et_test (ev_neNil (K := K) (ev_var rfl) (sq_of atn3) fun x hx => hOk x (hnl1 x hx))) (fun hb H4 e4 => ?_) (fun hb H4 e4 => ⟨sm, _, _, _, rfl, t3.mono e4, e3.trans e4, e4 _ _ at3, e4 _ _ atn3, hsub, by omega⟩)
      -- elder = [near, titles][int(next(tap, 6) == 0)]
      have e04 := e3.trans e4
      have t4 := t3.mono e4
      refine q_asgD (tp := tp) (P := fun v => v = .ref nr ∨ v = .ref ti) t4 (dr_opL hide_at (el_lst (ea_cons (ev_var rfl) (ea_cons (ev_var rfl) ea_nil)) (by simp)) (fun B' _ n' => dr_int1 (dr_op (dr_draw 6 (by decide) rfl n' (dr_c.imp fun v hv => ⟨6, hv, by decide, by decide⟩)) dr_c ?_)) ?_) ?_
      · rintro x y ⟨r, rfl, _, _⟩ rfl
        exact ⟨_, ⟨_, rfl⟩, rv_eq rfl⟩
      · rintro p y B' _ hp hy
        rcases hy with rfl | rfl
        · exact ⟨_, .inl rfl, ixAt (j := 0) hp rfl rfl⟩
        · exact ⟨_, .inr rfl, ixAt (j := 1) hp rfl rfl⟩
      · intro v H5 e5 t5 hv
        have ats5 := e5 _ _ (hide_get (e4 _ _ at3) hsotp)
        have atn5 := e5 _ _ (hide_get (e4 _ _ atn3) hnrtp)
        have ati5 := e5 _ _ (hide_get (e4 _ _ hti3) hne)
        have e05 : Ex (hide tp H) H5 := (ex_hide e04 hide_at).trans e5
        have hnn : nl ≠ [] := by
          intro z
          rw [z] at hb
          cases hb
        obtain ⟨q, l, hv, hq, hqtp, hl, hlt, hlz⟩ : ∃ (q : Addr) (l : List Str), v = .ref q ∧ H5 q = some (.lst (l.map V.str)) ∧ q ≠ tp ∧ l ≠ [] ∧ (∀ x ∈ l, x ∈ ts) ∧ l.length ≤ 40 := by
          rcases hv with rfl | rfl
          · exact ⟨nr, nl, rfl, atn5, hnrtp, hnn, hnl1, by omega⟩
          · refine ⟨ti, ts, rfl, ati5, hne, fun z => hnn ?_, fun x hx => hx, hz⟩
            subst z
            exact List.length_eq_zero_iff.mp (by simpa using hnl2)
        subst hv
        have hlp : 0 < l.length := List.length_pos_iff.mpr hl
        -- elder = elder[next(tap, len(elder))]
        refine q_asgD (tp := tp) (P := fun v => ∃ x, v = .str x ∧ x ∈ ts) t5 (dr_op (dr_var rfl) (dr_draw (l.length : Int) (by omega) rfl hide_at ((dr_ev (ev_len (K := K) (ev_var rfl) (sq_of (hide_get hq hqtp)))).imp fun v hv => ⟨_, hv, by rw [List.length_map]; omega, by rw [List.length_map]; omega⟩)) ?_) ?_
        · rintro x y rfl ⟨r, rfl, r0, r1⟩
          have hr' : r.toNat < l.length := by omega
          exact ⟨.str l[r.toNat], ⟨_, rfl, hlt _ (List.getElem_mem hr')⟩, ixAt (j := r.toNat) (hide_get hq hqtp) (by omega) (by rw [List.getElem?_map, List.getElem?_eq_getElem hr']; rfl)⟩
        · rintro v H6 e6 t6 ⟨x, rfl, hx⟩
          have ats6 := e6 _ _ (hide_get ats5 hsotp)
          have atn6 := e6 _ _ (hide_get atn5 hnrtp)
          have e06 : Ex (hide tp H) H6 := (ex_hide e05 hide_at).trans e6
          refine s_whenD (tp := tp) (p := fun _ => True) t6 (drT_or (drT_ev (et_test (ev_op (ev_var rfl) (ev_var rfl) (rv_niL (K := K) (sq_of (hide_get ats6 hsotp)) rfl (flat_str sm))))) (drT_test (dr_op (P := fun v => ∃ b, v = .bl b) (dr_draw 60 (by decide) rfl hide_at (dr_c.imp fun v hv => ⟨60, hv, by decide, by decide⟩)) dr_c ?_))) (fun _ H7 e7 t7 => ?_) (fun _ H7 e7 t7 => ?_)
          · rintro x y ⟨r, rfl, _, _⟩ rfl
            exact ⟨_, ⟨_, rfl⟩, rv_eq rfl⟩
          · have ats7 := e7 _ _ (hide_get ats6 hsotp)
            refine s_app (K := K) ats7 (ev_var rfl) (ev_var rfl) (by rw [List.length_map]; omega) fun H8 e8 => ?_
            have e07 : Ex (hide tp H) H8 := ((ex_hide e06 hide_at).trans e7).trans e8
            have nsoB : hide tp H so = none := by rw [hide_ne hsotp]; exact nso
            refine ⟨sm ++ [x], _, _, _, rfl, ?_, Ex.mut e07 nsoB, ?_, ?_, ?_, ?_⟩
            · obtain ⟨a, b, c, d, ht⟩ := t7.mono e8
              exact ⟨a, b, c, d, by rw [upd_ne (Ne.symm hsotp)]; exact ht⟩
            · rw [upd_same, List.map_append]
              rfl
            · rw [upd_ne (Ne.symm hso)]
              exact e8 _ _ (e7 _ _ (hide_get atn6 hnrtp))
            · intro e he
              rcases List.mem_append.mp he with z | z
              · exact hsub e z
              · rw [List.mem_singleton.mp z]
                exact hx
            · rw [List.length_append, List.length_singleton]
              omega
          · exact ⟨sm, _, _, _, rfl, t7, (ex_hide e06 hide_at).trans e7, e7 _ _ (hide_get ats6 hsotp), e7 _ _ (hide_get atn6 hnrtp), hsub, by omega⟩
    · rintro n σ' H3 hn ⟨sm, v6, v7, v8, rfl, t3, e3, at3, atn3, hsub, hsl⟩
      have hti3 := e3 _ _ (hide_get hti hne)
      -- if next(tap, 8) > 0
      refine q_whenD (tp := tp) (p := fun _ => True) t3 (drT_test (dr_op (P := fun v => ∃ b, v = .bl b) (dr_draw 8 (by decide) rfl hide_at (dr_c.imp fun v hv => ⟨8, hv, by decide, by decide⟩)) dr_c ?_)) (fun _ H4 e4 t4 => ?_) (fun _ H4 e4 t4 => ?_)
      · rintro x y ⟨r, rfl, _, _⟩ rfl
        exact ⟨_, ⟨_, rfl⟩, rv_I0⟩
      · have ats4 := e4 _ _ (hide_get at3 hsotp)
        have ati4 := e4 _ _ (hide_get hti3 hne)
        have e04 : Ex (hide tp H) H4 := (ex_hide e3 hide_at).trans e4
        refine s_asgL (xs := given (ts.map V.str).length (fun i => decide (ts.getD (ts.length - 1 - i) Str.empty ∈ sm)) (fun i => V.str (ts.getD (ts.length - 1 - i) Str.empty))) ?_ fun p H5 np e5 at5 => ?_
        · refine el_lcRev (K := K) _ _ (ev_var rfl) (sq_of ati4) (by rw [List.length_map]; omega) (fun x => rfl) (fun j x H6 e6 hj1 hj => ?_) (fun j x H6 e6 hj1 hj _ => ?_)
          · rw [List.length_map, List.getElem?_map] at hj
            cases hr : ts[ts.length - 1 - j]? with
            | none => rw [hr] at hj; cases hj
            | some y =>
              rw [hr] at hj
              cases hj
              rw [getD_of hr, ← inV_str]
              exact et_test (ev_op (ev_var rfl) (ev_var rfl) (rv_isL (K := K) (sq_of (e6 _ _ ats4)) rfl (flat_str sm)))
          · rw [List.length_map, List.getElem?_map] at hj
            cases hr : ts[ts.length - 1 - j]? with
            | none => rw [hr] at hj; cases hj
            | some y =>
              rw [hr] at hj
              cases hj
              rw [getD_of hr]
              exact ev_var rfl
        · have hlen := given_len (ts.map V.str).length (fun i => decide (ts.getD (ts.length - 1 - i) Str.empty ∈ sm)) (fun i => V.str (ts.getD (ts.length - 1 - i) Str.empty))
          obtain ⟨xs, hxs, hxm⟩ := strs_of (P := fun x => x ∈ ts) fun v (hv : v ∈ given (ts.map V.str).length (fun i => decide (ts.getD (ts.length - 1 - i) Str.empty ∈ sm)) (fun i => V.str (ts.getD (ts.length - 1 - i) Str.empty))) => by
            obtain ⟨i, _, hf, rfl⟩ := mem_given hv
            exact ⟨_, rfl, hsub _ (of_decide_eq_true hf)⟩
          rw [hxs] at at5 hlen
          rw [List.length_map, List.length_map] at hlen
          refine fin p xs _ _ _ _ H5 ?_ at5 hxm (by omega) (e04.trans e5) (t4.mono e5)
          have : hide tp H p = none := fresh_back e04 np
          by_cases z : p = tp
          · obtain ⟨a, b, c, d, ht⟩ := t4
            rw [z, ht] at np
            cases np
          · rwa [hide_ne z] at this
      · exact fin so sm _ _ _ _ H4 nso (e4 _ _ (hide_get at3 hsotp)) hsub (by omega) ((ex_hide e3 hide_at).trans e4) t4
end
end K

set_option Elab.async false
set_option linter.all false
set_option maxRecDepth 100000
namespace K
open PySem L2 Evl EX
theorem abc (m : Nat) (h : m < 8) : (Str.ofString "ABCDEFGH").cps.toList[m]? = some (65 + m) := by
  have : ∀ m, m < 8 → (Str.ofString "ABCDEFGH").cps.toList[m]? = some (65 + m) := by decide +kernel
  exact this m h
theorem kl (m : Nat) (h : m < 2) : (Str.ofString "kl").cps.toList[m]? = some (107 + m) := by
  have : ∀ m, m < 2 → (Str.ofString "kl").cps.toList[m]? = some (107 + m) := by decide +kernel
  exact this m h
theorem kinds_ok : ∀ c ∈ (Str.ofString "kindsof").cps.toList, c < 0x110000 := by decide +kernel
theorem strOk_of {x : Str} (h : ∀ c ∈ x.cps.toList, c < 0x110000) : PyData.strOk x = true := by
  unfold PyData.strOk
  rw [← Array.all_toList, List.all_eq_true]
  intro c hc
  exact decide_eq_true (h c hc)
/-- a title of the n-th turn -/
def Fr (n : Nat) (x : Str) : Prop := PyData.strOk x = true ∧ ∃ pre, x.cps.toList = pre ++ [65 + n % 8, 107 + n / 8]
theorem fr_ne {n m : Nat} {x : Str} (h1 : Fr n x) (h2 : Fr m x) : n = m := by
  obtain ⟨_, p, hp⟩ := h1
  obtain ⟨_, q, hq⟩ := h2
  rw [hp] at hq
  have := List.append_inj_right' hq rfl
  simp at this
  omega
theorem if_raw {σ : L2.St} {H : Hp} {te : TE} {D : Ends} {tu tw : TS} (h : te σ H fun x H1 => ∃ k, x = .bl k ∧ (if k = true then tu D σ H1 else tw D σ H1)) : tIfS (tTest te) tu tw D σ H := h
theorem q_dputG {σ : L2.St} {H : Hp} {td ty tv : TE} {D : Ends} {tz : TS} {d : Addr} {k : Key} (G : V → Hp → Prop) (hv : ∀ Q : VK, (∀ v H1, G v H1 → Q v H1) → tv σ H Q)
    (h : ∀ v H1, G v H1 → ∃ kvs, H1 d = some (.dK kvs) ∧ kvs.length < 100000 ∧ Ev td σ H1 (.ref d) ∧ Ev ty σ H1 (kV k) ∧ ∀ H2, Ex H1 H2 → tz D σ (upd H2 d (.dK (putK kvs k v)))) : tSeq (sDPut td ty tv) tz D σ H := s_dputG (D := { D with nx := tz D }) G hv h
/-- titles, elders' lists and the dict, behind i turns -/
structure Grp (H : Hp) (ti : Addr) (i : Nat) (ts : List Str) (es : List (List Str)) (kvs : List (Key × V)) : Prop where
  len : ts.length = i
  sch : EM.Sch ts es
  fr : ∀ (j : Nat) x, ts[j]? = some x → Fr j x
  at_ : ∀ (j : Nat) x, ts[j]? = some x → ∃ p l, es[j]? = some l ∧ p ≠ ti ∧ valV kvs (Sum.inr x) = some (.ref p) ∧ H p = some (.lst (l.map V.str))
  kz : kvs.length ≤ i
  ez : ∀ l ∈ es, l.length ≤ 40
theorem Grp.oks {H : Hp} {ti : Addr} {i : Nat} {ts : List Str} {es : List (List Str)} {kvs : List (Key × V)} (g : Grp H ti i ts es kvs) : Oks ts := fun x hx => by
  obtain ⟨j, hj, e⟩ := List.getElem_of_mem hx
  exact (g.fr j x (by rw [List.getElem?_eq_getElem hj, e])).1
theorem Grp.new {H H' : Hp} {ti p : Addr} {i : Nat} {ts : List Str} {es : List (List Str)} {kvs : List (Key × V)} {s : Str} {sm : List Str} (g : Grp H ti i ts es kvs) (hs : Fr i s) (hsub : ∀ e ∈ sm, e ∈ ts) (hz : sm.length ≤ 40) (hp : p ≠ ti)
    (hat : H' p = some (.lst (sm.map V.str))) (hk : ∀ q l, q ≠ ti → H q = some (.lst l) → H' q = some (.lst l)) : Grp H' ti (i + 1) (ts ++ [s]) (es ++ [sm]) (putK kvs (Sum.inr s) (.ref p)) := by
  have hnew : s ∉ ts := fun h => by
    obtain ⟨j, hj, e⟩ := List.getElem_of_mem h
    have := fr_ne hs (g.fr j s (by rw [List.getElem?_eq_getElem hj, e]))
    rw [this] at g
    have := g.len
    omega
  have key : ∀ (j : Nat) x, (ts ++ [s])[j]? = some x → (j < ts.length ∧ ts[j]? = some x) ∨ (j = ts.length ∧ x = s) := fun j x h => by
    by_cases hj : j < ts.length
    · rw [List.getElem?_append_left hj] at h
      exact .inl ⟨hj, h⟩
    · rw [List.getElem?_append_right (by omega)] at h
      have h0 : j - ts.length = 0 := by
        cases hz : j - ts.length with
        | zero => rfl
        | succ n => rw [hz] at h; simp at h
      rw [h0] at h
      simp at h
      exact .inr ⟨by omega, h.symm⟩
  refine ⟨by simp [g.len], g.sch.snoc hnew hsub, fun j x h => ?_, fun j x h => ?_, ?_, fun l hl => ?_⟩
  · rcases key j x h with ⟨_, h⟩ | ⟨h1, h2⟩
    · exact g.fr j x h
    · subst h2
      rw [h1, g.len]
      exact hs
  · rcases key j x h with ⟨hj, h⟩ | ⟨h1, h2⟩
    · obtain ⟨q, l, a, b, c, d⟩ := g.at_ j x h
      refine ⟨q, l, by rw [List.getElem?_append_left (by rw [g.sch.len]; exact hj)]; exact a, b, ?_, hk q _ b d⟩
      have hxs : ¬ (Sum.inr x : Key) = Sum.inr s := fun z => hnew (by rw [← Sum.inr.inj z]; exact List.mem_of_getElem? h)
      rw [valV_put, if_neg hxs]
      exact c
    · subst h2
      refine ⟨p, sm, ?_, hp, ?_, hat⟩
      · rw [List.getElem?_append_right (by rw [g.sch.len]; omega), g.sch.len, h1]
        simp
      · rw [valV_put, if_pos rfl]
  · have := length_putK kvs (Sum.inr s : Key) (.ref p)
    have := g.kz
    omega
  · rcases List.mem_append.mp hl with q | q
    · exact g.ez l q
    · rw [List.mem_singleton.mp q]
      exact hz
section
variable {P : Program} {w : World} {K : PySem.W.Frag} {mg : Str → Option Value} {base : Heap}
def spGroup (K : PySem.W.Frag) : Sp := fun vs H Q _ => ∃ (ca : Addr) (st : Int) (ns : List Int), vs = [.ref ca, .int st] ∧ SqL K H ca (ns.map V.int) ∧ ns.length ≤ 16 ∧ RetV (.bl true) H Q
theorem ok_group {f : Addr} {fd : FuncData} (F : Fun K "_law_group_right" "_law_group_right" s__law_group_right f fd) (T : Txt mg) (G__law_tap : Def P w K mg base 1 "_law_tap" ["_law_cell"] spTap) (G__law_next : Def P w K mg base 2 "_law_next" ["_law_tap_here", "_law_size"] spDraw)
    (G__law_more : Def P w K mg base 3 "_law_more" ["_law_tap_here", "_law_titles", "_law_elders", "_law_fresh"] spMore) (G_order_of : Def P w K mg base 4 "order_of" ["elders", "title"] (spOrderOf K)) (G__law_walk : Def P w K mg base 1 "_law_walk" ["_law_title", "_law_elders", "_law_told"] (spWalk K)) :
    FnOk P w K mg base CX0 5 f fd ["_law_cells", "_law_start"] (spGroup K) := by
  refine F.ok sc__law_group_right (fun vs H Q E h => ?_) (fun cdv A outer s H vs Q E hr h => ?_)
  · obtain ⟨ca, st, ns, rfl, _⟩ := h
    rfl
  · obtain ⟨ca, st, ns, rfl, hS, hz, k⟩ := h
    have hu := hu_of hr
    refine ⟨_, pss_cons (ps_set (i := 2) sc__law_group_right.nd rfl (Or.inl rfl) (pe_lst (pa_nil)))
      (pss_cons (ps_set (i := 3) sc__law_group_right.nd rfl (Or.inl rfl) (pe_dnewK))
      (pss_cons (ps_for PassesOwn.never rfl (piEnum (K := K) (by rfl) T.enumerate (pa_cons (pv 0) pa_nil)) (pg_tup rfl (pgs_cons (pg_name (i := 4) sc__law_group_right.nd rfl (Or.inl rfl)) (pgs_cons (pg_name (i := 5) sc__law_group_right.nd rfl (Or.inl rfl)) pgs_nil)))
        (pss_cons (ps_set (i := 6) sc__law_group_right.nd rfl (Or.inl rfl) (pe_def G__law_tap (hr.mono (by decide)) (by rfl) (pa_cons (pe_op op_add (pe_op op_add (pv 5) (pv 4)) (pv 1)) pa_nil)))
        (pss_cons (ps_set (i := 7) sc__law_group_right.nd rfl (Or.inl rfl) (pe_op op_add_str (pe_op op_add_str (pe_slice sl_str (pe_str) po_none (po_some (pe_def G__law_next (hr.mono (by decide)) (by rfl) (pa_cons (pv 6) (pa_cons (pe_int) pa_nil))))) (pe_ix ix_str (pe_str) (pe_op op_mod (pv 4) (pe_int)) (fun _ _ => rfl))) (pe_ix ix_str (pe_str) (pe_op op_fdiv (pv 4) (pe_int)) (fun _ _ => rfl))))
        (pss_one (ps_expr (pe_def G__law_more (hr.mono (by decide)) (by rfl) (pa_cons (pv 6) (pa_cons (pv 2) (pa_cons (pv 3) (pa_cons (pv 7) pa_nil))))))))))
      (pss_cons (ps_set (i := 8) sc__law_group_right.nd rfl (Or.inl rfl) (pe_dnewK))
      (pss_cons (ps_for PassesOwn.never rfl (piL (K := K) (pv 2)) (pg_name (i := 9) sc__law_group_right.nd rfl (Or.inl rfl))
        (pss_cons (ps_dput hu (pv 8) (pv 9) (pe_def G_order_of (hr.mono (by decide)) (by rfl) (pa_cons (pv 3) (pa_cons (pv 9) pa_nil))) rfl)
        (pss_one (ps_if (pt_cmpR (opNeD (K := K) hr.units) (pe_dget hu (pv 8) (pv 9) (fun _ _ => rfl)) (pe_def G__law_walk (hr.mono (by decide)) (by rfl) (pa_cons (pv 9) (pa_cons (pe_dget hu (pv 3) (pv 9) (fun _ _ => rfl)) (pa_cons (pv 8) pa_nil)))) (nomark _))
          (pss_one (ps_ret (pe_bl)))
          (pss_nil)))))
      (pss_one (ps_ret (pe_bl))))))), ?_⟩
    refine q_asgL el_nil fun ti H1 nti e1 ati => ?_
    refine fun ed ned => ?_
    have hed : H ed = none := fresh_back e1 ned
    have htied : ti ≠ ed := fun z => by rw [← z, ati] at ned; cases ned
    have exd : Ex H1 (upd H1 ed (.dK [])) := Ex.new ned
    have atd : upd H1 ed (.dK []) ed = some (.dK []) := upd_same
    show tSeq _ _ _ _ _
    generalize upd H1 ed (.dK []) = H2 at exd atd
    have e02 := e1.trans exd
    have ati2 := exd _ _ ati
    refine q_forE (K := K) (ev_var rfl) (ex_l e02 hS) (fun i σ' H' => ∃ (ts : List Str) (es : List (List Str)) (kvs : List (Key × V)) (v4 v5 v6 v7 v8 v9 : Option V), σ' = [some (.ref ca), some (.int st), some (.ref ti), some (.ref ed), v4, v5, v6, v7, v8, v9] ∧ Ex H H' ∧ H' ti = some (.lst (ts.map V.str)) ∧ H' ed = some (.dK kvs) ∧ Grp H' ti i ts es kvs) ?_ ?_ ?_ ?_
    · intro H3 e3
      exact ⟨[], [], [], _, _, _, _, _, _, rfl, e02.trans e3, e3 _ _ ati2, e3 _ _ atd, rfl, EM.Sch.nil, fun j x h => by simp at h, fun j x h => by simp at h, Nat.le_refl _, fun l hl => nomatch hl⟩
    · rintro i σ' H' _ ⟨ts, es, kvs, v4, v5, v6, v7, v8, v9, rfl, e, _⟩
      exact ex_l e hS
    · rintro i x σ' H3 Tt hi ⟨ts, es, kvs, v4, v5, v6, v7, v8, v9, rfl, e3, ati3, atd3, g⟩ nT
      have hin : i < ns.length := by
        have := (List.getElem?_eq_some_iff.mp hi).1
        simpa using this
      obtain ⟨c, rfl⟩ : ∃ c, x = V.int c := by
        rw [List.getElem?_map] at hi
        cases q : ns[i]? with
        | none => rw [q] at hi; cases hi
        | some c => rw [q] at hi; exact ⟨c, (Option.some.inj hi).symm⟩
      have eT : Ex H3 (upd H3 Tt (.tup [.int (i : Nat), .int c])) := Ex.new nT
      show tSeq _ _ _ _ _
      generalize upd H3 Tt (.tup [V.int (i : Nat), V.int c]) = H4 at eT
      -- tap = _law_tap(cell + k + start)
      refine q_callA (ea_cons (ev_op (ev_op (ev_var rfl) (ev_var rfl) rv_I0) (ev_var rfl) rv_I0) ea_nil) fun H5 e5 => ⟨_, rfl, fun tp H6 np e6 t6 => ?_⟩
      have e36 := eT.trans (e5.trans e6)
      have e35 := eT.trans e5
      have tpti : ti ≠ tp := fun z => by rw [← z, e35 _ _ ati3] at np; cases np
      have tped : ed ≠ tp := fun z => by rw [← z, e35 _ _ atd3] at np; cases np
      have nH3 : H3 tp = none := fresh_back e35 np
      -- fresh
      have hm1 : ((i : Nat) : Int) % 8 = ((i % 8 : Nat) : Int) := by omega
      have hm2 : ((i : Nat) : Int) / 8 = ((i / 8 : Nat) : Int) := by omega
      refine q_asgD (tp := tp) (P := fun v => ∃ x : Str, v = .str x ∧ Fr i x) t6 (dr_op (P1 := fun v => ∃ (x : Str), v = .str x ∧ (∃ pre, x.cps.toList = pre ++ [65 + i % 8] ∧ ∀ c ∈ pre, c < 0x110000) ∧ x.length ≤ 100) (P2 := fun v => v = .str ⟨#[107 + i / 8]⟩) (dr_op (dr_slTo (N := 7) (by decide +kernel) (dr_draw 7 (by decide) rfl hide_at (dr_c.imp fun v hv => ⟨7, hv, by decide, by decide⟩))) (P2 := fun v => v = .str ⟨#[65 + i % 8]⟩) (dr_ev (ev_op ev_c (ev_op (ev_var rfl) ev_c (rv_I (by decide))) (ixS (by decide +kernel) hm1 (abc _ (by omega))))) ?_) (dr_ev (ev_op ev_c (ev_op (ev_var rfl) ev_c (rv_I ⟨by decide, by decide⟩)) (ixS (by decide +kernel) hm2 (kl _ (by omega))))) ?_) ?_
      · rintro x y ⟨z, rfl, hzc, hzl⟩ rfl
        have hk7 : (Str.ofString "kindsof").length = 7 := by decide +kernel
        have h1 : (⟨#[65 + i % 8]⟩ : Str).length = 1 := rfl
        refine ⟨_, ⟨_, rfl, ⟨z.cps.toList, by rw [PyProof.Rows.cps_toList_append], fun c hc => kinds_ok c (hzc c hc)⟩, ?_⟩, rv_addS ?_⟩
        · rw [Str.length_append]
          omega
        · omega
      · rintro x y ⟨z, rfl, ⟨pre, hpre, hpc⟩, hzl⟩ rfl
        have h1 : (⟨#[107 + i / 8]⟩ : Str).length = 1 := rfl
        have hc : (z ++ ⟨#[107 + i / 8]⟩ : Str).cps.toList = pre ++ [65 + i % 8, 107 + i / 8] := by
          rw [PyProof.Rows.cps_toList_append, hpre, List.append_assoc]
          rfl
        refine ⟨_, ⟨_, rfl, strOk_of fun c hcm => ?_, pre, hc⟩, rv_addS (by omega)⟩
        rw [hc] at hcm
        rcases List.mem_append.mp hcm with q | q
        · exact hpc c q
        · simp at q
          omega
      · rintro v H7 e7 t7 ⟨x, rfl, hfr⟩
        have ati7 := e7 _ _ (hide_get (e36 _ _ ati3) tpti)
        have atd7 := e7 _ _ (hide_get (e36 _ _ atd3) tped)
        -- _law_more(tap, titles, elders, fresh)
        refine s_callD (ea_cons (ev_var rfl) (ea_cons (ev_var rfl) (ea_cons (ev_var rfl) (ea_cons (ev_var rfl) ea_nil)))) fun H8 e8 => ?_
        have hgl := g.len
        have hgk := g.kz
        refine ⟨tp, ti, ed, x, ts, kvs, rfl, t7.mono e8, e8 _ _ ati7, e8 _ _ atd7, tpti, g.oks, by omega, by omega, fun sm p H9 hsub hsl np9 at9 ati9 atd9 t9 keep => ?_⟩
        have hkeep : ∀ a o, a ≠ tp → a ≠ ti → a ≠ ed → H3 a = some o → H9 a = some o := fun a o h1 h2 h3 h => keep a o h1 h2 h3 (e8 _ _ (e7 _ _ (hide_get (e36 _ _ h) h1)))
        refine ⟨ts ++ [x], es ++ [sm], _, _, _, _, _, _, _, rfl, fun a o h => ?_, ati9, atd9, g.new hfr hsub hsl (fun z => ?_) at9 fun q l hq h => ?_⟩
        · refine hkeep a o (fun z => ?_) (fun z => ?_) (fun z => ?_) (e3 _ _ h)
          · rw [← z, e3 _ _ h] at nH3
            cases nH3
          · rw [← z, h] at nti
            cases nti
          · rw [← z, h] at hed
            cases hed
        · rw [z, e8 _ _ ati7] at np9
          cases np9
        · refine hkeep q _ (fun z => ?_) hq (ne_of h atd3 (by intro z; cases z)) h
          rw [← z, h] at nH3
          cases nH3
    · rintro σ' H3 ⟨ts, es, kvs, v4, v5, v6, v7, v8, v9, rfl, e3, ati3, atd3, g⟩
      -- told = {}
      refine fun td ntd => ?_
      have ex4 : Ex H3 (upd H3 td (.dK [])) := Ex.new ntd
      have at4 : upd H3 td (.dK []) td = some (.dK []) := upd_same
      show tSeq _ _ _ _ _
      generalize upd H3 td (.dK []) = H4 at ex4 at4
      have htdti : ti ≠ td := fun z => by rw [← z, ati3] at ntd; cases ntd
      have htded : ed ≠ td := fun z => by rw [← z, atd3] at ntd; cases ntd
      have eB : Ex H3 (hide td H4) := ex_hide ex4 ntd
      have S := g.sch
      have hgl := g.len
      have hl' : ts.length = ns.length := by
        rw [hgl]
        simp
      generalize hO : EM.O (EM.EF ts es) (EM.rk ts) = O
      have hOq : ∀ x, O x = EM.orderBy x (EM.EF ts es x) O := fun x => by rw [← hO]; exact EM.O_eq (EM.EF_rank S) x
      have hOk : ∀ x ∈ ts, OksO (O x) ∧ ∀ l, O x = some l → l.length ≤ 100 := fun x hx => by
        rw [← hO]
        refine ⟨fun l hl y hy => g.oks y ((EM.O_has (U := ts) (EM.EF_rank S) (fun t _ => EM.EF_sub S t) _ x (Nat.le_refl _) hx l hl).2 y hy).1, fun l hl => ?_⟩
        have := EM.O_len (U := ts) (EM.EF_rank S) (fun t _ => EM.EF_sub S t) hx hl
        omega
      have hEz : ∀ x, (EM.EF ts es x).length ≤ 50 := fun x => by
        unfold EM.EF
        rw [List.getD_eq_getElem?_getD]
        cases hq : es[EM.rk ts x]? with
        | none => simp
        | some l =>
          have := g.ez l (List.mem_of_getElem? hq)
          simp
          omega
      have hE3 : Eld K H3 kvs (EM.EF ts es) ts := ⟨fun x hx => by
        obtain ⟨j, hj, e⟩ := List.getElem_of_mem hx
        have hjx : ts[j]? = some x := by rw [List.getElem?_eq_getElem hj, e]
        obtain ⟨p, l, a, _, c, d⟩ := g.at_ j x hjx
        rw [EM.EF_at S hjx a]
        exact ⟨p, c, d⟩, fun x _ => EM.EF_sub S x⟩
      refine q_forLn (K := K) (ev_var rfl) (sq_of (ex4 _ _ ati3)) (fun j σ' H' => ∃ (tkvs : List (Key × V)) (v9 : Option V), σ' = [some (.ref ca), some (.int st), some (.ref ti), some (.ref ed), v4, v5, v6, v7, some (.ref td), v9] ∧ Ex (hide td H4) H' ∧ H' td = some (.dK tkvs) ∧ tkvs.length ≤ j ∧
        ∀ (n : Nat) x, n < j → ts[n]? = some x → ∃ v, valV tkvs (Sum.inr x) = some v ∧ ValO K (hide td H') v (O x)) ?_ ?_ ?_ ?_
      · intro H5 e5
        exact ⟨[], _, rfl, hide_ex.trans e5, e5 _ _ at4, Nat.le_refl _, fun n x h => absurd h (by omega)⟩
      · rintro j σ' H5 _ ⟨_, _, rfl, e5, _⟩
        exact sq_of (e5 _ _ (eB _ _ ati3))
      · rintro j x σ' H5 hj ⟨tkvs, v9, rfl, e5, at5, htz, hvals⟩
        rw [List.getElem?_map] at hj
        cases hjx : ts[j]? with
        | none => rw [hjx] at hj; cases hj
        | some t =>
          rw [hjx] at hj
          cases hj
          have htm : t ∈ ts := List.mem_of_getElem? hjx
          have hjl : j < ts.length := (List.getElem?_eq_some_iff.mp hjx).1
          have e35 : Ex H3 H5 := eB.trans e5
          -- told[title] = order_of(elders, title)
          refine q_dputG (d := td) (k := Sum.inr t) (fun v H6 => Ex H5 H6 ∧ match O t with
            | none => v = .non
            | some l => ∃ p, v = .ref p ∧ H5 p = none ∧ H6 p = some (.lst (l.map V.str))) (fun Q' q' => ?_) fun v H6 hG => ?_
          · refine call_raw (ea_cons (ev_var rfl) (ea_cons (ev_var rfl) ea_nil)) fun H6 e6 => ?_
            have hrk := EM.rk_le ts t
            refine ⟨ed, t, kvs, EM.EF ts es, ts, EM.rk ts, rfl, .inl ((e35.trans e6) _ _ atd3), hE3.mono (e35.trans e6), htm, by omega, g.oks, hEz, EM.EF_rank S, by omega, ?_⟩
            rw [hO]
            cases hOt : O t with
            | none => exact fun H7 e7 => q' _ _ ⟨e6.trans e7, by rw [hOt]⟩
            | some l => exact fun p H7 np e7 h7 => q' _ _ ⟨e6.trans e7, by rw [hOt]; exact ⟨p, rfl, fresh_back e6 np, h7⟩⟩
          · obtain ⟨e6, hv⟩ := hG
            refine ⟨tkvs, e6 _ _ at5, by omega, ev_var rfl, ev_var rfl, fun H7 e7 => ?_⟩
            have e57 := e6.trans e7
            have hB : Ex (hide td H4) (upd H7 td (.dK (putK tkvs (Sum.inr t) v))) := Ex.mut (e5.trans e57) hide_at
            have hat8 : upd H7 td (.dK (putK tkvs (Sum.inr t) v)) td = some (.dK (putK tkvs (Sum.inr t) v)) := upd_same
            have hvt : ValO K (hide td (upd H7 td (.dK (putK tkvs (Sum.inr t) v)))) v (O t) := by
              rw [hide_upd]
              cases hOt : O t with
              | none => rw [hOt] at hv; exact hv
              | some l =>
                rw [hOt] at hv
                obtain ⟨p, rfl, np, hp⟩ := hv
                refine ⟨p, rfl, sq_of (hide_get (e7 _ _ hp) fun z => ?_)⟩
                rw [z, at5] at np
                cases np
            have hvals8 : ∀ (n : Nat) x, n < j + 1 → ts[n]? = some x → ∃ v', valV (putK tkvs (Sum.inr t) v) (Sum.inr x) = some v' ∧ ValO K (hide td (upd H7 td (.dK (putK tkvs (Sum.inr t) v)))) v' (O x) := fun n x hn hx => by
              rw [valV_put]
              by_cases hxt : x = t
              · subst hxt
                exact ⟨v, by rw [if_pos rfl], hvt⟩
              · rw [if_neg (fun z => hxt (Sum.inr.inj z))]
                have hnj : n < j := by
                  have : n ≠ j := fun z => hxt (by rw [z, hjx] at hx; exact (Option.some.inj hx).symm)
                  omega
                obtain ⟨v', h1, h2⟩ := hvals n x hnj hx
                rw [hide_upd]
                exact ⟨v', h1, h2.mono (hide_mono e57)⟩
            have hpz := length_putK tkvs (Sum.inr t : Key) v
            generalize upd H7 td (.dK (putK tkvs (Sum.inr t) v)) = H8 at hB hat8 hvt hvals8
            -- if told[title] != _law_walk(..)
            have e38 : Ex H3 H8 := eB.trans hB
            obtain ⟨pt, hpt1, hpt2⟩ := (hE3.mono e38).at_ t htm
            have hvt8 : ∀ H9, Ex H8 H9 → ValO K H9 v (O t) := fun H9 e9 => hvt.mono (hide_ex.trans e9)
            have hsh := shaped_dO (hOk t htm).1
            refine if_raw (op_raw ?_)
            refine ev_dget (k := Sum.inr t) (v := v) (ev_var rfl) (ev_var rfl) (.inl hat8) (by rw [valV_put, if_pos rfl]) H8 (Ex.refl H8) _ fun H9 e9 => ?_
            refine call_raw (ea_cons (ev_var rfl) (ea_cons (ev_dget (k := Sum.inr t) (ev_var rfl) (ev_var rfl) (.inl ((e38.trans e9) _ _ atd3)) hpt1) (ea_cons (ev_var rfl) ea_nil))) fun H10 e10 => ?_
            refine ⟨t, pt, td, EM.EF ts es t, _, O, rfl, (e9.trans e10) _ _ hpt2, .inl ((e9.trans e10) _ _ hat8), hEz t, fun y hy => g.oks y (EM.EF_sub S t y hy), fun y hy => ?_, fun y hy => hOk y (EM.EF_sub S t y hy), ?_⟩
            · have h1 := EM.EF_rank S t y hy
              rw [EM.rk_at S.nd hjx] at h1
              have hym := EM.EF_sub S t y hy
              obtain ⟨n, hn, en⟩ := List.getElem_of_mem hym
              have hny : ts[n]? = some y := by rw [List.getElem?_eq_getElem hn, en]
              rw [EM.rk_at S.nd hny] at h1
              obtain ⟨v', a, b⟩ := hvals8 n y (by omega) hny
              exact ⟨v', a, b.mono (hide_ex.trans (e9.trans e10))⟩
            · rw [← hOq t]
              have e810 := e9.trans e10
              have fin : ∀ (v2 : V) (H11 : Hp) (Q2 : VK), Ex H10 H11 → ValO K H11 v2 (O t) → Q2 (.bl false) H11 → rNeD K v v2 H11 Q2 := fun v2 H11 Q2 e11 hv2 q2 => by
                refine ⟨dO (O t), dO (O t), dp_O (hvt8 H11 (e810.trans e11)), dp_O hv2, hsh, hsh, ?_⟩
                rw [eqv_dO]
                simpa using q2
              have fin2 : ∀ H11, Ex H10 H11 → Ex (hide td H4) H11 ∧ H11 td = some (.dK (putK tkvs (Sum.inr t) v)) ∧ (putK tkvs (Sum.inr t) v).length ≤ j + 1 ∧ ∀ (n : Nat) x, n < j + 1 → ts[n]? = some x → ∃ v', valV (putK tkvs (Sum.inr t) v) (Sum.inr x) = some v' ∧ ValO K (hide td H11) v' (O x) := fun H11 e11 => ⟨hB.trans (e810.trans e11), (e810.trans e11) _ _ hat8, by omega, fun n x hn hx => by
                obtain ⟨v', a, b⟩ := hvals8 n x hn hx
                exact ⟨v', a, b.mono (hide_mono (e810.trans e11))⟩⟩
              cases hOt : O t with
              | none =>
                rw [hOt] at fin
                exact fun H11 e11 => fin .non H11 _ e11 rfl ⟨false, rfl, iteF ⟨_, _, rfl, fin2 H11 e11⟩⟩
              | some l =>
                rw [hOt] at fin
                exact fun p H11 np e11 h11 => fin (.ref p) H11 _ e11 ⟨p, rfl, sq_of h11⟩ ⟨false, rfl, iteF ⟨_, _, rfl, fin2 H11 e11⟩⟩
      · rintro σ' H5 ⟨tkvs, v9, rfl, e5, _⟩
        exact s_ret ev_c fun H6 e6 => k.go (e3.trans (eB.trans (e5.trans e6)))
end
end K

set_option Elab.async false
set_option linter.all false
set_option maxRecDepth 100000
namespace K
open PySem L2 Evl EX
def tt (i : Nat) : Str := ⟨#[97 + i / 8]⟩ ++ ⟨#[115 + i % 8]⟩
def tts : List Str := (List.range 40).map tt
theorem tts_nd : tts.Nodup := by decide +kernel
theorem tts_ok : Oks tts := by
  have : tts.all PyData.strOk = true := by decide +kernel
  exact List.all_eq_true.mp this
theorem tts_len : tts.length = 40 := by simp [tts]
theorem tts_at {k : Nat} (h : k < 40) : tts[k]? = some (tt k) := by
  unfold tts
  rw [List.getElem?_map, List.getElem?_range h]
  rfl
theorem tts_inj {k j : Nat} (h : k < 40) (h' : j < 40) (e : tt k = tt j) : k = j := nd_ix tts_nd (tts_at h) (by rw [e]; exact tts_at h')
theorem s8 (m : Nat) (h : m < 8) : (Str.ofString "stuvwxyz").cps.toList[m]? = some (115 + m) := by
  have : ∀ m, m < 8 → (Str.ofString "stuvwxyz").cps.toList[m]? = some (115 + m) := by decide +kernel
  exact this m h
theorem a8 (m : Nat) (h : m < 8) : (Str.ofString "abcdefgh").cps.toList[m]? = some (97 + m) := by
  have : ∀ m, m < 8 → (Str.ofString "abcdefgh").cps.toList[m]? = some (97 + m) := by decide +kernel
  exact this m h
theorem mergeK_new : ∀ (more acc : List (Key × V)), ((acc ++ more).map (·.1)).Nodup → mergeK acc more = acc ++ more
  | [], acc, _ => by simp [mergeK]
  | kv :: more, acc, h => by
    have hn : valV acc kv.1 = none := by
      cases hv : valV acc kv.1 with
      | none => rfl
      | some v =>
        have h1 := valV_in hv
        rw [List.map_append, List.nodup_append] at h
        exact absurd rfl (h.2.2 _ h1 _ (by simp))
    show mergeK (putK acc kv.1 kv.2) more = _
    rw [putK_new _ hn, mergeK_new more (acc ++ [(kv.1, kv.2)]) (by simpa using h)]
    simp
theorem valV_at {kvs : List (Key × V)} : ∀ {n : Nat} {k : Key} {v : V}, (kvs.map (·.1)).Nodup → kvs[n]? = some (k, v) → valV kvs k = some v := by
  induction kvs with
  | nil => intro n k v _ h; simp at h
  | cons p kvs ih =>
    intro n k v nd h
    cases n with
    | zero =>
      simp at h
      subst h
      exact valV_pos rfl
    | succ n =>
      have h' : kvs[n]? = some (k, v) := by simpa using h
      have hm : k ∈ kvs.map (·.1) := List.mem_map.mpr ⟨(k, v), List.mem_of_getElem? h', rfl⟩
      have hpk : ¬ p.1 = k := fun z => (List.nodup_cons.mp nd).1 (by rw [← z] at hm; exact hm)
      rw [valV_neg hpk]
      exact ih (List.nodup_cons.mp nd).2 h'
theorem paired_of {α β : Type} {F : α → β → Prop} : ∀ {ps : List α} {qs : List β}, ps.length = qs.length → (∀ (n : Nat) p q, ps[n]? = some p → qs[n]? = some q → F p q) → Paired F ps qs
  | [], [], _, _ => .nil
  | p :: ps, q :: qs, hl, h => .cons (h 0 p q rfl rfl) (paired_of (by simpa using hl) fun n a b ha hb => h (n + 1) a b (by simpa using ha) (by simpa using hb))
  | [], _ :: _, hl, _ => by simp at hl
  | _ :: _, [], hl, _ => by simp at hl
theorem nodup_map_on {α β : Type} {f : α → β} : ∀ {l : List α}, (∀ a ∈ l, ∀ b ∈ l, f a = f b → a = b) → l.Nodup → (l.map f).Nodup
  | [], _, _ => List.nodup_nil
  | a :: l, h, nd => by
    rw [List.map_cons, List.nodup_cons]
    refine ⟨fun q => ?_, nodup_map_on (fun x hx y hy => h x (List.mem_cons_of_mem _ hx) y (List.mem_cons_of_mem _ hy)) (List.nodup_cons.mp nd).2⟩
    obtain ⟨b, hb, e⟩ := List.mem_map.mp q
    have := h b (List.mem_cons_of_mem _ hb) a List.mem_cons_self e
    rw [this] at hb
    exact (List.nodup_cons.mp nd).1 hb
/-- the elders that the k-th title begins with -/
def bas (k : Nat) : List Str := if k = 0 then [] else [tt (k - 1)]
theorem cut_bas {k : Nat} (h : k < 40) : cutV (tts.map V.str) (some ((k - 1 : Nat) : Int)) (some ((k : Nat) : Int)) = (bas k).map V.str := by
  unfold cutV
  rw [HT.sIx_nat, HT.sIx_nat, List.length_map, tts_len, Nat.min_eq_left (by omega), Nat.min_eq_left (by omega)]
  unfold bas
  by_cases h0 : k = 0
  · subst h0
    simp
  · rw [if_neg h0, show k - (k - 1) = 1 by omega, ← List.map_drop, ← List.map_take]
    congr 1
    have := tts_at (k := k - 1) (by omega)
    have hl := tts_len
    rw [List.drop_eq_getElem_cons (by omega)]
    rw [List.getElem?_eq_getElem (by omega)] at this
    rw [Option.some.inj this]
    rfl
theorem ret_raw {σ : L2.St} {H : Hp} {te : TE} {D : Ends} (h : te σ H D.rt) : tRet te D σ H := h
theorem yes_raw {σ : L2.St} {H : Hp} {te : TE} {R : V → Hp → Prop} {S : Hp → Prop} (h : te σ H R) : tYes σ H fun b H3 => if b = true then te σ H3 (fun y H4 => R y H4) else S H3 := by
  show (if true = true then te σ H (fun y H4 => R y H4) else S H)
  rw [if_pos rfl]
  exact h
/-- the dict of a row of forty, behind i turns -/
structure Lg (B H : Hp) (tp ta ed : Addr) (kvs : List (Key × V)) (i : Nat) (es : List (List Str)) : Prop where
  dict : H ed = some (.dK kvs)
  at_ : ∀ k, k < 40 → ∃ p l, es[k]? = some l ∧ valV kvs (Sum.inr (tt k)) = some (.ref p) ∧ p ≠ tp ∧ p ≠ ta ∧ (p ≠ ed ∧ B p = none) ∧ H p = some (.lst (l.map V.str))
  inj : ∀ k j p, k < 40 → j < 40 → valV kvs (Sum.inr (tt k)) = some (.ref p) → valV kvs (Sum.inr (tt j)) = some (.ref p) → k = j
  len : es.length = 40
  ch : ∀ (k : Nat) l, es[k]? = some l → EM.Chain tts k l
  bs : ∀ (k : Nat) l, i + 3 ≤ k → es[k]? = some l → l = bas k
theorem bas_chain {k : Nat} (h : k < 40) : EM.Chain tts k (bas k) := by
  unfold bas
  by_cases h0 : k = 0
  · rw [if_pos h0]
    exact .inl ⟨h0, rfl⟩
  · rw [if_neg h0]
    exact .inr ⟨tt (k - 1), by omega, tts_at (by omega), .inl rfl⟩
section
variable {P : Program} {w : World} {K : PySem.W.Frag} {mg : Str → Option Value} {base : Heap}
def spLong : Sp := fun vs H Q _ => ∃ tp : Addr, vs = [.ref tp] ∧ Tap H tp ∧ ∀ H', Ex (hide tp H) H' → Tap H' tp → Q (.bl true) H'
theorem ok_long {f : Addr} {fd : FuncData} (F : Fun K "_law_long_right" "_law_long_right" s__law_long_right f fd) (T : Txt mg) (G__law_next : Def P w K mg base 2 "_law_next" ["_law_tap_here", "_law_size"] spDraw) (G_order_of : Def P w K mg base 4 "order_of" ["elders", "title"] (spOrderOf K)) :
    FnOk P w K mg base CX0 5 f fd ["_law_tap_here"] spLong := by
  refine F.ok sc__law_long_right (fun vs H Q E h => ?_) (fun cdv A outer s H vs Q E hr h => ?_)
  · obtain ⟨tp, rfl, _⟩ := h
    rfl
  · obtain ⟨tp, rfl, hT, k⟩ := h
    have hu := hu_of hr
    refine ⟨_, pss_cons (ps_set (i := 1) sc__law_long_right.nd rfl (Or.inr rfl) (pe_lc (own := [("_law_k", 3)]) (g := gName 3) (tt := tYes) rfl sc__law_long_right.nd (pi_range1 (by rfl) T.range (pa_cons (pe_int) pa_nil)) (blkOk_by (N := N__law_long_right) (sc := defScope s__law_long_right) (by decide +kernel)) (fun _ _ _ _ _ => pg_name (i := 3) sc__law_long_right.nd rfl (Or.inl rfl)) (fun _ _ _ _ _ => pts_nil) (fun _ _ _ _ _ => pe_op op_add_str (pe_ix ix_str (pe_str) (pe_op op_fdiv (pv 3) (pe_int)) (fun _ _ => rfl)) (pe_ix ix_str (pe_str) (pe_op op_mod (pv 3) (pe_int)) (fun _ _ => rfl)))))
      (pss_cons (ps_set (i := 2) sc__law_long_right.nd rfl (Or.inl rfl) (pe_lst (pa_nil)))
      (pss_cons (ps_for PassesOwn.never rfl (pi_range1 (by rfl) T.range (pa_cons (pe_int) pa_nil)) (pg_name (i := 3) sc__law_long_right.nd rfl (Or.inl rfl))
        (pss_one (ps_expr (peBm (K := K) PySem.F.plainAttrs_list PySem.F.slot_list_insert PySem.F.type_list_insert mt_insert (pv 2) (pa_cons (pe_def G__law_next (hr.mono (by decide)) (by rfl) (pa_cons (pv 0) (pa_cons (pe_op op_add (pv 3) (pe_int)) pa_nil))) (pa_cons (pv 3) pa_nil))))))
      (pss_cons (ps_set (i := 4) sc__law_long_right.nd rfl (Or.inl rfl) (pe_callTy (clDictP (K := K)) (by rfl) T.dict (by decide +kernel) (pa_cons (pe_lc (own := [("_law_k", 3)]) (g := gName 3) (tt := tYes) rfl sc__law_long_right.nd (piL (K := K) (pv 2)) (blkOk_by (N := N__law_long_right) (sc := defScope s__law_long_right) (by decide +kernel)) (fun _ _ _ _ _ => pg_name (i := 3) sc__law_long_right.nd rfl (Or.inl rfl)) (fun _ _ _ _ _ => pts_nil) (fun _ _ _ _ _ => pe_tup (pa_cons (pe_ix (ixL (K := K)) (pv 1) (pv 3) (fun _ _ => rfl)) (pa_cons (pe_slice (slL (K := K)) (pv 1) (po_some (pe_callB (call_max2 rfl) (by rfl) T.max (by decide +kernel) (pa_cons (pe_int) (pa_cons (pe_op op_sub (pv 3) (pe_int)) pa_nil)))) (po_some (pv 3))) pa_nil)))) pa_nil)))
      (pss_cons (ps_for PassesOwn.never rfl (pi_range2 (by rfl) T.range (pa_cons (pe_int) (pa_cons (pe_int) pa_nil))) (pg_name (i := 3) sc__law_long_right.nd rfl (Or.inl rfl))
        (pss_one (ps_if (pt_cmpR op_eq (pe_def G__law_next (hr.mono (by decide)) (by rfl) (pa_cons (pv 0) (pa_cons (pe_int) pa_nil))) (pe_int) (nomark _))
          (pss_one (ps_expr (peBm (K := K) PySem.F.plainAttrs_list PySem.F.slot_list_append PySem.F.type_list_append mt_append (pe_dget hu (pv 4) (pe_ix (ixL (K := K)) (pv 1) (pv 3) (fun _ _ => rfl)) (fun _ _ => rfl)) (pa_cons (pe_ix (ixL (K := K)) (pv 1) (pe_def G__law_next (hr.mono (by decide)) (by rfl) (pa_cons (pv 0) (pa_cons (pe_int) pa_nil))) (fun _ _ => rfl)) pa_nil))))
          (pss_nil))))
      (pss_one (ps_ret (pe_cmpR (opEqD (K := K) hr.units) (pe_def G_order_of (hr.mono (by decide)) (by rfl) (pa_cons (pv 4) (pa_cons (pe_ix (ixL (K := K)) (pv 1) (pe_int) (fun _ _ => rfl)) pa_nil))) (peListRev (K := K) rfl (by rfl) T.list (by rfl) T.reversed (pv 1)) (nomark _)))))))), ?_⟩
    -- titles
    refine q_asgL (xs := tts.map V.str) ?_ fun ta H1 nta e1 ata => ?_
    · rw [show tts.map V.str = given (40 : Int).toNat (fun _ => true) (fun i => V.str (tt i)) by
        unfold tts
        rw [List.map_map]
        rfl]
      refine el_lcR1 (fun _ => true) _ (ea_cons ev_c ea_nil) (by decide) (fun x => rfl) (fun i H1 e1 hi => ?_) (fun i H1 e1 hi _ => ?_)
      · exact fun H2 _ Q q => q H2 (Ex.refl H2)
      · refine ev_op (ev_op ev_c (ev_op (ev_var rfl) ev_c (rv_I ⟨by decide, by decide⟩)) (ixS (j := i / 8) (c := 97 + i / 8) (by decide +kernel) (by omega) (a8 _ (by omega)))) (ev_op ev_c (ev_op (ev_var rfl) ev_c (rv_I (by decide))) (ixS (j := i % 8) (c := 115 + i % 8) (by decide +kernel) (by omega) (s8 _ (by omega)))) (rv_addS (by show 1 + 1 ≤ 100000; decide))
    refine q_asgL el_nil fun oa H2 noa e2 ato => ?_
    have e02 := e1.trans e2
    have hoata : oa ≠ ta := fun z => by rw [z, ata] at noa; cases noa
    have noaH : H oa = none := fresh_back e1 noa
    have htao : ta ≠ tp := by
      obtain ⟨a, b, c, d, hT⟩ := hT
      exact fun z => by rw [z, hT] at nta; cases nta
    have hoatp : oa ≠ tp := by
      obtain ⟨a, b, c, d, hT⟩ := hT
      exact fun z => by rw [z, hT] at noaH; cases noaH
    -- order
    refine q_forR1 (n := 40) (ea_cons ev_c ea_nil) (by decide) (fun i σ' H' => ∃ (od : List Nat) (v3 v4 : Option V), σ' = [some (.ref tp), some (.ref ta), some (.ref oa), v3, v4] ∧ Tap H' tp ∧ Ex (hide tp H) H' ∧ H' ta = some (.lst (tts.map V.str)) ∧ H' oa = some (.lst (od.map fun k => V.int (k : Nat))) ∧ od.Perm (List.range i)) ?_ ?_ ?_
    · intro H3 e3
      exact ⟨[], _, _, rfl, hT.mono (e02.trans e3), hide_ex.trans (e02.trans e3), (e2.trans e3) _ _ ata, e3 _ _ ato, List.Perm.refl _⟩
    · rintro i σ' H3 hi ⟨od, v3, v4, rfl, t3, e3, ata3, ato3, hp⟩
      have hlen : od.length = i := by rw [hp.length_eq, List.length_range]
      refine ⟨_, rfl, Or.inl ⟨rfl, _, sq_of ato3⟩, ?_⟩
      refine dr_draw (tp := tp) (j := 0) ((i : Int) + 1) (by omega) rfl hide_at ((dr_ev (ev_op (ev_var rfl) ev_c rv_I0)).imp fun v hv => ⟨_, hv, by omega, by omega⟩) H3 hide_ex t3 _ fun v H4 e4 t4 hv => ?_
      obtain ⟨r, rfl, r0, r1⟩ := hv
      have ato4 := e4 _ _ (hide_get ato3 hoatp)
      refine ⟨_, rfl, oa, _, r, _, rfl, rfl, ato4, by rw [List.length_map]; exact sz_lt (by omega), r0, by omega, ?_⟩
      have noB : hide tp H oa = none := by rw [hide_ne hoatp]; exact noaH
      refine ⟨od.take r.toNat ++ [i] ++ od.drop r.toNat, _, _, rfl, ?_, Ex.mut ((ex_hide e3 hide_at).trans e4) noB, ?_, ?_, ?_⟩
      · obtain ⟨a, b, c, d, ht⟩ := t4
        exact ⟨a, b, c, d, by rw [upd_ne (Ne.symm hoatp)]; exact ht⟩
      · rw [upd_ne (Ne.symm hoata)]
        exact e4 _ _ (hide_get ata3 htao)
      · rw [upd_same]
        simp
      · rw [List.range_succ]
        refine List.Perm.trans ?_ (hp.append_right [i])
        have h1 : (od.take r.toNat ++ [i] ++ od.drop r.toNat).Perm (od.take r.toNat ++ od.drop r.toNat ++ [i]) := by
          rw [List.append_assoc, List.append_assoc]
          exact List.Perm.append_left _ List.perm_append_comm
        rwa [List.take_append_drop] at h1
    · rintro σ' H3 ⟨od, v3, v4, rfl, t3, e3, ata3, ato3, hp⟩
      have hodl : od.length = 40 := by rw [hp.length_eq, List.length_range]; rfl
      have hodn : od.Nodup := hp.nodup_iff.mpr List.nodup_range
      have hodm : ∀ k, k ∈ od ↔ k < 40 := fun k => by rw [hp.mem_iff, List.mem_range]; rfl
      have exH : Ex (hide tp H) H3 := e3
      -- elders = dict([..])
      refine q_raw ⟨_, rfl, oa, rfl, ⟨_, sq_of ato3⟩, fun Dl nD => ?_⟩
      refine lc_list (K := K) (a := oa) (xs := od.map fun k => V.int (k : Nat)) (fun i H' => ∃ as : List (Addr × Addr), as.length = i ∧ Ex H3 H' ∧ H' Dl = some (.lst (as.map fun a => V.ref a.1)) ∧ (as.map (·.2)).Nodup ∧ (∀ a ∈ as, H3 a.2 = none) ∧
        ∀ (n : Nat) Tt p, as[n]? = some (Tt, p) → ∃ k, od[n]? = some k ∧ Tt ≠ Dl ∧ p ≠ Dl ∧ H' Tt = some (.tup [.str (tt k), .ref p]) ∧ H' p = some (.lst ((bas k).map V.str))) ?_ ?_ ?_ ?_
      · exact ⟨[], rfl, Ex.new nD, upd_same, List.nodup_nil, (fun a ha => nomatch ha), fun n Tt p h => by simp at h⟩
      · rintro i H' _ ⟨as, _, e, _⟩
        exact sq_of (e _ _ ato3)
      · rintro i x H4 hi ⟨as, hal, e4, atD, hnd, hnew, hat⟩
        rw [List.getElem?_map] at hi
        cases hk : od[i]? with
        | none => rw [hk] at hi; cases hi
        | some kk =>
          rw [hk] at hi
          cases hi
          have hk40 : kk < 40 := (hodm kk).mp (List.mem_of_getElem? hk)
          have hi40 : i < 40 := by rw [← hodl]; exact (List.getElem?_eq_some_iff.mp hk).1
          refine ⟨rfl, yes_raw ?_⟩
          refine ev_op (ev_var rfl) (ev_var rfl) (rv_ixL (K := K) (v := .str (tt kk)) (sq_of (e4 _ _ ata3)) (atI_nat (by rw [List.getElem?_map, tts_at hk40]; rfl))) H4 (Ex.refl H4) _ fun H5 e5 => ?_
          have hcut := el_sl (K := K) (ev_var (σ := [some (V.ref tp), some (V.ref ta), some (V.ref oa), some (V.int (kk : Nat)), v4]) (i := 1) rfl) (eo_some (i := ((kk - 1 : Nat) : Int)) (te := tCB rMax2 (tCons (tC (V.int 0)) (tCons (tOp (rI0 fun i j => V.int (i - j)) (tVar 3) (tC (V.int 1))) tNil))) (ev_is (ev_max2 ev_c (ev_op (ev_var rfl) ev_c rv_I0)) (by
            congr 1
            split <;> omega))) (eo_some (i := ((kk : Nat) : Int)) (ev_var (i := 3) rfl)) (sq_of ((e4.trans e5) _ _ ata3))
          rw [cut_bas hk40] at hcut
          refine hcut H5 (Ex.refl H5) _ fun p H6 np e6 at6 => ?_
          refine ⟨by simp [sizeLine], fun Tt nT => ?_⟩
          have e7 : Ex H6 (upd H6 Tt (.tup [.str (tt kk), .ref p])) := Ex.new nT
          have at7 : upd H6 Tt (.tup [.str (tt kk), .ref p]) Tt = some (.tup [.str (tt kk), .ref p]) := upd_same
          generalize upd H6 Tt (.tup [.str (tt kk), .ref p]) = H7 at e7 at7
          have e47 := e5.trans (e6.trans e7)
          have np4 : H4 p = none := fresh_back e5 np
          have nT4 : H4 Tt = none := fresh_back (e5.trans e6) nT
          have hpD : p ≠ Dl := fun z => by rw [z, atD] at np4; cases np4
          have hTD : Tt ≠ Dl := fun z => by rw [z, atD] at nT4; cases nT4
          refine ⟨as.map fun a => V.ref a.1, e47 _ _ atD, by rw [List.length_map]; exact sz_lt (by omega), as ++ [(Tt, p)], by simp [hal], Ex.mut (e4.trans e47) nD, ?_, ?_, ?_, ?_⟩
          · rw [upd_same, List.map_append]
            rfl
          · rw [List.map_append]
            refine nodup_snoc hnd fun q => ?_
            obtain ⟨a, ha, hae⟩ := List.mem_map.mp q
            obtain ⟨n, hn, hne⟩ := List.getElem_of_mem ha
            obtain ⟨k', _, _, _, _, hpp⟩ := hat n a.1 a.2 (by rw [List.getElem?_eq_getElem hn, hne])
            rw [hae, np4] at hpp
            cases hpp
          · intro a ha
            rcases List.mem_append.mp ha with q | q
            · exact hnew a q
            · rw [List.mem_singleton.mp q]
              exact fresh_back e4 np4
          · intro n T' p' hn
            by_cases hlt : n < as.length
            · rw [List.getElem?_append_left hlt] at hn
              obtain ⟨k', h1, h2, h3, h4, h5⟩ := hat n T' p' hn
              exact ⟨k', h1, h2, h3, by rw [upd_ne h2]; exact e47 _ _ h4, by rw [upd_ne h3]; exact e47 _ _ h5⟩
            · have hni : n = as.length := by
                have := (List.getElem?_eq_some_iff.mp hn).1
                simp at this
                omega
              subst hni
              rw [List.getElem?_append_right (Nat.le_refl _), Nat.sub_self] at hn
              cases hn
              exact ⟨kk, by rw [hal]; exact hk, hTD, hpD, by rw [upd_ne hTD]; exact at7, by rw [upd_ne hpD]; exact e7 _ _ at6⟩
      · rintro H4 ⟨as, hal, e4, atD, hnd, hnew, hat⟩
        rw [List.length_map, hodl] at hal
        have hzl : (od.zip as).length = 40 := by rw [List.length_zip, hodl, hal]; rfl
        have hkv : ∀ (n : Nat) kk a, od[n]? = some kk → as[n]? = some a → ((od.zip as).map fun x => ((Sum.inr (tt x.1) : Key), V.ref x.2.2))[n]? = some (Sum.inr (tt kk), .ref a.2) := fun n kk a h1 h2 => by
          rw [List.getElem?_map, List.getElem?_zip_eq_some (z := (kk, a)) |>.mpr ⟨h1, h2⟩]
          rfl
        have hkeys : (((od.zip as).map fun x => ((Sum.inr (tt x.1) : Key), V.ref x.2.2)).map (·.1)) = od.map fun kk => (Sum.inr (tt kk) : Key) := by
          have h1 : (od.zip as).map (·.1) = od := List.map_fst_zip (by omega)
          conv => rhs; rw [← h1]
          rw [List.map_map, List.map_map]
          rfl
        have hknd : (((od.zip as).map fun x => ((Sum.inr (tt x.1) : Key), V.ref x.2.2)).map (·.1)).Nodup := by
          rw [hkeys]
          refine nodup_map_on ?_ hodn
          intro a ha b hb h
          exact tts_inj ((hodm a).mp ha) ((hodm b).mp hb) (Sum.inr.inj h)
        generalize hkvs : (od.zip as).map (fun x => ((Sum.inr (tt x.1) : Key), V.ref x.2.2)) = kvs at hkv hkeys hknd
        have hkl : kvs.length = 40 := by rw [← hkvs, List.length_map, hzl]
        refine ⟨Dl, as.map (·.1), kvs, rfl, sq_of (by rw [List.map_map]; exact atD), paired_of (by simp [hal, hkl]) fun n p kv h1 h2 => ?_, fun ed ned => ?_⟩
        · rw [List.getElem?_map] at h1
          cases ha : as[n]? with
          | none => rw [ha] at h1; cases h1
          | some a =>
            rw [ha] at h1
            cases h1
            obtain ⟨kk, k1, _, _, k4, _⟩ := hat n a.1 a.2 ha
            rw [hkv n kk a k1 ha] at h2
            cases h2
            exact st_of k4
        · rw [mergeK_new kvs [] (by simpa using hknd)]
          have ex5 : Ex H4 (upd H4 ed (.dK ([] ++ kvs))) := Ex.new ned
          have at5 : upd H4 ed (.dK ([] ++ kvs)) ed = some (.dK kvs) := upd_same
          show tSeq _ _ _ _ _
          generalize upd H4 ed (.dK ([] ++ kvs)) = H5 at ex5 at5
          have e35 : Ex H3 H5 := e4.trans ex5
          have t5 := t3.mono e35
          have hidx : ∀ kk, kk < 40 → ∃ (n : Nat) (a : Addr × Addr), od[n]? = some kk ∧ as[n]? = some a := fun kk hk => by
            obtain ⟨n, hn, e⟩ := List.getElem_of_mem ((hodm kk).mpr hk)
            exact ⟨n, as[n]'(by omega), by rw [List.getElem?_eq_getElem hn, e], List.getElem?_eq_getElem (by omega)⟩
          have G0 : Lg (hide tp H) H5 tp ta ed kvs 0 ((List.range 40).map bas) := by
            refine ⟨at5, fun kk hk => ?_, fun kk jj p hk hj h1 h2 => ?_, by simp, fun kk l h => ?_, fun kk l _ h => ?_⟩
            · obtain ⟨n, a, h1, h2⟩ := hidx kk hk
              obtain ⟨k', b1, b2, b3, b4, b5⟩ := hat n a.1 a.2 h2
              rw [h1] at b1
              cases b1
              have hn3 := hnew a (List.mem_of_getElem? h2)
              refine ⟨a.2, bas kk, by rw [List.getElem?_map, List.getElem?_range hk]; rfl, valV_at hknd (hkv n kk a h1 h2), fun z => ?_, fun z => ?_, ⟨fun z => ?_, fresh_back exH hn3⟩, ex5 _ _ b5⟩
              · obtain ⟨x1, x2, x3, x4, hx⟩ := t3
                rw [z, hx] at hn3
                cases hn3
              · rw [z, ata3] at hn3
                cases hn3
              · rw [z, ned] at b5
                cases b5
            · obtain ⟨n, a, a1, a2⟩ := hidx kk hk
              obtain ⟨m, b, b1, b2⟩ := hidx jj hj
              rw [valV_at hknd (hkv n kk a a1 a2)] at h1
              rw [valV_at hknd (hkv m jj b b1 b2)] at h2
              cases h1
              have hba : b.2 = a.2 := by
                have := Option.some.inj h2
                exact V.ref.inj this
              have hnm : n = m := nd_ix hnd (x := a.2) (by rw [List.getElem?_map, a2]; rfl) (by rw [List.getElem?_map, b2]; exact congrArg some hba)
              rw [hnm, b1] at a1
              exact (Option.some.inj a1).symm
            · have hk : kk < 40 := by
                have := (List.getElem?_eq_some_iff.mp h).1
                simpa using this
              rw [List.getElem?_map, List.getElem?_range hk] at h
              cases h
              exact bas_chain hk
            · have hk : kk < 40 := by
                have := (List.getElem?_eq_some_iff.mp h).1
                simpa using this
              rw [List.getElem?_map, List.getElem?_range hk] at h
              cases h
              rfl
          have hedta : ta ≠ ed := fun z => by rw [← z, e4 _ _ ata3] at ned; cases ned
          have hedtp : ed ≠ tp := by
            obtain ⟨x1, x2, x3, x4, hx⟩ := t3
            exact fun z => by rw [z, e4 _ _ hx] at ned; cases ned
          have e05 : Ex (hide tp H) H5 := exH.trans e35
          have ata5 := e35 _ _ ata3
          clear hidx hkv hkeys hknd hat hnew hnd atD at5 ex5 ned e35 hzl hkvs e4 hal e3 exH
          -- for k in range(3, 40)
          refine q_forR2 (lo := 3) (n := 40) (ea_cons ev_c (ea_cons ev_c ea_nil)) (by decide) (fun i σ' H' => ∃ (es : List (List Str)) (v3 : Option V), σ' = [some (.ref tp), some (.ref ta), some (.ref oa), v3, some (.ref ed)] ∧ Tap H' tp ∧ Ex (hide tp H) H' ∧ H' ta = some (.lst (tts.map V.str)) ∧ Lg (hide tp H) H' tp ta ed kvs i es) ?_ ?_ ?_
          · intro H6 e6
            refine ⟨_, _, rfl, t5.mono e6, e05.trans e6, e6 _ _ ata5, e6 _ _ G0.dict, fun kk hk => ?_, G0.inj, G0.len, G0.ch, G0.bs⟩
            obtain ⟨p, l, a, b, c, d, d', f⟩ := G0.at_ kk hk
            exact ⟨p, l, a, b, c, d, d', e6 _ _ f⟩
          · rintro i σ' H6 hi ⟨es, v3', rfl, t6, e6, ata6, G⟩
            have hi' : i + 3 < 40 := by omega
            have hk3 : (3 : Int) + (i : Int) = ((i + 3 : Nat) : Int) := by omega
            rw [hk3]
            have skip : ∀ H7, Tap H7 tp → Ex (hide tp H6) H7 → ∃ (es : List (List Str)) (v3 : Option V), [some (V.ref tp), some (.ref ta), some (.ref oa), some (.int ((i + 3 : Nat) : Int)), some (.ref ed)] = [some (.ref tp), some (.ref ta), some (.ref oa), v3, some (.ref ed)] ∧ Tap H7 tp ∧ Ex (hide tp H) H7 ∧ H7 ta = some (.lst (tts.map V.str)) ∧ Lg (hide tp H) H7 tp ta ed kvs (i + 1) es := fun H7 t7 e7 => by
              refine ⟨es, _, rfl, t7, (ex_hide e6 hide_at).trans e7, e7 _ _ (hide_get ata6 htao), e7 _ _ (hide_get G.dict hedtp), fun kk hk => ?_, G.inj, G.len, G.ch, fun kk l h => G.bs kk l (by omega)⟩
              obtain ⟨p, l, a, b, c, d, d', f⟩ := G.at_ kk hk
              exact ⟨p, l, a, b, c, d, d', e7 _ _ (hide_get f c)⟩
            refine s_whenD (tp := tp) (p := fun _ => True) t6 (drT_test (dr_op (P := fun v => ∃ b, v = .bl b) (dr_draw 4 (by decide) rfl hide_at (dr_c.imp fun v hv => ⟨4, hv, by decide, by decide⟩)) dr_c ?_)) (fun _ H7 e7 t7 => ?_) (fun _ H7 e7 t7 => skip H7 t7 e7)
            · rintro x y ⟨r, rfl, _, _⟩ rfl
              exact ⟨_, ⟨_, rfl⟩, rv_eq rfl⟩
            · have e07 : Ex (hide tp H) H7 := (ex_hide e6 hide_at).trans e7
              have ata7 := e7 _ _ (hide_get ata6 htao)
              have atd7 := e7 _ _ (hide_get G.dict hedtp)
              obtain ⟨p, l, hl, hv, hptp, hpta, hped, hpl⟩ := G.at_ (i + 3) hi'
              have hlb := G.bs (i + 3) l (Nat.le_refl _) hl
              have hp7 := e7 _ _ (hide_get hpl hptp)
              refine ev_dget (k := Sum.inr (tt (i + 3))) (ev_var rfl) (ev_op (ev_var rfl) (ev_var rfl) (rv_ixL (K := K) (v := .str (tt (i + 3))) (sq_of ata7) (atI_nat (by rw [List.getElem?_map, tts_at hi']; rfl)))) (.inl atd7) hv H7 (Ex.refl H7) _ fun H8 e8 => ⟨Or.inl ⟨rfl, _, sq_of (e8 _ _ hp7)⟩, ?_⟩
              have ata8 := e8 _ _ ata7
              refine dr_op (tp := tp) (P := fun v => ∃ j, j < 2 ∧ v = .str (tt j)) (dr_var rfl) (dr_draw 2 (by decide) rfl hide_at (dr_c.imp fun v hv => ⟨2, hv, by decide, by decide⟩)) ?_ H8 hide_ex (t7.mono e8) _ ?_
              · rintro x y rfl ⟨r, rfl, r0, r1⟩
                exact ⟨_, ⟨r.toNat, by omega, rfl⟩, ixAt (j := r.toNat) (hide_get ata8 htao) (by omega) (by rw [List.getElem?_map, tts_at (by omega)]; rfl)⟩
              · rintro v H9 e9 t9 ⟨j, hj, rfl⟩
                have hp9 := e9 _ _ (hide_get (e8 _ _ hp7) hptp)
                have hll : l.length ≤ 1 := by
                  rw [hlb]
                  unfold bas
                  split <;> simp
                refine ⟨p, _, _, rfl, rfl, hp9, by rw [List.length_map]; exact sz_lt (by omega), es.set (i + 3) (l ++ [tt j]), _, rfl, ?_, ?_, ?_, ?_, fun kk hk => ?_, G.inj, by rw [List.length_set]; exact G.len, fun kk m hm => ?_, fun kk m hkk hm => ?_⟩
                · obtain ⟨x1, x2, x3, x4, hx⟩ := t9
                  exact ⟨x1, x2, x3, x4, by rw [upd_ne (Ne.symm hptp)]; exact hx⟩
                · intro b o hb
                  have hbp : b ≠ p := fun z => by
                    have h1 := hped.2
                    rw [← z, hb] at h1
                    cases h1
                  rw [upd_ne hbp]
                  exact e9 _ _ (hide_mono e8 _ _ (ex_hide e07 hide_at _ _ hb))
                · rw [upd_ne (Ne.symm hpta)]
                  exact e9 _ _ (hide_get ata8 htao)
                · rw [upd_ne (Ne.symm hped.1)]
                  exact e9 _ _ (hide_get (e8 _ _ atd7) hedtp)
                · by_cases hkk : kk = i + 3
                  · subst hkk
                    refine ⟨p, l ++ [tt j], ?_, hv, hptp, hpta, hped, ?_⟩
                    · rw [List.getElem?_set_self (by rw [G.len]; exact hi')]
                    · rw [upd_same, List.map_append]
                      rfl
                  · obtain ⟨p', l', a, b, c, d, d', f⟩ := G.at_ kk hk
                    refine ⟨p', l', ?_, b, c, d, d', ?_⟩
                    · rw [List.getElem?_set_ne (fun z => hkk z.symm)]
                      exact a
                    · have hne : p' ≠ p := fun z => hkk (G.inj kk (i + 3) p hk hi' (by rw [← z]; exact b) hv)
                      rw [upd_ne hne]
                      exact e9 _ _ (hide_get (e8 _ _ (e7 _ _ (hide_get f c))) c)
                · by_cases hkk : kk = i + 3
                  · subst hkk
                    rw [List.getElem?_set_self (by rw [G.len]; exact hi')] at hm
                    cases hm
                    rw [hlb]
                    unfold bas
                    rw [if_neg (by omega)]
                    exact .inr ⟨_, by omega, tts_at (by omega), .inr ⟨tt j, j, by omega, hj, tts_at (by omega), rfl⟩⟩
                  · rw [List.getElem?_set_ne (fun z => hkk z.symm)] at hm
                    exact G.ch kk m hm
                · rw [List.getElem?_set_ne (by omega)] at hm
                  exact G.bs kk m (by omega) hm
          · rintro σ' H6 ⟨es, v3', rfl, t6, e6, ata6, G⟩
            -- return order_of(elders, titles[39]) == list(reversed(titles))
            have hO39 := EM.long_O tts_nd (by rw [G.len, tts_len]) G.ch 39 39 (tt 39) (Nat.le_refl _) (tts_at (by decide))
            have S := EM.chain_sch tts_nd (by rw [G.len, tts_len]) G.ch
            rw [List.take_of_length_le (by rw [tts_len]; exact Nat.le_refl _)] at hO39
            have hrl : Oks tts.reverse := fun x hx => tts_ok x (List.mem_reverse.mp hx)
            refine ret_raw (op_raw ?_)
            refine call_raw (ea_cons (ev_var rfl) (ea_cons (ev_op (ev_var rfl) ev_c (rv_ixL (K := K) (v := .str (tt 39)) (sq_of ata6) (atI_nat (j := 39) (by rw [List.getElem?_map, tts_at (by decide)]; rfl)))) ea_nil)) fun H7 e7 => ?_
            refine ⟨ed, tt 39, kvs, EM.EF tts es, tts, EM.rk tts, rfl, .inl (e7 _ _ G.dict), ⟨fun x hx => ?_, fun x _ => EM.EF_sub S x⟩, List.mem_of_getElem? (tts_at (by decide)), by rw [tts_len]; decide, tts_ok, fun x => ?_, EM.EF_rank S, ?_, ?_⟩
            · obtain ⟨kk, hk, e⟩ := List.getElem_of_mem hx
              rw [tts_len] at hk
              have hx' : tts[kk]? = some x := by rw [List.getElem?_eq_getElem (by rw [tts_len]; exact hk), e]
              rw [tts_at hk] at hx'
              cases hx'
              obtain ⟨p, l, a, b, c, d, d', f⟩ := G.at_ kk hk
              rw [EM.EF_at S (tts_at hk) a]
              exact ⟨p, b, e7 _ _ f⟩
            · unfold EM.EF
              rw [List.getD_eq_getElem?_getD]
              cases hq : es[EM.rk tts x]? with
              | none => simp
              | some l =>
                rcases G.ch _ l hq with ⟨_, rfl⟩ | ⟨a, _, _, rfl | ⟨b, j, _, _, _, rfl⟩⟩ <;> simp
            · have := EM.rk_le tts (tt 39)
              rw [tts_len] at this
              omega
            · rw [hO39]
              intro p H8 np e8 h8
              refine ⟨_, rfl, ta, _, rfl, sq_of ((e7.trans e8) _ _ ata6), fun q nq => ?_⟩
              have e9 : Ex H8 (upd H8 q (.lst (tts.map V.str).reverse)) := Ex.new nq
              refine ⟨dS tts.reverse, dS tts.reverse, dp_S (sq_of (e9 _ _ h8)), dp_S (sq_of (by rw [upd_same, List.map_reverse])), shaped_dS hrl, shaped_dS hrl, ?_⟩
              rw [eqv_dS, decide_eq_true rfl]
              exact k _ (e6.trans (e7.trans (e8.trans e9))) (t6.mono (e7.trans (e8.trans e9)))
end
end K

set_option Elab.async false
set_option linter.all false
set_option maxRecDepth 100000
namespace K
open PySem L2 Evl EX
theorem drT_andF {tp : Addr} {σ : L2.St} {B : Hp} {t u : TT} {p : Bool → Prop} (h1 : DrT tp t σ B p) (h2 : DrT tp u σ B (fun b => b = false)) : DrT tp (tAnd t u) σ B (fun b => b = false) := fun H1 e tt Q k => h1 H1 e tt _ fun c H2 e2 t2 _ => by
  cases c with
  | true =>
    show u σ H2 Q
    exact h2 H2 e2 t2 Q fun c H3 e3 t3 hc => k c H3 e3 t3 hc
  | false =>
    show Q false H2
    exact k false H2 e2 t2 rfl
theorem cut_ints (ns : List Int) (s : Nat) : ∃ l : List Int, cutV (ns.map V.int) (some ((s : Nat) : Int)) (some (((s + 16 : Nat)) : Int)) = l.map V.int ∧ l.length ≤ 16 := by
  refine ⟨(ns.drop (min s ns.length)).take (min (s + 16) ns.length - min s ns.length), ?_, ?_⟩
  · unfold cutV
    rw [HT.sIx_nat, HT.sIx_nat, List.length_map, List.map_take, List.map_drop]
  · rw [List.length_take]
    omega
theorem rg16 {n : Nat} (h : n ≤ 1000) : ∃ m : Nat, RgC 0 (n : Int) 16 m := by
  refine ⟨(Builtin.Range.rangeSize 0 (n : Int) 16).toNat, by decide, by decide, ?_, ?_⟩
  · unfold Builtin.Range.small Builtin.Range.rangeFitsLong Builtin.Range.rangeSize
    simp
    split <;> omega
  · have : 0 ≤ Builtin.Range.rangeSize 0 (n : Int) 16 := by
      unfold Builtin.Range.rangeSize
      simp
      split <;> omega
    omega
theorem q_forR3 {σ : L2.St} {H : Hp} {tA : TA} {j' : Nat} {tb tz : TS} {D : Ends} {i j c : Int} {m : Nat} (h : EvA tA σ H [.int i, .int j, .int c]) (hm : RgC i j c m) (Pv : Nat → L2.St → Hp → Prop) (h0 : ∀ H1, Ex H H1 → Pv 0 σ H1)
    (hs : ∀ (i' : Nat) σ' H', i' < m → Pv i' σ' H' → tb { D with nx := Pv (i' + 1), ct := Pv (i' + 1), bk := tz D } (σ'.set j' (some (.int (i + (i' : Nat) * c)))) H') (hd : ∀ σ' H', Pv m σ' H' → tz D σ' H') :
    tSeq (tFor (iRng3 tA) (gName j') tb) tz D σ H := h H (Ex.refl H) _ fun H1 e => ⟨i, j, c, m, rfl, hm, for_rangeC (D := { D with nx := tz D }) Pv (h0 H1 e) hs hd⟩
section
variable {P : Program} {w : World} {K : PySem.W.Frag} {mg : Str → Option Value} {base : Heap}
def spLaw (K : PySem.W.Frag) : Sp := fun vs H Q _ => ∃ (a : Addr) (ns : List Int), vs = [.ref a] ∧ SqL K H a (ns.map V.int) ∧ ns.length ≤ 63 ∧ ∀ H', Q (.bl true) H'
theorem ok_law {f : Addr} {fd : FuncData} (F : Fun K "law" "law" s_law f fd) (T : Txt mg) (G__law_tap : Def P w K mg base 1 "_law_tap" ["_law_cell"] spTap) (G__law_next : Def P w K mg base 2 "_law_next" ["_law_tap_here", "_law_size"] spDraw)
    (G__law_long_right : Def P w K mg base 5 "_law_long_right" ["_law_tap_here"] spLong) (G__law_group_right : Def P w K mg base 5 "_law_group_right" ["_law_cells", "_law_start"] (spGroup K)) : FnOk P w K mg base CX0 6 f fd ["_law_script"] (spLaw K) := by
  refine F.ok sc_law (fun vs H Q E h => ?_) (fun cdv A outer s H vs Q E hr h => ?_)
  · obtain ⟨a, ns, rfl, _⟩ := h
    rfl
  · obtain ⟨a, ns, rfl, hS, hz, k⟩ := h
    have hu := hu_of hr
    refine ⟨_, pss_cons (ps_set (i := 1) sc_law.nd rfl (Or.inl rfl) (pe_op op_cat (pe_slice (slL (K := K)) (pv 0) po_none (po_some (pe_int))) (pe_lst (pa_cons (pe_callB (clLen (K := K)) (by rfl) T.len (by decide +kernel) (pa_cons (pv 0) pa_nil)) pa_nil))))
      (pss_cons (ps_set (i := 2) sc_law.nd rfl (Or.inl rfl) (pe_def G__law_tap (hr.mono (by decide)) (by rfl) (pa_cons (pe_op op_add (pe_ix (ixL (K := K)) (pv 1) (pe_int) (fun _ _ => rfl)) (pe_int)) pa_nil)))
      (pss_cons (ps_if (PW.pt (pw_and (pt_cmpR op_eq (pe_def G__law_next (hr.mono (by decide)) (by rfl) (pa_cons (pv 2) (pa_cons (pe_int) pa_nil))) (pe_int) (nomark _)) (pw_and1 (pt_not (pt_val (pe_def G__law_long_right (hr.mono (by decide)) (by rfl) (pa_cons (pv 2) pa_nil)))))))
        (pss_one (ps_ret (pe_bl)))
        (pss_nil))
      (pss_cons (ps_for PassesOwn.never rfl (pi_range3 (by rfl) T.range (pa_cons (pe_int) (pa_cons (pe_callB (clLen (K := K)) (by rfl) T.len (by decide +kernel) (pa_cons (pv 1) pa_nil)) (pa_cons (pe_int) pa_nil)))) (pg_name (i := 3) sc_law.nd rfl (Or.inl rfl))
        (pss_one (ps_if (pt_not (pt_val (pe_def G__law_group_right (hr.mono (by decide)) (by rfl) (pa_cons (pe_slice (slL (K := K)) (pv 1) (po_some (pv 3)) (po_some (pe_op op_add (pv 3) (pe_int)))) (pa_cons (pv 3) pa_nil)))))
          (pss_one (ps_ret (pe_bl)))
          (pss_nil))))
      (pss_one (ps_ret (pe_bl)))))), ?_⟩
    -- cells = script[:63] + [len(script)]
    have hcut := el_sl (K := K) (ev_var (σ := [some (V.ref a), none, none, none]) (i := 0) rfl) eo_none (eo_some (i := ((63 : Nat) : Int)) ev_c) hS
    rw [cutTake, ← List.map_take] at hcut
    refine q_asgL (xs := (ns.take 63 ++ [(ns.length : Int)]).map V.int) ?_ fun ca H1 nca e1 atc => ?_
    · rw [List.map_append]
      refine el_cat2 hcut (el_lst (ea_cons (ev_is (ev_len (K := K) (ev_var rfl) hS) (by rw [List.length_map])) ea_nil) (by simp)) (by simp; omega)
    generalize hcs : ns.take 63 ++ [(ns.length : Int)] = cs at atc
    have hcl : cs.length ≤ 64 := by rw [← hcs]; simp; omega
    obtain ⟨c0, hc0⟩ : ∃ c, cs[0]? = some c := by
      cases hc : cs with
      | nil => rw [hc] at hcs; simp at hcs
      | cons c r => exact ⟨c, rfl⟩
    -- tap
    refine q_callA (ea_cons (ev_op (ev_op (ev_var rfl) ev_c (rv_ixL (K := K) (v := .int c0) (sq_of atc) (atI_nat (j := 0) (by rw [List.getElem?_map, hc0]; rfl)))) ev_c rv_I0) ea_nil) fun H2 e2 => ⟨_, rfl, fun tp H3 ntp e3 t3 => ?_⟩
    have atc3 := (e2.trans e3) _ _ atc
    have hctp : ca ≠ tp := fun z => by rw [← z, e2 _ _ atc] at ntp; cases ntp
    refine q_whenD (tp := tp) t3 (drT_andF (drT_test (dr_op (P := fun v => ∃ b, v = .bl b) (dr_draw 8 (by decide) rfl hide_at (dr_c.imp fun v hv => ⟨8, hv, by decide, by decide⟩)) dr_c ?_)) ?_) (fun q => nomatch q) (fun _ H4 e4 t4 => ?_)
    · rintro x y ⟨r, rfl, _, _⟩ rfl
      exact ⟨_, ⟨_, rfl⟩, rv_eq rfl⟩
    · exact fun H4 e4 t4 Q' q' => ⟨_, rfl, tp, rfl, t4, fun H5 e5 t5 => ⟨true, rfl, q' false H5 ((ex_hide e4 hide_at).trans e5) t5 rfl⟩⟩
    · have atc4 := e4 _ _ (hide_get atc3 hctp)
      -- for start in range(0, len(cells), 16)
      obtain ⟨m, hm⟩ := rg16 (n := cs.length) (by omega)
      refine q_forR3 (m := m) (ea_cons ev_c (ea_cons (ev_is (ev_len (K := K) (ev_var rfl) (sq_of atc4)) (by rw [List.length_map])) (ea_cons ev_c ea_nil))) hm (fun i σ' H' => ∃ v3, σ' = [some (.ref a), some (.ref ca), some (.ref tp), v3] ∧ H' ca = some (.lst (cs.map V.int))) (fun H5 e5 => ⟨_, rfl, e5 _ _ atc4⟩) ?_ ?_
      · rintro i σ' H6 hi ⟨v3, rfl, atc6⟩
        have hst : (0 : Int) + (i : Nat) * 16 = ((i * 16 : Nat) : Int) := by omega
        rw [hst]
        obtain ⟨l, hl, hll⟩ := cut_ints cs (i * 16)
        have hcl6 := el_sl (K := K) (ev_var (σ := [some (V.ref a), some (V.ref ca), some (V.ref tp), some (.int ((i * 16 : Nat) : Int))]) (i := 1) rfl) (eo_some (i := ((i * 16 : Nat) : Int)) (ev_var (i := 3) rfl)) (eo_some (i := ((i * 16 + 16 : Nat) : Int)) (te := tOp (rI0 fun i j => V.int (i + j)) (tVar 3) (tC (V.int 16))) (ev_is (ev_op (ev_var (i := 3) rfl) ev_c rv_I0) (by congr 1))) (sq_of atc6)
        rw [hl] at hcl6
        refine s_when (b := false) (fun H7 e7 Q' q' => ?_) (fun q => nomatch q) (fun _ H7 e7 => ⟨_, rfl, e7 _ _ atc6⟩)
        refine hcl6 H7 e7 _ fun p H8 np e8 at8 => ⟨_, rfl, p, _, l, rfl, sq_of at8, hll, fun H9 e9 => ⟨true, rfl, q' H9 (e8.trans e9)⟩⟩
      · rintro σ' H6 ⟨v3, rfl, atc6⟩
        exact k H6
end
end K

set_option Elab.async false
set_option linter.all false
set_option maxRecDepth 100000
namespace K
open PySem L2 Evl EX
section
theorem all_mk {l : PySem.W.OpenLaw} {w : World} {K : PySem.W.Frag} {h : Heap} {mg : Str → Option Value} {fa : Addr} (X : K.In h) (G : h.Ns mainGlobals mg) (hfa : mg "law" = some (.ref fa))
    {f1 : Addr} {od1 an1 : Option Addr} {sl1 : Array (Option Value)} {oc1 kV1 dc1 pm1 cd1 ct1 : Value}
    {f2 : Addr} {od2 an2 : Option Addr} {sl2 : Array (Option Value)} {oc2 kV2 dc2 pm2 cd2 ct2 : Value}
    {f3 : Addr} {od3 an3 : Option Addr} {sl3 : Array (Option Value)} {oc3 kV3 dc3 pm3 cd3 ct3 : Value}
    {f4 : Addr} {od4 an4 : Option Addr} {sl4 : Array (Option Value)} {oc4 kV4 dc4 pm4 cd4 ct4 : Value}
    {f5 : Addr} {od5 an5 : Option Addr} {sl5 : Array (Option Value)} {oc5 kV5 dc5 pm5 cd5 ct5 : Value}
    {f6 : Addr} {od6 an6 : Option Addr} {sl6 : Array (Option Value)} {oc6 kV6 dc6 pm6 cd6 ct6 : Value}
    {f7 : Addr} {od7 an7 : Option Addr} {sl7 : Array (Option Value)} {oc7 kV7 dc7 pm7 cd7 ct7 : Value}
    {f8 : Addr} {od8 an8 : Option Addr} {sl8 : Array (Option Value)} {oc8 kV8 dc8 pm8 cd8 ct8 : Value}
    {f9 : Addr} {od9 an9 : Option Addr} {sl9 : Array (Option Value)} {oc9 kV9 dc9 pm9 cd9 ct9 : Value}
    {f10 : Addr} {od10 an10 : Option Addr} {sl10 : Array (Option Value)} {oc10 kV10 dc10 pm10 cd10 ct10 : Value}
    {f11 : Addr} {od11 an11 : Option Addr} {sl11 : Array (Option Value)} {oc11 kV11 dc11 pm11 cd11 ct11 : Value}
    {f12 : Addr} {od12 an12 : Option Addr} {sl12 : Array (Option Value)} {oc12 kV12 dc12 pm12 cd12 ct12 : Value}
    (a1 : PySem.W.nsIn K mainGlobals "next_title" = some (some (.ref f1))) (l1 : K.lookup f1 = some ⟨oc1, od1, .func (PySem.W.fnOf "next_title" "next_title" (defArgs s_next_title) (defBody s_next_title) (defScope s_next_title) .none kV1 dc1 pm1 an1 cd1 ct1), sl1⟩) (c1 : PySem.W.codeIn K cd1 "next_title" = true) (k1 : PySem.W.keepIn K (.ref f1) = true)
    (a2 : PySem.W.nsIn K mainGlobals "merged" = some (some (.ref f2))) (l2 : K.lookup f2 = some ⟨oc2, od2, .func (PySem.W.fnOf "merged" "merged" (defArgs s_merged) (defBody s_merged) (defScope s_merged) .none kV2 dc2 pm2 an2 cd2 ct2), sl2⟩) (c2 : PySem.W.codeIn K cd2 "merged" = true) (k2 : PySem.W.keepIn K (.ref f2) = true)
    (a3 : PySem.W.nsIn K mainGlobals "order_by" = some (some (.ref f3))) (l3 : K.lookup f3 = some ⟨oc3, od3, .func (PySem.W.fnOf "order_by" "order_by" (defArgs s_order_by) (defBody s_order_by) (defScope s_order_by) .none kV3 dc3 pm3 an3 cd3 ct3), sl3⟩) (c3 : PySem.W.codeIn K cd3 "order_by" = true) (k3 : PySem.W.keepIn K (.ref f3) = true)
    (a4 : PySem.W.nsIn K mainGlobals "order_of" = some (some (.ref f4))) (l4 : K.lookup f4 = some ⟨oc4, od4, .func (PySem.W.fnOf "order_of" "order_of" (defArgs s_order_of) (defBody s_order_of) (defScope s_order_of) .none kV4 dc4 pm4 an4 cd4 ct4), sl4⟩) (c4 : PySem.W.codeIn K cd4 "order_of" = true) (k4 : PySem.W.keepIn K (.ref f4) = true)
    (a5 : PySem.W.nsIn K mainGlobals "_law_mixed" = some (some (.ref f5))) (l5 : K.lookup f5 = some ⟨oc5, od5, .func (PySem.W.fnOf "_law_mixed" "_law_mixed" (defArgs s__law_mixed) (defBody s__law_mixed) (defScope s__law_mixed) .none kV5 dc5 pm5 an5 cd5 ct5), sl5⟩) (c5 : PySem.W.codeIn K cd5 "_law_mixed" = true) (k5 : PySem.W.keepIn K (.ref f5) = true)
    (a6 : PySem.W.nsIn K mainGlobals "_law_tap" = some (some (.ref f6))) (l6 : K.lookup f6 = some ⟨oc6, od6, .func (PySem.W.fnOf "_law_tap" "_law_tap" (defArgs s__law_tap) (defBody s__law_tap) (defScope s__law_tap) .none kV6 dc6 pm6 an6 cd6 ct6), sl6⟩) (c6 : PySem.W.codeIn K cd6 "_law_tap" = true) (k6 : PySem.W.keepIn K (.ref f6) = true)
    (a7 : PySem.W.nsIn K mainGlobals "_law_next" = some (some (.ref f7))) (l7 : K.lookup f7 = some ⟨oc7, od7, .func (PySem.W.fnOf "_law_next" "_law_next" (defArgs s__law_next) (defBody s__law_next) (defScope s__law_next) .none kV7 dc7 pm7 an7 cd7 ct7), sl7⟩) (c7 : PySem.W.codeIn K cd7 "_law_next" = true) (k7 : PySem.W.keepIn K (.ref f7) = true)
    (a8 : PySem.W.nsIn K mainGlobals "_law_walk" = some (some (.ref f8))) (l8 : K.lookup f8 = some ⟨oc8, od8, .func (PySem.W.fnOf "_law_walk" "_law_walk" (defArgs s__law_walk) (defBody s__law_walk) (defScope s__law_walk) .none kV8 dc8 pm8 an8 cd8 ct8), sl8⟩) (c8 : PySem.W.codeIn K cd8 "_law_walk" = true) (k8 : PySem.W.keepIn K (.ref f8) = true)
    (a9 : PySem.W.nsIn K mainGlobals "_law_more" = some (some (.ref f9))) (l9 : K.lookup f9 = some ⟨oc9, od9, .func (PySem.W.fnOf "_law_more" "_law_more" (defArgs s__law_more) (defBody s__law_more) (defScope s__law_more) .none kV9 dc9 pm9 an9 cd9 ct9), sl9⟩) (c9 : PySem.W.codeIn K cd9 "_law_more" = true) (k9 : PySem.W.keepIn K (.ref f9) = true)
    (a10 : PySem.W.nsIn K mainGlobals "_law_group_right" = some (some (.ref f10))) (l10 : K.lookup f10 = some ⟨oc10, od10, .func (PySem.W.fnOf "_law_group_right" "_law_group_right" (defArgs s__law_group_right) (defBody s__law_group_right) (defScope s__law_group_right) .none kV10 dc10 pm10 an10 cd10 ct10), sl10⟩) (c10 : PySem.W.codeIn K cd10 "_law_group_right" = true) (k10 : PySem.W.keepIn K (.ref f10) = true)
    (a11 : PySem.W.nsIn K mainGlobals "_law_long_right" = some (some (.ref f11))) (l11 : K.lookup f11 = some ⟨oc11, od11, .func (PySem.W.fnOf "_law_long_right" "_law_long_right" (defArgs s__law_long_right) (defBody s__law_long_right) (defScope s__law_long_right) .none kV11 dc11 pm11 an11 cd11 ct11), sl11⟩) (c11 : PySem.W.codeIn K cd11 "_law_long_right" = true) (k11 : PySem.W.keepIn K (.ref f11) = true)
    (a12 : PySem.W.nsIn K mainGlobals "law" = some (some (.ref f12))) (l12 : K.lookup f12 = some ⟨oc12, od12, .func (PySem.W.fnOf "law" "law" (defArgs s_law) (defBody s_law) (defScope s_law) .none kV12 dc12 pm12 an12 cd12 ct12), sl12⟩) (c12 : PySem.W.codeIn K cd12 "law" = true) (k12 : PySem.W.keepIn K (.ref f12) = true)
    (z1 : PySem.W.nsIn K mainGlobals "any" = some none)
    (z2 : PySem.W.nsIn K mainGlobals "len" = some none)
    (z3 : PySem.W.nsIn K mainGlobals "list" = some none)
    (z4 : PySem.W.nsIn K mainGlobals "set" = some none)
    (z5 : PySem.W.nsIn K mainGlobals "abs" = some none)
    (z6 : PySem.W.nsIn K mainGlobals "int" = some none)
    (z7 : PySem.W.nsIn K mainGlobals "range" = some none)
    (z8 : PySem.W.nsIn K mainGlobals "reversed" = some none)
    (z9 : PySem.W.nsIn K mainGlobals "enumerate" = some none)
    (z10 : PySem.W.nsIn K mainGlobals "dict" = some none)
    (z11 : PySem.W.nsIn K mainGlobals "max" = some none) :
    ∃ fd : FuncData, (∀ (s : Shared) (v : Value), BindsTo s fd ⟨[v], []⟩ [("_law_script", v)]) ∧ ∀ base : Heap, K.In base → base.Ns mainGlobals mg → FnOk l.prog w K mg base CX0 6 fa fd ["_law_script"] (spLaw K) := by
  have e := hfa.symm.trans (PySem.W.mg_of X G a12)
  cases e
  have T : Txt mg := ⟨PySem.W.mg_none_of X G z1, PySem.W.mg_none_of X G z2, PySem.W.mg_none_of X G z3, PySem.W.mg_none_of X G z4, PySem.W.mg_none_of X G z5, PySem.W.mg_none_of X G z6, PySem.W.mg_none_of X G z7, PySem.W.mg_none_of X G z8, PySem.W.mg_none_of X G z9, PySem.W.mg_none_of X G z10, PySem.W.mg_none_of X G z11⟩
  have F1 := fun_mk (st := s_next_title) l1 c1 k1
  have b1 := F1.binds (ps := ["lists"]) fun _ _ _ _ _ _ us hl => match us, hl with | [_], _ => rfl
  have F2 := fun_mk (st := s_merged) l2 c2 k2
  have b2 := F2.binds (ps := ["lists"]) fun _ _ _ _ _ _ us hl => match us, hl with | [_], _ => rfl
  have F3 := fun_mk (st := s_order_by) l3 c3 k3
  have b3 := F3.binds (ps := ["title", "elders", "orders"]) fun _ _ _ _ _ _ us hl => match us, hl with | [_, _, _], _ => rfl
  have F4 := fun_mk (st := s_order_of) l4 c4 k4
  have b4 := F4.binds (ps := ["elders", "title"]) fun _ _ _ _ _ _ us hl => match us, hl with | [_, _], _ => rfl
  have F5 := fun_mk (st := s__law_mixed) l5 c5 k5
  have b5 := F5.binds (ps := ["_law_number", "_law_k"]) fun _ _ _ _ _ _ us hl => match us, hl with | [_, _], _ => rfl
  have F6 := fun_mk (st := s__law_tap) l6 c6 k6
  have b6 := F6.binds (ps := ["_law_cell"]) fun _ _ _ _ _ _ us hl => match us, hl with | [_], _ => rfl
  have F7 := fun_mk (st := s__law_next) l7 c7 k7
  have b7 := F7.binds (ps := ["_law_tap_here", "_law_size"]) fun _ _ _ _ _ _ us hl => match us, hl with | [_, _], _ => rfl
  have F8 := fun_mk (st := s__law_walk) l8 c8 k8
  have b8 := F8.binds (ps := ["_law_title", "_law_elders", "_law_told"]) fun _ _ _ _ _ _ us hl => match us, hl with | [_, _, _], _ => rfl
  have F9 := fun_mk (st := s__law_more) l9 c9 k9
  have b9 := F9.binds (ps := ["_law_tap_here", "_law_titles", "_law_elders", "_law_fresh"]) fun _ _ _ _ _ _ us hl => match us, hl with | [_, _, _, _], _ => rfl
  have F10 := fun_mk (st := s__law_group_right) l10 c10 k10
  have b10 := F10.binds (ps := ["_law_cells", "_law_start"]) fun _ _ _ _ _ _ us hl => match us, hl with | [_, _], _ => rfl
  have F11 := fun_mk (st := s__law_long_right) l11 c11 k11
  have b11 := F11.binds (ps := ["_law_tap_here"]) fun _ _ _ _ _ _ us hl => match us, hl with | [_], _ => rfl
  have F12 := fun_mk (st := s_law) l12 c12 k12
  refine ⟨PySem.W.fnOf "law" "law" (defArgs s_law) (defBody s_law) (defScope s_law) .none kV12 dc12 pm12 an12 cd12 ct12, fun s v => .of_eq rfl, fun base _ _ => ?_⟩
  have G_next_title : Def l.prog w K mg base _ "next_title" ["lists"] _ := ⟨f1, _, ok_next F1 T, PySem.W.mg_of X G a1, k1, b1⟩
  have G_merged : Def l.prog w K mg base _ "merged" ["lists"] _ := ⟨f2, _, ok_merged F2 T G_next_title, PySem.W.mg_of X G a2, k2, b2⟩
  have G_order_by : Def l.prog w K mg base _ "order_by" ["title", "elders", "orders"] _ := ⟨f3, _, ok_order_by F3 T G_merged, PySem.W.mg_of X G a3, k3, b3⟩
  have G_order_of : Def l.prog w K mg base _ "order_of" ["elders", "title"] _ := ⟨f4, _, ok_order_of F4 T G_order_by, PySem.W.mg_of X G a4, k4, b4⟩
  have G__law_mixed : Def l.prog w K mg base _ "_law_mixed" ["_law_number", "_law_k"] _ := ⟨f5, _, ok_mixed F5, PySem.W.mg_of X G a5, k5, b5⟩
  have G__law_tap : Def l.prog w K mg base _ "_law_tap" ["_law_cell"] _ := ⟨f6, _, ok_tap F6 T, PySem.W.mg_of X G a6, k6, b6⟩
  have G__law_next : Def l.prog w K mg base _ "_law_next" ["_law_tap_here", "_law_size"] _ := ⟨f7, _, ok_draw F7 G__law_mixed, PySem.W.mg_of X G a7, k7, b7⟩
  have G__law_walk : Def l.prog w K mg base _ "_law_walk" ["_law_title", "_law_elders", "_law_told"] _ := ⟨f8, _, ok_walk F8 T, PySem.W.mg_of X G a8, k8, b8⟩
  have G__law_more : Def l.prog w K mg base _ "_law_more" ["_law_tap_here", "_law_titles", "_law_elders", "_law_fresh"] _ := ⟨f9, _, ok_more F9 T G__law_next, PySem.W.mg_of X G a9, k9, b9⟩
  have G__law_group_right : Def l.prog w K mg base _ "_law_group_right" ["_law_cells", "_law_start"] _ := ⟨f10, _, ok_group F10 T G__law_tap G__law_next G__law_more G_order_of G__law_walk, PySem.W.mg_of X G a10, k10, b10⟩
  have G__law_long_right : Def l.prog w K mg base _ "_law_long_right" ["_law_tap_here"] _ := ⟨f11, _, ok_long F11 T G__law_next G_order_of, PySem.W.mg_of X G a11, k11, b11⟩
  exact ok_law F12 T G__law_tap G__law_next G__law_long_right G__law_group_right
theorem walk {l : PySem.W.OpenLaw} {q : Program} {loose : List Str} {XP : (Str → Option Value) → Heap → Prop} {YP : World → Heap → Prop} {d : DefRec} {K : Params → PySem.W.Frag} (hn : l.most = some 63) (hdf : d.params.defaults = [])
    (hY : ∀ (w : World) (h : Heap), YP w h → (K w.params).In h)
    (F : ∀ (w : World) (mg : Str → Option Value) (fa : Addr) (h : Heap), (K w.params).In h → h.Ns mainGlobals mg → mg d.name = some (.ref fa) →
      ∃ fd : FuncData, (∀ (s : Shared) (u : Value), BindsTo s fd ⟨[u], []⟩ [("_law_script", u)]) ∧ ∀ base : Heap, (K w.params).In base → base.Ns mainGlobals mg → FnOk l.prog w (K w.params) mg base CX0 6 fa fd ["_law_script"] (spLaw (K w.params))) :
    PySem.W.WalkO q loose XP YP l.row.toRowW d [] (fun f vs => PySem.call f vs) :=
  L2.walk_of (n := 63) (k := 6) (x := "_law_script") (CX := fun _ => CX0) (sp := fun w => spLaw (K w.params)) hn (by decide) hdf ⟨rfl, by decide, by decide⟩ hY F (fun _ _ a ns hl _ hS => ⟨a, ns, rfl, hS, hl, fun _ => rfl⟩) fun _ _ _ _ _ z => z
end
end K
open PySem PySem.W PyProof.Rows
set_option maxRecDepth 100000 in
set_option maxHeartbeats 0 in
theorem PySem.Challenge.cw_snakehall_k22_whole_elders_walked_holds : PySem.Challenge.rw_snakehall_k22_whole_elders_walked.Holds := by
  w_on; o_law; k_head; (case hw => w_witness2)
  k_fill
  refine K.walk (l := PySem.Challenge.rw_snakehall_k22_whole_elders_walked) rfl rfl (fun w h Y => PySem.W.kIn_of Y) ?F
  case F =>
    intro w mg fa h KX G hmg
    refine' K.all_mk KX G hmg ?a1 ?l1 ?c1 ?k1 ?a2 ?l2 ?c2 ?k2 ?a3 ?l3 ?c3 ?k3 ?a4 ?l4 ?c4 ?k4 ?a5 ?l5 ?c5 ?k5 ?a6 ?l6 ?c6 ?k6 ?a7 ?l7 ?c7 ?k7 ?a8 ?l8 ?c8 ?k8 ?a9 ?l9 ?c9 ?k9 ?a10 ?l10 ?c10 ?k10 ?a11 ?l11 ?c11 ?k11 ?a12 ?l12 ?c12 ?k12 ?z1 ?z2 ?z3 ?z4 ?z5 ?z6 ?z7 ?z8 ?z9 ?z10 ?z11
    (case a1 => k_is)
    (case l1 => k_is)
    (case c1 => k_is)
    (case k1 => k_is)
    (case a2 => k_is)
    (case l2 => k_is)
    (case c2 => k_is)
    (case k2 => k_is)
    (case a3 => k_is)
    (case l3 => k_is)
    (case c3 => k_is)
    (case k3 => k_is)
    (case a4 => k_is)
    (case l4 => k_is)
    (case c4 => k_is)
    (case k4 => k_is)
    (case a5 => k_is)
    (case l5 => k_is)
    (case c5 => k_is)
    (case k5 => k_is)
    (case a6 => k_is)
    (case l6 => k_is)
    (case c6 => k_is)
    (case k6 => k_is)
    (case a7 => k_is)
    (case l7 => k_is)
    (case c7 => k_is)
    (case k7 => k_is)
    (case a8 => k_is)
    (case l8 => k_is)
    (case c8 => k_is)
    (case k8 => k_is)
    (case a9 => k_is)
    (case l9 => k_is)
    (case c9 => k_is)
    (case k9 => k_is)
    (case a10 => k_is)
    (case l10 => k_is)
    (case c10 => k_is)
    (case k10 => k_is)
    (case a11 => k_is)
    (case l11 => k_is)
    (case c11 => k_is)
    (case k11 => k_is)
    (case a12 => k_is)
    (case l12 => k_is)
    (case c12 => k_is)
    (case k12 => k_is)
    (case z1 => k_is)
    (case z2 => k_is)
    (case z3 => k_is)
    (case z4 => k_is)
    (case z5 => k_is)
    (case z6 => k_is)
    (case z7 => k_is)
    (case z8 => k_is)
    (case z9 => k_is)
    (case z10 => k_is)
    (case z11 => k_is)
