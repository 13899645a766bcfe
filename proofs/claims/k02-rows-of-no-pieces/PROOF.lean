import PyProof.Rows.All
import Wide.All
import OpenK.AllK
import Wide.FinOn
import HandS.ForMost
import HandS.Strs
import HandS.Evl
import HandS.Deep
import HandS.More
import HandS.Rev
import HandS.IsInst
import HandS.Text
import HandS.StrMore
import KE.IntTextLaws
import HandS.RaiseMore
import HandS.SortInts
import HandS.SetFor
import HandS.ExcInit
import HandS.TryOnly
import HandS.WordsExc
import KE.KExcIs
import KE.KDictPairs
import HandS.ExcIs
import PySem.Challenge.RW_snakehall_k02_rows_of_no_pieces
set_option linter.all false
namespace EM
section
variable {α : Type} [DecidableEq α]

/-- t stands in no list behind its first place -/
def free (ls : List (List α)) (t : α) : Bool := !(ls.any fun o => decide (t ∈ o.tail))
def heads (ls : List (List α)) : List α := ls.filterMap List.head?
def nextT (ls : List (List α)) : Option α := (heads ls).find? (free ls)
def dropH (t : α) (l : List α) : List α := if l.head? = some t then l.tail else l
def live (ls : List (List α)) : List (List α) := ls.filter fun l => !l.isEmpty
def tot (ls : List (List α)) : Nat := (ls.map List.length).sum
def mrg : Nat → List (List α) → Option (List α)
  | 0, _ => some []
  | n + 1, ls => if live ls = [] then some [] else match nextT ls with
    | none => none
    | some t => (mrg n (ls.map (dropH t))).map (t :: ·)
def merge (ls : List (List α)) : Option (List α) := mrg (tot ls) ls

theorem tot_cons (l : List α) (ls : List (List α)) : tot (l :: ls) = l.length + tot ls := by
  simp [tot]
theorem tot_nil : tot ([] : List (List α)) = 0 := rfl

theorem dropH_len (t : α) (l : List α) : (dropH t l).length ≤ l.length := by
  unfold dropH
  split
  · cases l <;> simp
  · exact Nat.le_refl _

theorem tot_drop_le (t : α) : ∀ ls : List (List α), tot (ls.map (dropH t)) ≤ tot ls
  | [] => Nat.le_refl _
  | l :: ls => by
    rw [List.map_cons, tot_cons, tot_cons]
    have h1 := dropH_len t l
    have h2 := tot_drop_le t ls
    omega

theorem mem_heads {t : α} {ls : List (List α)} : t ∈ heads ls ↔ ∃ l ∈ ls, l.head? = some t := by
  unfold heads
  rw [List.mem_filterMap]

theorem tot_drop_lt (t : α) : ∀ ls : List (List α), t ∈ heads ls → tot (ls.map (dropH t)) < tot ls
  | [], h => by simp [heads] at h
  | l :: ls, h => by
    rw [List.map_cons, tot_cons, tot_cons]
    obtain ⟨x, hx, hh⟩ := mem_heads.mp h
    rcases List.mem_cons.mp hx with e | hx
    · subst e
      have h2 := tot_drop_le t ls
      have h1 : (dropH t x).length + 1 = x.length := by
        unfold dropH
        rw [if_pos hh]
        cases x with
        | nil => simp at hh
        | cons a r => simp
      omega
    · have h1 := dropH_len t l
      have h2 := tot_drop_lt t ls (mem_heads.mpr ⟨x, hx, hh⟩)
      omega

theorem nextT_mem {ls : List (List α)} {t : α} (h : nextT ls = some t) : t ∈ heads ls := List.mem_of_find?_eq_some h
theorem nextT_free {ls : List (List α)} {t : α} (h : nextT ls = some t) : free ls t = true := List.find?_some h

theorem live_nil_of_tot {ls : List (List α)} (h : tot ls = 0) : live ls = [] := by
  induction ls with
  | nil => rfl
  | cons l ls ih =>
    rw [tot_cons] at h
    have hl : l = [] := List.length_eq_zero_iff.mp (by omega)
    subst hl
    unfold live at ih ⊢
    rw [List.filter_cons]
    simp
    have := ih (by omega)
    simpa using this

theorem mrg_two : ∀ (n m : Nat) (ls : List (List α)), tot ls ≤ n → tot ls ≤ m → mrg n ls = mrg m ls
  | 0, 0, _, _, _ => rfl
  | 0, m + 1, ls, h, _ => by
    show some [] = (if live ls = [] then some [] else _)
    rw [if_pos (live_nil_of_tot (by omega))]
  | n + 1, 0, ls, _, h => by
    show (if live ls = [] then some [] else _) = some []
    rw [if_pos (live_nil_of_tot (by omega))]
  | n + 1, m + 1, ls, h1, h2 => by
    show (if live ls = [] then some [] else match nextT ls with
        | none => none
        | some t => (mrg n (ls.map (dropH t))).map (t :: ·)) = (if live ls = [] then some [] else match nextT ls with
        | none => none
        | some t => (mrg m (ls.map (dropH t))).map (t :: ·))
    split
    · rfl
    · cases hn : nextT ls with
      | none => rfl
      | some t =>
        have hl := tot_drop_lt t ls (nextT_mem hn)
        dsimp only
        rw [mrg_two n m _ (by omega) (by omega)]

theorem merge_done {ls : List (List α)} (h : live ls = []) : merge ls = some [] := by
  unfold merge
  cases tot ls with
  | zero => rfl
  | succ n =>
    show (if live ls = [] then some [] else _) = _
    rw [if_pos h]
theorem tot_pos {ls : List (List α)} (h : live ls ≠ []) : 0 < tot ls := by
  cases hm : tot ls with
  | zero => exact absurd (live_nil_of_tot hm) h
  | succ n => omega
theorem merge_none {ls : List (List α)} (h : live ls ≠ []) (hn : nextT ls = none) : merge ls = none := by
  have hp := tot_pos h
  unfold merge
  cases hm : tot ls with
  | zero => omega
  | succ n =>
    show (if live ls = [] then some [] else _) = _
    rw [if_neg h, hn]
theorem merge_step {ls : List (List α)} {t : α} (hn : nextT ls = some t) : merge ls = (merge (ls.map (dropH t))).map (t :: ·) := by
  have hl := tot_drop_lt t ls (nextT_mem hn)
  have h : live ls ≠ [] := by
    intro h
    obtain ⟨x, hx, hh⟩ := mem_heads.mp (nextT_mem hn)
    have : x ∈ live ls := List.mem_filter.mpr ⟨hx, by cases x with | nil => simp at hh | cons a r => rfl⟩
    rw [h] at this
    cases this
  unfold merge
  cases hm : tot ls with
  | zero => omega
  | succ n =>
    show (if live ls = [] then some [] else _) = _
    rw [if_neg h, hn]
    dsimp only
    rw [mrg_two n (tot (ls.map (dropH t))) _ (by omega) (Nat.le_refl _)]

/-! ### lists that are empty count for nothing -/
theorem heads_live (ls : List (List α)) : heads (live ls) = heads ls := by
  unfold heads live
  induction ls with
  | nil => rfl
  | cons l ls ih =>
    cases l with
    | nil =>
      rw [List.filterMap_cons]
      exact ih
    | cons a r => simpa [List.filterMap_cons] using ih
theorem free_live (ls : List (List α)) (t : α) : free (live ls) t = free ls t := by
  unfold free live
  induction ls with
  | nil => rfl
  | cons l ls ih =>
    cases l with
    | nil => simpa using ih
    | cons a r =>
      simp only [List.filter_cons, List.isEmpty_cons, Bool.not_false, if_true, List.any_cons, Bool.not_or]
      rw [ih]
theorem nextT_live (ls : List (List α)) : nextT (live ls) = nextT ls := by
  unfold nextT
  rw [heads_live]
  congr 1
  funext t
  exact free_live ls t
theorem live_drop (t : α) (ls : List (List α)) : live ((live ls).map (dropH t)) = live (ls.map (dropH t)) := by
  unfold live
  induction ls with
  | nil => rfl
  | cons l ls ih =>
    cases l with
    | nil => simpa [dropH] using ih
    | cons a r =>
      simp only [List.filter_cons, List.isEmpty_cons, Bool.not_false, if_true, List.map_cons]
      rw [ih]
theorem live_of_ne {ls : List (List α)} (h : ∀ l ∈ ls, l ≠ []) : live ls = ls := by
  unfold live
  rw [List.filter_eq_self]
  intro l hl
  cases l with
  | nil => exact absurd rfl (h _ hl)
  | cons a r => rfl
theorem live_live (ls : List (List α)) : live (live ls) = live ls := by
  unfold live
  rw [List.filter_filter]
  congr 1
  funext l
  simp
theorem tot_live (ls : List (List α)) : tot (live ls) = tot ls := by
  unfold live
  induction ls with
  | nil => rfl
  | cons l ls ih =>
    cases l with
    | nil => simpa [tot_cons] using ih
    | cons a r =>
      simp only [List.filter_cons, List.isEmpty_cons, Bool.not_false, if_true, tot_cons]
      rw [ih]
theorem merge_congr : ∀ (n : Nat) (ls ms : List (List α)), tot ls ≤ n → live ls = live ms → merge ls = merge ms := by
  intro n
  induction n with
  | zero =>
    intro ls ms h e
    have h1 := live_nil_of_tot (show tot ls = 0 by omega)
    rw [merge_done h1, merge_done (e ▸ h1)]
  | succ n ih =>
    intro ls ms h e
    by_cases hl : live ls = []
    · rw [merge_done hl, merge_done (e ▸ hl)]
    · have hn : nextT ls = nextT ms := by rw [← nextT_live ls, e, nextT_live]
      cases hx : nextT ls with
      | none => rw [merge_none hl hx, merge_none (e ▸ hl) (hn ▸ hx)]
      | some t =>
        rw [merge_step (ls := ls) hx, merge_step (ls := ms) (hn ▸ hx)]
        rw [ih _ (ms.map (dropH t)) (by have := tot_drop_lt t ls (nextT_mem hx); omega) (by rw [← live_drop t ls, e, live_drop])]
theorem merge_live (ls : List (List α)) : merge (live ls) = merge ls := merge_congr _ _ _ (Nat.le_refl _) (live_live ls)

theorem nextT_no {ls : List (List α)} (hp : ∀ l ∈ ls, ∀ t, l.head? = some t → free ls t = false) : nextT ls = none := by
  unfold nextT
  rw [List.find?_eq_none]
  intro t ht
  obtain ⟨l, hl, hh⟩ := mem_heads.mp ht
  rw [hp l hl t hh]
  exact Bool.false_ne_true
theorem nextT_at {ls : List (List α)} {i : Nat} {l : List α} {t : α} (h : ls[i]? = some l) (hh : l.head? = some t) (hf : free ls t = true) (hp : ∀ l ∈ ls.take i, ∀ t, l.head? = some t → free ls t = false) : nextT ls = some t := by
  have e : ls = ls.take i ++ l :: ls.drop (i + 1) := by
    have hi := (List.getElem?_eq_some_iff.mp h).1
    have hv := (List.getElem?_eq_some_iff.mp h).2
    rw [← hv, ← List.drop_eq_getElem_cons hi, List.take_append_drop]
  have e2 : heads ls = heads (ls.take i) ++ t :: heads (ls.drop (i + 1)) := by
    have : heads ls = heads (ls.take i ++ l :: ls.drop (i + 1)) := congrArg heads e
    rw [this]
    unfold heads
    rw [List.filterMap_append, List.filterMap_cons, hh]
  unfold nextT
  rw [e2, List.find?_append]
  have : (heads (ls.take i)).find? (free ls) = none := by
    rw [List.find?_eq_none]
    intro x hx
    obtain ⟨l', hl', hh'⟩ := mem_heads.mp hx
    rw [hp l' hl' x hh']
    exact Bool.false_ne_true
  rw [this, List.find?_cons, hf]
  rfl
/-! ### what a merge has -/
theorem mem_dropH {t a : α} {l : List α} (h : a ∈ l) : a = t ∨ a ∈ dropH t l := by
  unfold dropH
  split
  · rename_i hh
    cases l with
    | nil => cases h
    | cons x r =>
      simp at hh
      subst hh
      rcases List.mem_cons.mp h with e | h
      · exact .inl e
      · exact .inr h
  · exact .inr h
theorem dropH_sub {t a : α} {l : List α} (h : a ∈ dropH t l) : a ∈ l := by
  unfold dropH at h
  split at h
  · exact List.mem_of_mem_tail h
  · exact h
theorem dropH_nd {t : α} {l : List α} (h : l.Nodup) : (dropH t l).Nodup := by
  unfold dropH
  split
  · exact h.sublist (List.tail_sublist l)
  · exact h
theorem gone_dropH {t : α} {l : List α} (h : l.Nodup) (hf : t ∉ l.tail) : t ∉ dropH t l := by
  unfold dropH
  split
  · exact hf
  · rename_i hh
    cases l with
    | nil => simp
    | cons x r =>
      simp at hh
      intro hm
      rcases List.mem_cons.mp hm with e | hm
      · exact hh e.symm
      · exact hf hm
theorem free_iff {ls : List (List α)} {t : α} : free ls t = true ↔ ∀ o ∈ ls, t ∉ o.tail := by
  unfold free
  simp
theorem merge_has : ∀ (n : Nat) (ls : List (List α)) (l : List α), tot ls ≤ n → merge ls = some l → (∀ o ∈ ls, o.Nodup) → l.Nodup ∧ ∀ a, a ∈ l ↔ ∃ o ∈ ls, a ∈ o := by
  intro n
  induction n with
  | zero =>
    intro ls l h e _
    have h1 := live_nil_of_tot (show tot ls = 0 by omega)
    rw [merge_done h1] at e
    cases e
    refine ⟨List.nodup_nil, fun a => ⟨fun h => (nomatch h), fun ⟨o, ho, ha⟩ => ?_⟩⟩
    have : o ∈ live ls := List.mem_filter.mpr ⟨ho, by cases o with | nil => cases ha | cons _ _ => rfl⟩
    rw [h1] at this
    cases this
  | succ n ih =>
    intro ls l h e nd
    by_cases hl : live ls = []
    · rw [merge_done hl] at e
      cases e
      refine ⟨List.nodup_nil, fun a => ⟨fun h => (nomatch h), fun ⟨o, ho, ha⟩ => ?_⟩⟩
      have : o ∈ live ls := List.mem_filter.mpr ⟨ho, by cases o with | nil => cases ha | cons _ _ => rfl⟩
      rw [hl] at this
      cases this
    · cases hx : nextT ls with
      | none =>
        rw [merge_none hl hx] at e
        cases e
      | some t =>
        rw [merge_step hx] at e
        cases hm : merge (ls.map (dropH t)) with
        | none =>
          rw [hm] at e
          cases e
        | some r =>
          rw [hm] at e
          cases e
          have hf := free_iff.mp (nextT_free hx)
          obtain ⟨h1, h2⟩ := ih _ r (by have := tot_drop_lt t ls (nextT_mem hx); omega) hm (fun o ho => by
            obtain ⟨o', ho', rfl⟩ := List.mem_map.mp ho
            exact dropH_nd (nd o' ho'))
          refine ⟨List.nodup_cons.mpr ⟨fun hc => ?_, h1⟩, fun a => ?_⟩
          · obtain ⟨o, ho, ha⟩ := (h2 t).mp hc
            obtain ⟨o', ho', rfl⟩ := List.mem_map.mp ho
            exact gone_dropH (nd o' ho') (hf o' ho') ha
          · constructor
            · intro ha
              rcases List.mem_cons.mp ha with e | ha
              · subst e
                obtain ⟨x, hx', hh⟩ := mem_heads.mp (nextT_mem hx)
                exact ⟨x, hx', List.mem_of_mem_head? hh⟩
              · obtain ⟨o, ho, ha⟩ := (h2 a).mp ha
                obtain ⟨o', ho', rfl⟩ := List.mem_map.mp ho
                exact ⟨o', ho', dropH_sub ha⟩
            · rintro ⟨o, ho, ha⟩
              rcases mem_dropH (t := t) ha with e | ha
              · exact List.mem_cons.mpr (.inl e)
              · exact List.mem_cons.mpr (.inr ((h2 a).mpr ⟨_, List.mem_map.mpr ⟨o, ho, rfl⟩, ha⟩))

theorem merge_len : ∀ (n : Nat) (ls : List (List α)) (l : List α), tot ls ≤ n → merge ls = some l → l.length ≤ tot ls := by
  intro n
  induction n with
  | zero =>
    intro ls l h e
    rw [merge_done (live_nil_of_tot (show tot ls = 0 by omega))] at e
    cases e
    exact Nat.zero_le _
  | succ n ih =>
    intro ls l h e
    by_cases hl : live ls = []
    · rw [merge_done hl] at e
      cases e
      exact Nat.zero_le _
    · cases hx : nextT ls with
      | none =>
        rw [merge_none hl hx] at e
        cases e
      | some t =>
        rw [merge_step hx] at e
        cases hm : merge (ls.map (dropH t)) with
        | none =>
          rw [hm] at e
          cases e
        | some r =>
          rw [hm] at e
          cases e
          have h1 := tot_drop_lt t ls (nextT_mem hx)
          have h2 := ih _ r (by omega) hm
          rw [List.length_cons]
          omega
/-! ### orders -/
def orderBy (t : α) (es : List α) (f : α → Option (List α)) : Option (List α) :=
  if es.Nodup then (es.mapM f).bind fun ls => (merge (ls ++ [es])).map (t :: ·) else none

theorem orderBy_congr {t : α} {es : List α} {f g : α → Option (List α)} (h : ∀ e ∈ es, f e = g e) : orderBy t es f = orderBy t es g := by
  unfold orderBy
  have : es.mapM f = es.mapM g := by
    clear t
    induction es with
    | nil => rfl
    | cons a r ih =>
      rw [List.mapM_cons, List.mapM_cons, h a (List.mem_cons_self), ih fun e he => h e (List.mem_cons_of_mem _ he)]
  rw [this]
def ord (E : α → List α) : Nat → α → Option (List α)
  | 0, _ => none
  | n + 1, t => orderBy t (E t) (ord E n)
theorem ord_stable {E : α → List α} {r : α → Nat} (hr : ∀ t, ∀ e ∈ E t, r e < r t) : ∀ (n m : Nat) (t : α), r t < n → r t < m → ord E n t = ord E m t := by
  intro n
  induction n with
  | zero => intro m t h; omega
  | succ n ih =>
    intro m t h1 h2
    cases m with
    | zero => omega
    | succ m =>
      show orderBy t (E t) (ord E n) = orderBy t (E t) (ord E m)
      exact orderBy_congr fun e he => ih m e (by have := hr t e he; omega) (by have := hr t e he; omega)
/-- the order of a title, by a rank that falls to elders -/
def O (E : α → List α) (r : α → Nat) (t : α) : Option (List α) := ord E (r t + 1) t
theorem O_eq {E : α → List α} {r : α → Nat} (hr : ∀ t, ∀ e ∈ E t, r e < r t) (t : α) : O E r t = orderBy t (E t) (O E r) := by
  show orderBy t (E t) (ord E (r t)) = _
  exact orderBy_congr fun e he => ord_stable hr _ _ e (hr t e he) (Nat.lt_succ_self _)

theorem mapM_some {f : α → Option (List α)} : ∀ {es : List α} {ls : List (List α)}, es.mapM f = some ls → ls.length = es.length ∧ ∀ o ∈ ls, ∃ e ∈ es, f e = some o
  | [], ls, h => by
    simp at h
    subst h
    exact ⟨rfl, fun o ho => nomatch ho⟩
  | e :: es, ls, h => by
    rw [List.mapM_cons] at h
    cases he : f e with
    | none => rw [he] at h; cases h
    | some o =>
      cases hm : es.mapM f with
      | none => rw [he, hm] at h; cases h
      | some r =>
        rw [he, hm] at h
        cases h
        obtain ⟨h1, h2⟩ := mapM_some hm
        refine ⟨by simp [h1], fun x hx => ?_⟩
        rcases List.mem_cons.mp hx with q | q
        · subst q; exact ⟨e, List.mem_cons_self, he⟩
        · obtain ⟨e', he', q'⟩ := h2 x q
          exact ⟨e', List.mem_cons_of_mem _ he', q'⟩
theorem nodup_len {U : List α} : ∀ {l : List α}, l.Nodup → (∀ a ∈ l, a ∈ U) → l.length ≤ U.length := by
  induction U with
  | nil =>
    intro l _ h
    cases l with
    | nil => exact Nat.le_refl _
    | cons a r => exact nomatch h a List.mem_cons_self
  | cons u U ih =>
    intro l nd h
    by_cases hu : u ∈ l
    · have h1 : (l.erase u).length + 1 = l.length := by
        have := List.length_erase_of_mem hu
        have hp : 0 < l.length := List.length_pos_of_mem hu
        omega
      have h2 := ih (l := l.erase u) (nd.erase u) fun a ha => by
        have ha' : a ∈ l ∧ a ≠ u := by
          rw [nd.mem_erase_iff] at ha
          exact ⟨ha.2, ha.1⟩
        rcases List.mem_cons.mp (h a ha'.1) with e | e
        · exact absurd e ha'.2
        · exact e
      rw [List.length_cons]
      omega
    · have h2 := ih nd fun a ha => by
        rcases List.mem_cons.mp (h a ha) with e | e
        · subst e; exact absurd ha hu
        · exact e
      rw [List.length_cons]
      omega
/-- titles of one universe: an order has no title twice and none but of it -/
theorem O_has {E : α → List α} {r : α → Nat} {U : List α} (hr : ∀ t, ∀ e ∈ E t, r e < r t) (hU : ∀ t ∈ U, ∀ e ∈ E t, e ∈ U) :
    ∀ (n : Nat) (t : α), r t ≤ n → t ∈ U → ∀ l, O E r t = some l → l.Nodup ∧ (∀ a ∈ l, a ∈ U ∧ r a ≤ r t) := by
  intro n
  induction n with
  | zero =>
    intro t ht hu l hl
    have hE : E t = [] := by
      cases he : E t with
      | nil => rfl
      | cons e es => have := hr t e (by rw [he]; exact List.mem_cons_self); omega
    rw [O_eq hr, hE] at hl
    have hl' : some [t] = some l := hl
    cases hl'
    exact ⟨by simp, fun a ha => by simp at ha; subst ha; exact ⟨hu, Nat.le_refl _⟩⟩
  | succ n ih =>
    intro t ht hu l hl
    rw [O_eq hr] at hl
    unfold orderBy at hl
    split at hl
    · rename_i nd
      cases hm : (E t).mapM (O E r) with
      | none => rw [hm] at hl; cases hl
      | some ls =>
        rw [hm] at hl
        simp only [Option.bind_some] at hl
        cases hg : merge (ls ++ [E t]) with
        | none => rw [hg] at hl; cases hl
        | some b =>
          rw [hg] at hl
          cases hl
          obtain ⟨_, h2⟩ := mapM_some hm
          have key : ∀ o ∈ ls ++ [E t], o.Nodup ∧ ∀ a ∈ o, a ∈ U ∧ r a < r t := by
            intro o ho
            rcases List.mem_append.mp ho with q | q
            · obtain ⟨e, he, q'⟩ := h2 o q
              have hre := hr t e he
              obtain ⟨z1, z2⟩ := ih e (by omega) (hU t hu e he) o q'
              exact ⟨z1, fun a ha => ⟨(z2 a ha).1, by have := (z2 a ha).2; omega⟩⟩
            · simp at q
              subst q
              exact ⟨nd, fun a ha => ⟨hU t hu a ha, hr t a ha⟩⟩
          obtain ⟨m1, m2⟩ := merge_has _ _ _ (Nat.le_refl _) hg fun o ho => (key o ho).1
          refine ⟨List.nodup_cons.mpr ⟨fun hc => ?_, m1⟩, fun a ha => ?_⟩
          · obtain ⟨o, ho, ha⟩ := (m2 t).mp hc
            have := ((key o ho).2 t ha).2
            omega
          · rcases List.mem_cons.mp ha with q | q
            · subst q; exact ⟨hu, Nat.le_refl _⟩
            · obtain ⟨o, ho, ha⟩ := (m2 a).mp q
              exact ⟨((key o ho).2 a ha).1, Nat.le_of_lt ((key o ho).2 a ha).2⟩
    · cases hl
theorem O_len {E : α → List α} {r : α → Nat} {U : List α} (hr : ∀ t, ∀ e ∈ E t, r e < r t) (hU : ∀ t ∈ U, ∀ e ∈ E t, e ∈ U) {t : α} (ht : t ∈ U) {l : List α} (hl : O E r t = some l) : l.length ≤ U.length :=
  let ⟨a, b⟩ := O_has hr hU _ t (Nat.le_refl _) ht l hl
  nodup_len a fun x hx => (b x hx).1

/-! ### the stack of order_of -/
def lack (E : α → List α) (ks : List α) (t : α) : List α := (E t).filter fun e => !decide (e ∈ ks)
def addK (ks : List α) (t : α) : List α := if t ∈ ks then ks else ks ++ [t]
theorem mem_addK {ks : List α} {t a : α} : a ∈ addK ks t ↔ a ∈ ks ∨ a = t := by
  unfold addK
  split
  · rename_i h
    exact ⟨fun q => .inl q, fun q => q.elim id fun e => e ▸ h⟩
  · simp
/-- m steps from here on the stack (its top at the end) is empty; B: its height's bound; ks: what is known; P: what holds then -/
inductive Runs (E : α → List α) (B : Nat) (P : List α → Prop) : Nat → List α → List α → Prop
  | done {ks} (h : P ks) : Runs E B P 0 [] ks
  | push {m w t ks} (hb : (w ++ [t]).length ≤ B) (hl : lack E ks t ≠ []) (h : Runs E B P m (w ++ [t] ++ lack E ks t) ks) : Runs E B P (m + 1) (w ++ [t]) ks
  | pop {m w t ks} (hb : (w ++ [t]).length ≤ B) (hl : lack E ks t = []) (h : Runs E B P m w (addK ks t)) : Runs E B P (m + 1) (w ++ [t]) ks
theorem lack_nil {E : α → List α} {ks : List α} {t : α} (h : lack E ks t = []) : ∀ e ∈ E t, e ∈ ks := by
  intro e he
  unfold lack at h
  have := List.filter_eq_nil_iff.mp h e he
  simpa using this
theorem lack_of {E : α → List α} {ks : List α} {t : α} (h : ∀ e ∈ E t, e ∈ ks) : lack E ks t = [] :=
  List.filter_eq_nil_iff.mpr fun e he => by simpa using h e he
theorem runs_list {E : α → List α} {B : Nat} {P : List α → Prop} {T : α → Prop} {c : Nat}
    (one : ∀ t, T t → ∀ w ks, w.length + 1 + c ≤ B → (∀ ks', (∀ a ∈ ks, a ∈ ks') → t ∈ ks' → ∃ m, Runs E B P m w ks') → ∃ m, Runs E B P m (w ++ [t]) ks) :
    ∀ (q : List α), (∀ t ∈ q, T t) → ∀ w ks, w.length + q.length + c ≤ B → (∀ ks', (∀ a ∈ ks, a ∈ ks') → (∀ t ∈ q, t ∈ ks') → ∃ m, Runs E B P m w ks') → ∃ m, Runs E B P m (w ++ q.reverse) ks
  | [], _, w, ks, _, k => by
    have := k ks (fun _ h => h) (fun _ h => nomatch h)
    simpa using this
  | t :: q, hT, w, ks, hb, k => by
    rw [List.reverse_cons, ← List.append_assoc]
    rw [List.length_cons] at hb
    refine one t (hT t List.mem_cons_self) (w ++ q.reverse) ks (by simp; omega) fun ks1 h1 h2 => ?_
    refine runs_list one q (fun x hx => hT x (List.mem_cons_of_mem _ hx)) w ks1 (by omega) fun ks2 h3 h4 => ?_
    refine k ks2 (fun a ha => h3 a (h1 a ha)) fun x hx => ?_
    rcases List.mem_cons.mp hx with e | e
    · subst e; exact h3 _ h2
    · exact h4 x e
theorem runs_one {E : α → List α} {r : α → Nat} {B L : Nat} {P : List α → Prop} (hr : ∀ t, ∀ e ∈ E t, r e < r t) (hL : ∀ t, (E t).length ≤ L) :
    ∀ (n : Nat) (t : α), r t ≤ n → ∀ w ks, w.length + 1 + L * n ≤ B → (∀ ks', (∀ a ∈ ks, a ∈ ks') → t ∈ ks' → ∃ m, Runs E B P m w ks') → ∃ m, Runs E B P m (w ++ [t]) ks := by
  intro n
  induction n with
  | zero =>
    intro t ht w ks hb k
    have hE : E t = [] := by
      cases he : E t with
      | nil => rfl
      | cons e es => have := hr t e (by rw [he]; exact List.mem_cons_self); omega
    obtain ⟨m, hm⟩ := k (addK ks t) (fun a ha => mem_addK.mpr (.inl ha)) (mem_addK.mpr (.inr rfl))
    exact ⟨m + 1, .pop (by simp; omega) (lack_of (by rw [hE]; intro e he; cases he)) hm⟩
  | succ n ih =>
    intro t ht w ks hb k
    have fin : ∀ ks', (∀ a ∈ ks, a ∈ ks') → (∀ e ∈ E t, e ∈ ks') → ∃ m, Runs E B P m (w ++ [t]) ks' := fun ks' h1 h2 => by
      obtain ⟨m, hm⟩ := k (addK ks' t) (fun a ha => mem_addK.mpr (.inl (h1 a ha))) (mem_addK.mpr (.inr rfl))
      exact ⟨m + 1, .pop (by simp; omega) (lack_of h2) hm⟩
    by_cases hl : lack E ks t = []
    · exact fin ks (fun _ h => h) (lack_nil hl)
    · have hlen : (lack E ks t).length ≤ L := Nat.le_trans (List.length_filter_le _ _) (hL t)
      have hmul : L * (n + 1) = L * n + L := by rw [Nat.mul_succ]
      obtain ⟨m, hm⟩ := runs_list (T := fun x => r x ≤ n) (c := L * n) (fun x hx w' ks' hb' k' => ih x hx w' ks' hb' k') (lack E ks t).reverse (fun x hx => by
          have hx' : x ∈ E t := (List.mem_filter.mp (List.mem_reverse.mp hx)).1
          have := hr t x hx'
          omega) (w ++ [t]) ks (by simp; omega) fun ks' h1 h2 => fin ks' h1 fun e he => by
            by_cases hk : e ∈ ks
            · exact h1 e hk
            · exact h2 e (List.mem_reverse.mpr (List.mem_filter.mpr ⟨he, by simpa using hk⟩))
      rw [List.reverse_reverse] at hm
      exact ⟨m + 1, .push (by simp; omega) hl hm⟩
theorem runs_all {E : α → List α} {r : α → Nat} {L : Nat} (hr : ∀ t, ∀ e ∈ E t, r e < r t) (hL : ∀ t, (E t).length ≤ L) (t : α) : ∃ m, Runs E (1 + L * r t) (fun ks => t ∈ ks) m [t] [] := by
  have := runs_one (B := 1 + L * r t) (P := fun ks => t ∈ ks) hr hL (r t) t (Nat.le_refl _) [] [] (by simp) fun ks' _ h => ⟨0, .done h⟩
  simpa using this
end
end EM

set_option Elab.async false
set_option linter.all false
set_option maxRecDepth 100000
/-! len(set(xs)), xs a list of texts, any of them alike -/
namespace ST
open PySem PySem.Spec PyProof.Rows
section
variable {κ : Type} [DecidableEq κ]
/-- how many unlike ones are among the first i -/
def cnt (ks : List κ) : Nat → Nat
  | 0 => 0
  | i + 1 => match ks[i]? with
    | none => cnt ks i
    | some k => if k ∈ ks.take i then cnt ks i else cnt ks i + 1
theorem cnt_le (ks : List κ) : ∀ i, cnt ks i ≤ i
  | 0 => Nat.le_refl _
  | i + 1 => by
    have h := cnt_le ks i
    unfold cnt
    split
    · omega
    · split <;> omega
theorem cnt_full (ks : List κ) : ∀ i, i ≤ ks.length → (cnt ks i = i ↔ (ks.take i).Nodup)
  | 0, _ => by simp [cnt]
  | i + 1, h => by
    have ih := cnt_full ks i (by omega)
    have hl := cnt_le ks i
    have hk : ks[i]? = some ks[i] := List.getElem?_eq_getElem (by omega)
    have ht : ks.take (i + 1) = ks.take i ++ [ks[i]] := by rw [List.take_add_one, hk]; rfl
    have hc : cnt ks (i + 1) = if ks[i] ∈ ks.take i then cnt ks i else cnt ks i + 1 := by
      show (match ks[i]? with | none => cnt ks i | some k => if k ∈ ks.take i then cnt ks i else cnt ks i + 1) = _
      rw [hk]
    rw [hc, ht, List.nodup_append]
    by_cases hm : ks[i] ∈ ks.take i
    · rw [if_pos hm]
      constructor
      · intro e; omega
      · rintro ⟨_, _, q⟩
        exact absurd rfl (q _ hm _ (List.mem_singleton.mpr rfl))
    · rw [if_neg hm]
      constructor
      · intro e
        refine ⟨ih.mp (by omega), by simp, fun a ha b hb => ?_⟩
        rw [List.mem_singleton] at hb
        subst hb
        exact fun q => hm (q ▸ ha)
      · rintro ⟨q, _, _⟩
        have := ih.mpr q
        omega
end
section
variable {prog : Program} {w : World} {A : Around} {R : Result → Shared → Prop} {I S : Addr} {fp wr : List Addr} {G : Array GenState → Array GenState → Prop} {n : Nat} {P : Nat → Value → Prop} {St : Nat → Shared → Prop}
  {κ : Type} [DecidableEq κ] {knd : PySem.KeyKind prog w κ}
theorem setOf_kept {h h' : Heap} {f : κ → Bool} {m : Nat} (x : h.SetOf knd S f m) (k : ∀ o, h.get? S = some o → h'.get? S = some o) : h'.SetOf knd S f m :=
  let ⟨o, es, ep, t, ho, r⟩ := x
  ⟨o, es, ep, t, k o ho, r⟩
theorem fill (W : WalksS prog w A.in1 I fp wr G n P St) (ks : List κ) (hout : S ∉ fp) (hn : ks.length = n) (hroom : n + 1 < scanBound)
    (hval : ∀ i v, P i v → ∃ k, ks[i]? = some k ∧ knd.is k v = true ∧ v.scannable = true) :
    ∀ (d i : Nat) (s : Shared), i + d = n → St i s → s.heap.SetOf knd S (fun k => decide (k ∈ ks.take i)) (cnt ks i) →
      (∀ s', Moved (S :: wr) G s s' → s'.heap.SetOf knd S (fun k => decide (k ∈ ks.take n)) (cnt ks n) → R (.ok (.ret .none)) s') →
      codeAny (model prog w) A (.builtin "set.update.loop" ⟨[.ref S, .ref I], []⟩) R s
  | 0, i, s, hd, hst, hS, hR => by
    obtain rfl : i = n := hd
    have hw : S ∉ wr := fun q => hout (W.sub S q)
    refine codeAny_builtin PyProof.Rows.F.entry_set_update_loop ?_
    rw [Around.under_plainId PyProof.Rows.F.plain_set_update_loop]
    refine wpAny_bind (W.done s _ _ hst fun s' hm => wpAny_pure (hR s' ?_ (setOf_kept hS fun o e => hm.heap S o hw e)))
    exact hm.mono fun b q => List.mem_cons_of_mem S q
  | d + 1, i, s, hd, hst, hS, hR => by
    have hw : S ∉ wr := fun q => hout (W.sub S q)
    have hc := cnt_le ks i
    refine codeAny_builtin PyProof.Rows.F.entry_set_update_loop ?_
    rw [Around.under_plainId PyProof.Rows.F.plain_set_update_loop]
    refine wpAny_bind (W.item i s _ _ (by omega) hst fun v s' hP hst' hm => ?_)
    obtain ⟨k, hk, his, hsc⟩ := hval i v hP
    have hS' := setOf_kept (h' := s'.heap) hS fun o e => hm.heap S o hw e
    refine wpAny_bind (wpAny_holding ?_)
    unfold setAdd
    refine wpAny_holding (wpAny_bind (knd.pyHash his ?_))
    refine wpAny_setAddHashed_of (s := { s' with toks := s'.toks + 1 }) his hsc hS' (by omega) fun h' same new => ?_
    have e1 : ks.take (i + 1) = ks.take i ++ [k] := by rw [List.take_add_one, hk]; rfl
    have e2 : cnt ks (i + 1) = if k ∈ ks.take i then cnt ks i else cnt ks i + 1 := by
      show (match ks[i]? with | none => cnt ks i | some k => if k ∈ ks.take i then cnt ks i else cnt ks i + 1) = _
      rw [hk]
    have new' : h'.SetOf knd S (fun j => decide (j ∈ ks.take (i + 1))) (cnt ks (i + 1)) := by
      have ef : (fun j => decide (j ∈ ks.take i) || decide (j = k)) = fun j => decide (j ∈ ks.take (i + 1)) := by
        funext j
        rw [e1]
        simp [List.mem_append, Bool.decide_or]
      have en : (if decide (k ∈ ks.take i) = true then cnt ks i else cnt ks i + 1) = cnt ks (i + 1) := by
        rw [e2]
        by_cases q : k ∈ ks.take i
        · simp [q]
        · simp [q]
      rw [← ef, ← en]
      exact new
    have away : ∀ b, b ≠ S → ∀ o, s'.heap.get? b = some o → h'.get? b = some o := fun b hb o e => by rw [same.2 b hb]; exact e
    refine wpAny_pure ⟨plainId_quiet PyProof.Rows.F.plain_set_update_loop _, fill W ks hout hn hroom hval d (i + 1) _ (by omega) (W.frame _ s' _ _ hst' (Nat.le_succ _) fun b hb o e => away b (fun q => hout (q ▸ hb)) o e) new' fun s2 hm2 hS2 => hR s2 ?_ hS2⟩
    refine Moved.trans W.gtrans ((hm.mono fun b q => List.mem_cons_of_mem S q).then_heap (Nat.le_succ _) fun b o hb e => away b (fun q => hb (q ▸ List.mem_cons_self)) o e) hm2
end
section
variable {prog : Program} {w : World} {A : Around} {E : Value → Shared → Prop} {s : Shared}
/-- T(..) by its new and its init, the init's own look given -/
theorem made_by {T nw ini : String} {Bi : Builtin} {vs : List Value} {Q Q1 : Value → Shared → Prop} (tc : TypeCalled T nw ini) (look : checkTypeCall T ⟨vs, []⟩ = pure ()) (en : entryFor table ini = some Bi)
    (new : codeAny (model prog w) A.in1 (.call (.builtin nw) ⟨.type T :: vs, []⟩) (wants Q1 E) s)
    (then_ : ∀ x s1, Q1 x s1 → s1.TypeIs x T ∧
      wpAny (model prog w) A.in1.in1 (checkBuiltinCall ini ⟨x :: vs, []⟩) (fun _ s1' => wpAny (model prog w) A.in1.in1 (Bi ⟨x :: vs, []⟩)
        (fun fin s' => match fin with | .done f => wants (fun r s2 => r = .none ∧ Q x s2) E (.ok f) s' | .again c => c.quiet = true ∧ codeAny (model prog w) A.in1 c (wants (fun r s2 => r = .none ∧ Q x s2) E) s')
        (fun e s' => wants (fun r s2 => r = .none ∧ Q x s2) E (.error e) s') s1') (fun e s' => wants (fun r s2 => r = .none ∧ Q x s2) E (.error e) s') s1) :
    wpAny (model prog w) A (call (.type T) vs) Q E s := by
  have a1 := tc.made
  have a2 := tc.sub
  have a3 := tc.notType
  have a4 := tc.canCreate
  obtain ⟨_, _, a5⟩ := tc.mro
  refine wpAny_call (codeAny_of_tree (show wpAny _ _ (callAny (.type T) _) _ _ _ from wpAny_pure ⟨Code.quiet_builtin _ (by decide +kernel), codeAny_builtin PySem.F.entry_type_call ?_⟩))
  rw [Around.under_plain (weight_type_call_type T vs []) rfl]
  repeat (any_goals (first | assumption | wp_step))
  refine codeAny_mono new fun r s1 hr => ?_
  match r, hr with
  | .error e, hr => exact hr
  | .ok (.ret x), hr =>
    obtain ⟨hT, hi⟩ := then_ x s1 hr
    have b1 := tc.init.lookup
    have b2 := tc.init.bind x
    repeat (any_goals (first | assumption | wp_step))
    refine codeAny_mono (codeAny_call_builtin tc.init.plain en hi) fun r2 s2 hr2 => ?_
    match r2, hr2 with
    | .error e, hr2 => exact hr2
    | .ok (.ret y), hr2 =>
      obtain ⟨rfl, q⟩ := hr2
      repeat (any_goals (first | assumption | wp_step))
theorem isList_at {h h' : Heap} {l : Addr} {items : Array Value} (x : h.IsList l items) (k : ∀ o, h.get? l = some o → h'.get? l = some o) : h'.IsList l items :=
  let ⟨o, e, r⟩ := x
  ⟨o, k o e, r⟩
/-- the set of a list's texts -/
theorem set_texts {l : Addr} {items : Array Value} {xs : List Str} {Q : Value → Shared → Prop} (hh : A.handled = none) (hl : s.heap.IsList l items) (hi : StrsAre items.toList xs) (hroom : xs.length + 1 < scanBound)
    (h : ∀ (h' : Heap) (tk : Nat), h'.SetOf (PySem.strKind prog w) s.heap.objs.size (fun k => decide (k ∈ xs.take items.size)) (cnt xs items.size) → (∀ b o, s.heap.get? b = some o → h'.get? b = some o) →
      Q (.ref s.heap.objs.size) { s with heap := h', toks := tk }) : wpAny (model prog w) A (call (.type "set") [.ref l]) Q E s := by
  refine made_by (Q1 := fun x s1 => ∃ led : Bool, x = .ref s.heap.objs.size ∧ s1 = { s with heap := s.heap.push { cls := .type "set", dict := none, data := .set #[] 0 (.fresh 0 0 led) } })
    PySem.F.called_set (PySem.F.typeCall_set_1 (.ref l)) PySem.F.entry_set_init (code_set_new_1 (.ref l) fun led => ⟨led, rfl, rfl⟩) ?_
  rintro x s1 ⟨led, rfl, rfl⟩
  have n1 : (s.heap.push { cls := .type "set", dict := none, data := .set #[] 0 (.fresh 0 0 led) }).get? s.heap.objs.size = some { cls := .type "set", dict := none, data := .set #[] 0 (.fresh 0 0 led) } := Heap.get?_push_size _ rfl
  have ty : Shared.TypeIs { s with heap := s.heap.push { cls := .type "set", dict := none, data := .set #[] 0 (.fresh 0 0 led) } } (.ref s.heap.objs.size) "set" := ⟨_, n1, rfl⟩
  refine ⟨ty, check_set_init_1 ty ?_⟩
  have hl1 : (s.heap.push { cls := .type "set", dict := none, data := .set #[] 0 (.fresh 0 0 led) }).IsList l items := isList_at hl fun o e => Heap.get?_push_of_some _ e
  have hlt : l < s.heap.objs.size := let ⟨o, e, _⟩ := hl; Heap.lt_size e
  have hsz : xs.length = items.size := by rw [← StrsAre.len_eq hi, Array.length_toList]
  obtain ⟨ol, hol, hcl, nl, hdl⟩ := id hl1
  obtain ⟨c1, c2, c3, c4⟩ := ol
  simp only at hcl hdl
  subst hcl
  subst hdl
  have f1 := PySem.F.sub_list_set
  have f2 := PySem.F.sub_list_frozenset
  have f3 : (Value.type "list" == Value.type "dict") = false := by decide
  unfold Builtin.«set.__init__» noKeywords Builtin.Frozenset.updateFrom
  generalize hit : pyIter = it
  wp_walk
  subst hit
  refine wpAny_pyIter_list hl1 (wpAny_bind (wpAny_runValue ?_))
  have hne : l ≠ (s.heap.push { cls := .type "set", dict := none, data := .set #[] 0 (.fresh 0 0 led) }).objs.size := by rw [Heap.size_push]; exact Nat.ne_of_lt (Nat.lt_succ_of_lt hlt)
  have hout : s.heap.objs.size ∉ [(s.heap.push { cls := .type "set", dict := none, data := .set #[] 0 (.fresh 0 0 led) }).objs.size, l] := by
    rw [Heap.size_push]
    intro q
    rcases List.mem_cons.mp q with q | q
    · exact absurd q (Nat.ne_of_lt (Nat.lt_succ_self _))
    · exact absurd (List.mem_singleton.mp q) (Nat.ne_of_gt hlt)
  refine fill (knd := PySem.strKind prog w) ((Walks.list (by simp [hh]) _ l hne items).toS) xs hout hsz (by omega) (fun i v hv => ?_) items.size 0 _ (Nat.zero_add _) ⟨⟨_, Heap.get?_push_size _ rfl, rfl, rfl⟩, hl1.push _⟩ ?_ ?_
  · obtain ⟨t, rfl⟩ := SS.strs_at hi i v (by rw [Array.getElem?_toList]; exact hv)
    have hilt : i < xs.length := by rw [hsz]; exact (Array.getElem?_eq_some_iff.mp hv).1
    refine ⟨xs.getD i Str.empty, ?_, strKind_is _ _ _ _, rfl⟩
    rw [List.getD_eq_getElem?_getD, List.getElem?_eq_getElem hilt]
    rfl
  · have e0 : (fun k => decide (k ∈ xs.take 0)) = (fun _ => false : Str → Bool) := by funext k; simp
    rw [e0]
    exact (PyProof.Rows.setObjOf_fresh (knd := PySem.strKind prog w) led).setOf (Heap.get?_push_of_some _ n1) (by unfold scanBound; omega)
  · rintro ⟨h', g', d', tk', os'⟩ hm hS'
    have z1 : g' = s.gens := hm.gens
    have z2 : d' = s.drawn := hm.drawn
    have z3 : os' = s.os := hm.os
    subst z1 z2 z3
    refine wpAny_pure (wpAny_pure ⟨rfl, h h' tk' hS' fun b o e => ?_⟩)
    have hb := Heap.lt_size e
    refine hm.heap b o (fun q => ?_) (Heap.get?_push_of_some _ (Heap.get?_push_of_some _ e))
    rcases List.mem_cons.mp q with q | q
    · exact absurd q (Nat.ne_of_lt hb)
    · rw [List.mem_singleton, Heap.size_push] at q
      exact absurd q (Nat.ne_of_lt (Nat.lt_succ_of_lt hb))
end
end ST
namespace L2
open PySem PySem.Spec PyProof.Rows
/-- len(set(xs)), xs a list of texts -/
def tLenSetS (K : PySem.W.Frag) (ta : TE) : TE := fun σ H Q => ta σ H fun x H1 => ∃ (l : Addr) (xs : List Str), x = .ref l ∧ SqL K H1 l (xs.map V.str) ∧ xs.length ≤ 1000 ∧ ∀ n : Nat, n ≤ xs.length → (n = xs.length ↔ xs.Nodup) → Q (.int n) H1
theorem pe_lenSetS {X : Cx} {K : PySem.W.Frag} {a : Expr} {ta : TE} {p p2 q pos : Pos} (hc : X.calm = true) (hg : Gl X "len") (hm : X.mg "len" = none) (hg2 : Gl X "set") (hm2 : X.mg "set" = none) (ha : PE X a ta)
    (na : starEach [a] X.env = (false, eval a X.env) :: starEach [] X.env := by rfl) (hK : X.K = K := by rfl) : PE X (.Call (.Name "len" p) [.Call (.Name "set" p2) [a] [] q] [] pos) (tLenSetS K ta) := by
  subst hK
  refine ⟨fun pins s σ H Q I h => Call_ (ld_blt I hg hm boot_len (PyProof.Rows.callWith_builtin1 (PyProof.Rows.args_cons (Call_ (ld_blt I hg2 hm2 boot_set ?_)) rfl) rfl rfl))⟩
  refine PyProof.Rows.callWith_type1 (PyProof.Rows.args_cons (thn (ha.run pins s σ H _ I h) fun v s1 ⟨x, H1, I1, r1, l, xs, ex, hS, hz, k⟩ => PyProof.Rows.args_nil ?_) na) na rfl
  subst ex
  cases r1
  obtain ⟨its, r, pl, _⟩ := I1.list hS
  have hlen : its.toArray.size = xs.length := by rw [List.size_toArray, ← r.length, List.length_map]
  refine ST.set_texts (I1.ok.hd hc) pl.isList (by simpa using strsAre_of r) (by unfold scanBound; omega) fun h' tk hS' hk => PyProof.Rows.args_nil ?_
  rw [hlen] at hS'
  obtain ⟨o, es, ep, t, ho, hex, hd, _, _, _, hf, hn⟩ := hS'
  have I2 : Inv X pins σ H1 { s1 with heap := h', toks := tk } := I1.kept hk
  have hle := ST.cnt_le xs xs.length
  refine call_len_set ho hex hd hf (by rw [hn]; omega) ⟨.int (ST.cnt xs xs.length : Nat), H1, I2.tok _, ⟨_, by rw [hn]⟩, k _ hle ?_⟩
  have := ST.cnt_full xs xs.length (Nat.le_refl _)
  rwa [List.take_of_length_le (Nat.le_refl _)] at this
end L2

set_option Elab.async false
set_option linter.all false
set_option maxRecDepth 100000
namespace EX
open PySem L2 Evl

/-! ### a def with its promise, ready to be called -/
structure Def (P : Program) (w : World) (K : PySem.W.Frag) (mg : Str → Option Value) (base : Heap) (k : Nat) (x : Str) (ps : List Str) (sp : Sp) : Prop where
  ex : ∃ (f : Addr) (fd : FuncData), FnOk P w K mg base CX0 k f fd ps sp ∧ mg x = some (.ref f) ∧ PySem.W.keepIn K (.ref f) = true ∧ Binds K fd ps []
theorem pe_def {X : Cx} {k : Nat} {x : Str} {ps : List Str} {sp : Sp} {p pos : Pos} {e : Expr} {es : List Expr} {t : TA} (h : Def X.prog X.w X.K X.mg X.base k x ps sp) (hr : Room k X.A) (hg : Gl X x) (ha : PA X (e :: es) t)
    (hdb : (x == ("__debug__" : Str)) = false := by decide) (he : starEach (e :: es) X.env = (false, eval e X.env) :: starEach es X.env := by rfl) (hpl : (backTo pos (starEach es X.env)).any (·.1) = false := by rfl) :
    PE X (.Call (.Name x p) (e :: es) [] pos) (tCall sp [] E0 t) := by
  obtain ⟨f, fd, F, m, kp, b⟩ := h.ex
  exact pe_call F hr hg m kp b .nil pass0 ha hdb he hpl
theorem pe_def0 {X : Cx} {k : Nat} {x : Str} {ps : List Str} {sp : Sp} {p pos : Pos} (h : Def X.prog X.w X.K X.mg X.base k x ps sp) (hr : Room k X.A) (hg : Gl X x)
    (hdb : (x == ("__debug__" : Str)) = false := by decide) : PE X (.Call (.Name x p) [] [] pos) (tCall sp [] E0 tNil) := by
  obtain ⟨f, fd, F, m, kp, b⟩ := h.ex
  exact pe_call0 F hr hg m kp b .nil pass0 hdb

/-! ### rules with the written part named -/
section
variable {X : Cx} {K : PySem.W.Frag}
theorem ixL (h : X.K = K := by rfl) : IxR X (rIxL K) := h ▸ ix_list
theorem ixT (h : X.K = K := by rfl) : IxR X (rIxT K) := h ▸ ix_tup
theorem slL (h : X.K = K := by rfl) : SlR X (rSlL K) := h ▸ sl_list
theorem slT (h : X.K = K := by rfl) : SlR X (rSlT K) := h ▸ sl_tup
theorem opIn (h : X.K = K := by rfl) : OpR X (compareOp .In) (rIn K false) := h ▸ op_in_seq
theorem opNin (h : X.K = K := by rfl) : OpR X (compareOp .NotIn) (rIn K true) := h ▸ op_notIn_seq
theorem opEqD (hu : X.A.units + 64 < cLine) (h : X.K = K := by rfl) : OpR X (compareOp .Eq) (rEqD K) := h ▸ op_eqD hu
theorem opNeD (hu : X.A.units + 64 < cLine) (h : X.K = K := by rfl) : OpR X (compareOp .NotEq) (rNeD K) := h ▸ op_neD hu
theorem opInD (hu : X.A.units + 65 < cLine) (h : X.K = K := by rfl) : OpR X (compareOp .In) (rInD K) := h ▸ op_inD hu
theorem opNinD (hu : X.A.units + 65 < cLine) (h : X.K = K := by rfl) : OpR X (compareOp .NotIn) (rNotInD K) := h ▸ op_notInD hu
theorem crAny (hc : X.calm = true := by rfl) (h : X.K = K := by rfl) : CallR X (.builtin "any") (rAny K) := h ▸ cr_any hc
theorem crAll (hc : X.calm = true := by rfl) (h : X.K = K := by rfl) : CallR X (.builtin "all") (rAll K) := h ▸ cr_all hc
theorem clLen (h : X.K = K := by rfl) : CallR X (.builtin "len") (rLenS K) := h ▸ call_len_seq
theorem clList (h : X.K = K := by rfl) : CallR X (.type "list") (rListS K) := h ▸ call_list_of
def rDictP (K : PySem.W.Frag) : List V → Hp → VK → Prop := fun xs H Q => ∃ (a : Addr) (ps : List Addr) (kvs : List (Key × V)), xs = [.ref a] ∧ SqL K H a (ps.map V.ref) ∧ Paired (fun p kv => SqT K H p [kV kv.1, kv.2]) ps kvs ∧ ∀ p, H p = none → Q (.ref p) (upd H p (.dK (mergeK [] kvs)))
theorem clDictP (hc : X.calm = true := by rfl) (h : X.K = K := by rfl) : CallR X (.type "dict") (rDictP K) := h ▸ call_dictP hc
theorem piL {tg l : Expr} {tl : TE} (hl : PE X l tl) (h : X.K = K := by rfl) : PI X tg l (iList K tl) := h ▸ pi_list hl
theorem piT {tg l : Expr} {tl : TE} (hl : PE X l tl) (h : X.K = K := by rfl) : PI X tg l (iTup K tl) := h ▸ pi_tup hl
theorem peBm {o e : Expr} {es : List Expr} {to : TE} {t : TA} {name : Str} {apos cpos : Pos} {T id : String} {r : V → List V → Hp → VK → Prop} (pa : PlainAttrs T) (slot : Slot T name id) (hty : typeOf (.builtin id) = pure (.type "method_descriptor")) (hm : MtR X id r) (ho : PE X o to) (ha : PA X (e :: es) t)
    (hbase : attributeBase o name X.env (eval o X.env) = eval o X.env := by rfl)
    (hfew : ((backTo cpos (starEach (e :: es) X.env)).all (fun x => !x.1) && (backToKw cpos (keywordEach [] X.env)).all (fun x => x.1.isSome)
      && decide ((e :: es).length + ([] : List Keyword).length + (if ([] : List Keyword).isEmpty then 0 else 1) < 30)) = true := by rfl)
    (hline : (apos.endLine == cpos.line) = true := by rfl) (hs : starEach (e :: es) X.env = (false, eval e X.env) :: starEach es X.env := by rfl) (hplain : (backTo cpos (starEach es X.env)).any (·.1) = false := by rfl) (h : X.K = K := by rfl) :
    PE X (.Call (.Attribute o name apos) (e :: es) [] cpos) (tBM K T r to t) := h ▸ pe_bm pa slot hty hm ho ha hbase hfew hline hs hplain
end
section
variable {X : Cx} {K : PySem.W.Frag}
theorem hu65 {k : Nat} {A : Around} (hr : Room k A) : A.units + 65 < cLine := by have := hr.un; omega
theorem piEnum {e : Expr} {ta : TA} {p pos tpos : Pos} {elts : List Expr} {kk : Nat} (hg : Gl X "enumerate") (hm : X.mg "enumerate" = none) (ha : PA X [e] ta) (hs : starEach [e] X.env = [(false, eval e X.env)] := by rfl) (h : X.K = K := by rfl) :
    PI X (.Tuple elts kk tpos) (.Call (.Name "enumerate" p) [e] [] pos) (iEnum K ta) := h ▸ pi_enum hg hm ha hs
theorem piRev {tg e : Expr} {ta : TA} {p pos : Pos} (hg : Gl X "reversed") (hm : X.mg "reversed" = none) (ha : PA X [e] ta) (hs : starEach [e] X.env = [(false, eval e X.env)] := by rfl) (h : X.K = K := by rfl) :
    PI X tg (.Call (.Name "reversed" p) [e] [] pos) (iRev K ta) := h ▸ pi_reversed hg hm ha hs
end
/-! ### texts among values -/
theorem inV_str (t : Str) : ∀ l : List Str, inV (.str t) (l.map V.str) = decide (t ∈ l)
  | [] => rfl
  | a :: l => by
    have ih := inV_str t l
    unfold inV at ih ⊢
    rw [List.map_cons, List.any_cons, ih]
    show ((a == t) || decide (t ∈ l)) = decide (t ∈ a :: l)
    by_cases e : a = t
    · subst e; simp
    · have h1 : (a == t) = false := by simpa [beq_iff_eq] using e
      have h2 : ¬ t = a := fun q => e q.symm
      rw [h1, Bool.false_or]
      simp [List.mem_cons, h2]
theorem flat_str (l : List Str) : (l.map V.str).all flatV = true := by
  induction l with
  | nil => rfl
  | cons a l ih => rw [List.map_cons, List.all_cons, ih]; rfl
theorem at0 {α : Type} {x : α} {r : List α} : atI (x :: r) 0 = some x := atI_nat (j := 0) rfl
def optS : Option Str → V
  | none => .non
  | some t => .str t
theorem cut1 {xs : List V} : cutV xs (some 1) none = xs.tail := by
  unfold cutV
  rw [HT.sIx_none]
  have h1 : HT.sIx xs.length 0 (some 1) = min 1 xs.length := HT.sIx_nat xs.length 0 1
  rw [h1]
  cases xs with
  | nil => rfl
  | cons a r =>
    have h2 : min 1 (a :: r).length = 1 := by simp
    rw [h2]
    simp
/-! ### readings that evaluate -/
section
variable {K : PySem.W.Frag} {σ : L2.St} {H H' : Hp} {ta tb te : TE}
theorem ev_any {bs : List Bool} (h : EvL te σ H (bs.map V.bl)) : Ev (tCB (rAny K) (tCons te tNil)) σ H (.bl (bs.any id)) := fun H1 e Q q =>
  h H1 e _ fun p H2 _ e2 hp => ⟨p, bs, rfl, sq_of hp, q H2 e2⟩
theorem ev_all {bs : List Bool} (h : EvL te σ H (bs.map V.bl)) : Ev (tCB (rAll K) (tCons te tNil)) σ H (.bl (bs.all id)) := fun H1 e Q q =>
  h H1 e _ fun p H2 _ e2 hp => ⟨p, bs, rfl, sq_of hp, q H2 e2⟩
end
section
variable {K : PySem.W.Frag} {σ : L2.St} {H H' : Hp} {ta tb te : TE} {D : Ends} {x : V}
theorem rv_isN : RV (fun x y H Q => y = .non ∧ Q (.bl (decide (x = .non))) H) x .non H (.bl (decide (x = .non))) := fun H1 _ _ q => ⟨rfl, q H1 (Ex.refl H1)⟩
theorem rv_notN : RV (fun x y H Q => y = .non ∧ Q (.bl (!decide (x = .non))) H) x .non H (.bl (!decide (x = .non))) := fun H1 _ _ q => ⟨rfl, q H1 (Ex.refl H1)⟩
/-- xs.pop(0) as a statement -/
theorem s_pop0 {l : Addr} {y : V} {xs : List V} (hl : H l = some (.lst (y :: xs))) (ha : Ev ta σ H (.ref l)) (h : Ev te σ H (.int 0)) (k : ∀ H1, Ex H H1 → D.nx σ (upd H1 l (.lst xs))) : tDrop (tBM K "list" rPopAt ta (tCons te tNil)) D σ H :=
  ha H (Ex.refl H) _ fun H1 e1 => ⟨Or.inl ⟨rfl, _, sq_of (e1 l _ hl)⟩, h H1 e1 _ fun H2 e2 => ⟨l, y :: xs, 0, 0, y, rfl, rfl, e2 l _ (e1 l _ hl), by decide, by decide, by simp [seqIndex?], rfl, k H2 (e1.trans e2)⟩⟩
end
/-- lists of texts at the addresses that a list holds -/
def Rows (K : PySem.W.Frag) (H : Hp) (ps : List V) (ls : List (List Str)) : Prop :=
  ps.length = ls.length ∧ ∀ (i : Nat) (l : List Str), ls[i]? = some l → ∃ p, ps[i]? = some (.ref p) ∧ SqL K H p (l.map V.str)
theorem Rows.mono {K : PySem.W.Frag} {H H' : Hp} {ps : List V} {ls : List (List Str)} (r : Rows K H ps ls) (e : Ex H H') : Rows K H' ps ls :=
  ⟨r.1, fun i l h => let ⟨p, h1, h2⟩ := r.2 i l h; ⟨p, h1, ex_l e h2⟩⟩
theorem Rows.at {K : PySem.W.Frag} {H : Hp} {ps : List V} {ls : List (List Str)} (r : Rows K H ps ls) {i : Nat} {x : V} (h : ps[i]? = some x) : ∃ p l, x = .ref p ∧ ls[i]? = some l ∧ SqL K H p (l.map V.str) := by
  have hi : i < ls.length := by rw [← r.1]; exact (List.getElem?_eq_some_iff.mp h).1
  obtain ⟨p, h1, h2⟩ := r.2 i ls[i] (List.getElem?_eq_getElem hi)
  rw [h] at h1
  exact ⟨p, ls[i], Option.some.inj h1, List.getElem?_eq_getElem hi, h2⟩
/-! ### more of comprehensions -/
theorem range_getD {α : Type} (rs : List α) (d : α) : (List.range rs.length).map (fun i => rs.getD i d) = rs := by
  apply List.ext_getElem?
  intro j
  by_cases h : j < rs.length
  · rw [List.getElem?_map, List.getElem?_range h, List.getElem?_eq_getElem h]
    show some (rs.getD j d) = _
    rw [List.getD_eq_getElem?_getD, List.getElem?_eq_getElem h]
    rfl
  · rw [List.getElem?_eq_none (by simp; omega), List.getElem?_eq_none (by omega)]
theorem range_filter {α β : Type} (rs : List α) (d : α) (p : α → Bool) (f : α → β) : ((List.range rs.length).filter fun i => p (rs.getD i d)).map (fun i => f (rs.getD i d)) = (rs.filter p).map f := by
  conv => rhs; rw [← range_getD rs d]
  rw [List.filter_map, List.map_map]
  rfl
theorem given_filter {α : Type} (rs : List α) (d : α) (p : α → Bool) (f : α → V) : given rs.length (fun i => p (rs.getD i d)) (fun i => f (rs.getD i d)) = (rs.filter p).map f := range_filter rs d p f
theorem given_map {α : Type} (rs : List α) (d : α) (f : α → V) : given rs.length (fun _ => true) (fun i => f (rs.getD i d)) = rs.map f := by
  have := given_filter rs d (fun _ => true) f
  rwa [List.filter_eq_self.mpr (fun _ _ => rfl)] at this
theorem getD_of {α : Type} {rs : List α} {j : Nat} {x d : α} (h : rs[j]? = some x) : rs.getD j d = x := by
  rw [List.getD_eq_getElem?_getD, h]
  rfl
/-- lists at addresses -/
def LAt (H : Hp) (qs : List Addr) (ls : List (List V)) : Prop := qs.length = ls.length ∧ ∀ (i : Nat) (l : List V), ls[i]? = some l → ∃ q, qs[i]? = some q ∧ H q = some (.lst l)
theorem LAt.mono {H H' : Hp} {qs : List Addr} {ls : List (List V)} (r : LAt H qs ls) (e : ∀ q ∈ qs, ∀ o, H q = some o → H' q = some o) : LAt H' qs ls :=
  ⟨r.1, fun i l h => let ⟨q, h1, h2⟩ := r.2 i l h; ⟨q, h1, e q (List.mem_of_getElem? h1) _ h2⟩⟩
theorem LAt.all {H : Hp} {qs : List Addr} {ls : List (List V)} (r : LAt H qs ls) {q : Addr} (h : q ∈ qs) : ∃ l, H q = some (.lst l) := by
  obtain ⟨i, hi, e⟩ := List.getElem_of_mem h
  have hl : i < ls.length := by rw [← r.1]; exact hi
  obtain ⟨q', h1, h2⟩ := r.2 i ls[i] (List.getElem?_eq_getElem hl)
  rw [List.getElem?_eq_getElem hi, e] at h1
  cases h1
  exact ⟨_, h2⟩
theorem LAt.snoc {H : Hp} {qs : List Addr} {ls : List (List V)} {p : Addr} {l : List V} (r : LAt H qs ls) (h : H p = some (.lst l)) : LAt H (qs ++ [p]) (ls ++ [l]) := by
  refine ⟨by simp [r.1], fun i x hx => ?_⟩
  by_cases hi : i < ls.length
  · rw [List.getElem?_append_left hi] at hx
    obtain ⟨q, h1, h2⟩ := r.2 i x hx
    exact ⟨q, by rw [List.getElem?_append_left (by rw [r.1]; exact hi)]; exact h1, h2⟩
  · rw [List.getElem?_append_right (by omega)] at hx
    have h0 : i - ls.length = 0 := by
      cases hz : i - ls.length with
      | zero => rfl
      | succ n => rw [hz] at hx; simp at hx
    rw [h0] at hx
    simp at hx
    subst hx
    refine ⟨p, ?_, h⟩
    rw [List.getElem?_append_right (by rw [r.1]; omega), r.1, h0]
    rfl
def givenL (n : Nat) (f : Nat → Bool) (v : Nat → List V) : List (List V) := ((List.range n).filter f).map v
theorem givenL_yes {n : Nat} {f : Nat → Bool} {v : Nat → List V} (h : f n = true) : givenL (n + 1) f v = givenL n f v ++ [v n] := by
  unfold givenL
  rw [List.range_succ, List.filter_append, List.map_append, List.filter_cons, if_pos h]
  rfl
theorem givenL_no {n : Nat} {f : Nat → Bool} {v : Nat → List V} (h : f n = false) : givenL (n + 1) f v = givenL n f v := by
  unfold givenL
  rw [List.range_succ, List.filter_append, List.map_append, List.filter_cons, if_neg (by rw [h]; decide)]
  simp
theorem givenL_len (n : Nat) (f : Nat → Bool) (v : Nat → List V) : (givenL n f v).length ≤ n := by
  unfold givenL
  rw [List.length_map]
  have h := List.length_filter_le f (List.range n)
  rwa [List.length_range] at h
/-- new lists, all apart, in a new list -/
structure NewL (H H' : Hp) (D : Addr) (qs : List Addr) (ls : List (List V)) : Prop where
  nD : H D = none
  ex : Ex H H'
  at_ : H' D = some (.lst (qs.map V.ref))
  out : D ∉ qs
  nd : qs.Nodup
  new : ∀ q ∈ qs, H q = none
  rows : LAt H' qs ls
theorem nodup_snoc {α : Type} {l : List α} {a : α} (h : l.Nodup) (ha : a ∉ l) : (l ++ [a]).Nodup := by
  rw [List.nodup_append]
  exact ⟨h, by simp, fun x hx y hy => by simp at hy; subst hy; exact fun e => ha (e ▸ hx)⟩
section
variable {K : PySem.W.Frag} {σ : L2.St} {H : Hp} {te tl : TE} {t : TT}
theorem newL_turn {H0 H' : Hp} {D : Addr} {qs : List Addr} {n : Nat} {f : Nat → Bool} {v : Nat → List V} {σ2 : L2.St} (r : NewL H0 H' D qs (givenL n f v)) (hn : n < 50000) (ht : EvT t σ2 H0 (f n)) (he : f n = true → EvL te σ2 H0 (v n)) :
    t σ2 H' fun b H3 => if b = true then te σ2 H3 fun y H4 => ∃ acc, H4 D = some (.lst acc) ∧ acc.length < sizeLine ∧ (∃ qs', NewL H0 (upd H4 D (.lst (acc ++ [y]))) D qs' (givenL (n + 1) f v)) else ∃ qs', NewL H0 H3 D qs' (givenL (n + 1) f v) := by
  refine ht H' r.ex _ fun H3 e3 => ?_
  have rows3 := r.rows.mono (H' := H3) fun q _ o e => e3 q o e
  cases hf : f n with
  | false =>
    show ∃ qs', NewL H0 H3 D qs' (givenL (n + 1) f v)
    rw [givenL_no hf]
    exact ⟨qs, r.nD, r.ex.trans e3, e3 _ _ r.at_, r.out, r.nd, r.new, rows3⟩
  | true =>
    show te σ2 H3 _
    refine he hf H3 (r.ex.trans e3) _ fun p H4 hp e4 hp4 => ?_
    have hl : qs.length ≤ n := by rw [r.rows.1]; exact givenL_len n f v
    have hD3 : H3 D = some (.lst (qs.map V.ref)) := e3 _ _ r.at_
    have hpD : p ≠ D := fun q => by rw [q, hD3] at hp; cases hp
    have hpq : p ∉ qs := fun q => by
      obtain ⟨l, hl⟩ := rows3.all q
      rw [hl] at hp
      cases hp
    refine ⟨qs.map V.ref, e4 _ _ hD3, sz_lt (by rw [List.length_map]; omega), qs ++ [p], r.nD, Ex.mut ((r.ex.trans e3).trans e4) r.nD, ?_, ?_, nodup_snoc r.nd hpq, ?_, ?_⟩
    · rw [upd_same, List.map_append]
      rfl
    · intro q
      rcases List.mem_append.mp q with q | q
      · exact r.out q
      · exact hpD (List.mem_singleton.mp q).symm
    · intro q hq
      rcases List.mem_append.mp hq with hq | hq
      · exact r.new q hq
      · rw [List.mem_singleton.mp hq]
        exact fresh_back (r.ex.trans e3) hp
    · rw [givenL_yes hf]
      refine LAt.snoc (rows3.mono fun q hq o e => ?_) ?_
      · have hqD : q ≠ D := fun z => r.out (by rw [← z]; exact hq)
        rw [upd_ne hqD]
        exact e4 _ _ e
      · rw [upd_ne hpD]
        exact hp4
theorem lcNew {a : Addr} {xs : List V} {j : Nat} {vs : List Nat} (f : Nat → Bool) (v : Nat → List V) (h : Ev tl σ H (.ref a)) (hx : SqL K H a xs) (hz : xs.length ≤ 40000) (hw : ∀ x, wipe ((wipe σ vs).set j (some x)) vs = wipe σ vs)
    (ht : ∀ (i : Nat) (x : V) H1, Ex H H1 → xs[i]? = some x → EvT t ((wipe σ vs).set j (some x)) H1 (f i)) (he : ∀ (i : Nat) (x : V) H1, Ex H H1 → xs[i]? = some x → f i = true → EvL te ((wipe σ vs).set j (some x)) H1 (v i))
    {Q : VK} (q : ∀ Dl qs H', NewL H H' Dl qs (givenL xs.length f v) → Q (.ref Dl) H') : tLc (iList K tl) (gName j) t te vs σ H Q :=
  h H (Ex.refl H) _ fun H1 e1 => ⟨a, rfl, ⟨xs, ex_l e1 hx⟩, fun Dl hD =>
    lc_list (xs := xs) (fun i H' => ∃ qs, NewL H1 H' Dl qs (givenL i f v)) ⟨[], hD, Ex.new hD, upd_same, by simp, List.nodup_nil, (fun q hq => nomatch hq), rfl, (fun i l hl => by simp [givenL] at hl)⟩
      (fun i H' _ ⟨qs, r⟩ => ex_l (e1.trans r.ex) hx)
      (fun i x H' hi ⟨qs, r⟩ => ⟨hw x, newL_turn r (by have := (List.getElem?_eq_some_iff.mp hi).1; omega) (ht i x H1 e1 hi) (fun hf => he i x H1 e1 hi hf)⟩)
      (fun H' ⟨qs, r⟩ => q Dl qs H' ⟨fresh_back e1 r.nD, e1.trans r.ex, r.at_, r.out, r.nd, (fun a ha => fresh_back e1 (r.new a ha)), r.rows⟩)⟩
theorem q_lcNew {D : Ends} {tz : TS} {i : Nat} {a : Addr} {xs : List V} {j : Nat} {vs : List Nat} (f : Nat → Bool) (v : Nat → List V) (h : Ev tl σ H (.ref a)) (hx : SqL K H a xs) (hz : xs.length ≤ 40000) (hw : ∀ x, wipe ((wipe σ vs).set j (some x)) vs = wipe σ vs)
    (ht : ∀ (i : Nat) (x : V) H1, Ex H H1 → xs[i]? = some x → EvT t ((wipe σ vs).set j (some x)) H1 (f i)) (he : ∀ (i : Nat) (x : V) H1, Ex H H1 → xs[i]? = some x → f i = true → EvL te ((wipe σ vs).set j (some x)) H1 (v i))
    (k : ∀ Dl qs H', NewL H H' Dl qs (givenL xs.length f v) → tz D (σ.set i (some (.ref Dl))) H') : tSeq (tAsg (tLc (iList K tl) (gName j) t te vs) (gName i)) tz D σ H :=
  lcNew (Q := fun x H1 => gName i x σ H1 (tz D)) f v h hx hz hw ht he k
end
/-! ### data: lists of texts, or none -/
def dS (l : List Str) : PyData := .list (l.map .str)
def dO : Option (List Str) → PyData
  | none => .none
  | some l => dS l
def Oks (l : List Str) : Prop := ∀ x ∈ l, PyData.strOk x = true
theorem canLayAll_strs : ∀ {l : List Str}, Oks l → PyData.canLayAll0 (l.map .str) = true
  | [], _ => rfl
  | a :: l, h => by
    show (PyData.strOk a && PyData.canLayAll0 (l.map .str)) = true
    rw [h a List.mem_cons_self, canLayAll_strs fun x hx => h x (List.mem_cons_of_mem _ hx)]
    rfl
theorem depthAll_strs : ∀ l : List Str, PyData.depthAll (l.map .str) = 0
  | [] => by simp [PyData.depthAll]
  | a :: l => by
    have := depthAll_strs l
    simp [PyData.depthAll, PyData.depth, this]
theorem depth_dS (l : List Str) : (dS l).depth = 1 := by
  unfold dS
  simp [PyData.depth, depthAll_strs]
theorem shaped_dS {l : List Str} (h : Oks l) : SeqAt.shaped (dS l) = true := by
  unfold SeqAt.shaped
  rw [depth_dS]
  show (PyData.canLayAll0 (l.map .str) && _) = true
  rw [canLayAll_strs h]
  rfl
theorem shaped_none : SeqAt.shaped .none = true := by
  unfold SeqAt.shaped
  simp [PyData.canLay0, PyData.depth]
theorem shaped_str {x : Str} (h : PyData.strOk x = true) : SeqAt.shaped (.str x) = true := by
  unfold SeqAt.shaped
  simp [PyData.canLay0, PyData.depth, h]
def OksO (r : Option (List Str)) : Prop := ∀ l, r = some l → Oks l
theorem shaped_dO {r : Option (List Str)} (h : OksO r) : SeqAt.shaped (dO r) = true := by
  cases r with
  | none => exact shaped_none
  | some l => exact shaped_dS (h l rfl)
theorem depth_dO (r : Option (List Str)) : (dO r).depth ≤ 1 := by
  cases r with
  | none => simp [dO, PyData.depth]
  | some l => rw [show dO (some l) = dS l from rfl, depth_dS]; exact Nat.le_refl _
theorem shaped_dOs {rs : List (Option (List Str))} (h : ∀ r ∈ rs, OksO r) : SeqAt.shaped (.list (rs.map dO)) = true := by
  have h1 : PyData.canLayAll0 (rs.map dO) = true ∧ PyData.depthAll (rs.map dO) ≤ 1 := by
    induction rs with
    | nil => exact ⟨rfl, by simp [PyData.depthAll]⟩
    | cons r rs ih =>
      obtain ⟨a, b⟩ := ih fun x hx => h x (List.mem_cons_of_mem _ hx)
      have c := shaped_dO (h r List.mem_cons_self)
      have d := depth_dO r
      refine ⟨?_, ?_⟩
      · show (PyData.canLay0 (dO r) && PyData.canLayAll0 (rs.map dO)) = true
        rw [SeqAt.canLay_of_shaped c, a]
        rfl
      · rw [List.map_cons]
        simp only [PyData.depthAll]
        omega
  unfold SeqAt.shaped
  show (PyData.canLayAll0 (rs.map dO) && decide (PyData.depth (.list (rs.map dO)) ≤ 64)) = true
  rw [h1.1]
  have : PyData.depth (.list (rs.map dO)) ≤ 64 := by
    simp only [PyData.depth]
    omega
  simp [this]
theorem eqv_strs : ∀ a b : List Str, PyData.eqvAll (a.map .str) (b.map .str) = decide (a = b)
  | [], [] => by simp [PyData.eqvAll]
  | [], _ :: _ => by simp [PyData.eqvAll]
  | _ :: _, [] => by simp [PyData.eqvAll]
  | x :: a, y :: b => by
    rw [List.map_cons, List.map_cons]
    simp only [PyData.eqvAll, PyData.eqv, eqv_strs a b]
    by_cases h : x = y
    · subst h; simp
    · simp [h]
theorem eqv_dS (a b : List Str) : PyData.eqv (dS a) (dS b) = decide (a = b) := by
  unfold dS
  simp only [PyData.eqv]
  exact eqv_strs a b
theorem eqv_dO (a b : Option (List Str)) : PyData.eqv (dO a) (dO b) = decide (a = b) := by
  cases a with
  | none =>
    cases b with
    | none => simp [dO, PyData.eqv]
    | some l => simp [dO, dS, PyData.eqv]
  | some k =>
    cases b with
    | none => simp [dO, dS, PyData.eqv]
    | some l =>
      show PyData.eqv (dS k) (dS l) = _
      rw [eqv_dS]
      simp
theorem any_none (rs : List (Option (List Str))) : ((rs.map dO).any fun z => PyData.eqv z .none) = rs.any (·.isNone) := by
  rw [List.any_map]
  congr 1
  funext r
  show PyData.eqv (dO r) (dO none) = _
  rw [eqv_dO]
  cases r <;> simp
section
variable {K : PySem.W.Frag} {H : Hp}
theorem dp_all_strs : ∀ l : List Str, DpAll K H (l.map V.str) (l.map .str)
  | [] => .nil
  | a :: l => .cons (.str a) (dp_all_strs l)
theorem dp_S {p : Addr} {l : List Str} (h : SqL K H p (l.map V.str)) : Dp K H (.ref p) (dS l) := .lst h (dp_all_strs l)
/-- a value that is none or a list of texts -/
def ValO (K : PySem.W.Frag) (H : Hp) (v : V) (r : Option (List Str)) : Prop := match r with
  | none => v = .non
  | some l => ∃ p, v = .ref p ∧ SqL K H p (l.map V.str)
theorem ValO.mono {H' : Hp} {v : V} {r : Option (List Str)} (h : ValO K H v r) (e : Ex H H') : ValO K H' v r := by
  cases r with
  | none => exact h
  | some l =>
    obtain ⟨p, a, b⟩ := h
    exact ⟨p, a, ex_l e b⟩
theorem dp_O {v : V} {r : Option (List Str)} (h : ValO K H v r) : Dp K H v (dO r) := by
  cases r with
  | none =>
    have : v = .non := h
    subst this
    exact .non
  | some l =>
    obtain ⟨p, rfl, b⟩ := h
    exact dp_S b
theorem dp_Os : ∀ {vs : List V} {rs : List (Option (List Str))}, vs.length = rs.length → (∀ (i : Nat) v r, vs[i]? = some v → rs[i]? = some r → ValO K H v r) → DpAll K H vs (rs.map dO)
  | [], [], _, _ => .nil
  | v :: vs, r :: rs, hl, h => .cons (dp_O (h 0 v r rfl rfl)) (dp_Os (by simpa using hl) fun i a b ha hb => h (i + 1) a b (by simpa using ha) (by simpa using hb))
  | [], _ :: _, hl, _ => by simp at hl
  | _ :: _, [], hl, _ => by simp at hl
end
/-! ### dicts, lists: what evaluates -/
section
variable {K : PySem.W.Frag} {σ : L2.St} {H : Hp} {ta tb te td ty : TE} {D : Ends} {tz : TS} {x v : V}
theorem dget_of {d : Addr} {kvs : List (Key × V)} {k : Key} (hd : Rd H d (.dK kvs)) : DGet H d (kV k) (valV kvs k) := .inl ⟨kvs, k, hd, rfl, rfl⟩
theorem ev_dget {d : Addr} {kvs : List (Key × V)} {k : Key} (h1 : Ev td σ H (.ref d)) (h2 : Ev ty σ H (kV k)) (hd : Rd H d (.dK kvs)) (hv : valV kvs k = some v) : Ev (tDGet td ty) σ H v := fun H1 e Q q =>
  h1 H1 e _ fun H2 e2 => h2 H2 (e.trans e2) _ fun H3 e3 => ⟨d, v, rfl, by rw [← hv]; exact dget_of (ex_rd ((e.trans e2).trans e3) hd), q H3 (e2.trans e3)⟩
theorem ev_din {d : Addr} {kvs : List (Key × V)} {k : Key} (h2 : Ev ty σ H (kV k)) (h1 : Ev td σ H (.ref d)) (hd : Rd H d (.dK kvs)) : Ev (tDIn ty td) σ H (.bl (valV kvs k).isSome) := fun H1 e Q q =>
  h2 H1 e _ fun H2 e2 => h1 H2 (e.trans e2) _ fun H3 e3 => ⟨d, _, rfl, dget_of (ex_rd ((e.trans e2).trans e3) hd), q H3 (e2.trans e3)⟩
theorem ev_dnin {d : Addr} {kvs : List (Key × V)} {k : Key} (h2 : Ev ty σ H (kV k)) (h1 : Ev td σ H (.ref d)) (hd : Rd H d (.dK kvs)) : Ev (tDNotIn ty td) σ H (.bl (!(valV kvs k).isSome)) := fun H1 e Q q =>
  h2 H1 e _ fun H2 e2 => h1 H2 (e.trans e2) _ fun H3 e3 => ⟨d, _, rfl, dget_of (ex_rd ((e.trans e2).trans e3) hd), q H3 (e2.trans e3)⟩
/-- xs + [..] -/
theorem el_cat {l : Addr} {xs ys : List V} (ha : Ev ta σ H (.ref l)) (hl : H l = some (.lst xs)) (hb : EvL tb σ H ys) (hz : xs.length + ys.length ≤ 100000) : EvL (tOp rCat ta tb) σ H (xs ++ ys) := fun H1 e Q q =>
  ha H1 e _ fun H2 e2 => hb H2 (e.trans e2) _ fun b H3 _ e3 hb3 => ⟨l, b, xs, ys, rfl, rfl, ((e.trans e2).trans e3) _ _ hl, hb3, sz_of hz, fun p hp => q p _ (fresh_back (e2.trans e3) hp) ((e2.trans e3).trans (Ex.new hp)) upd_same⟩
/-- [..] + xs -/
theorem el_cat1 {b : Addr} {xs ys : List V} (ha : EvL ta σ H xs) (hb : Ev tb σ H (.ref b)) (hl : H b = some (.lst ys)) (hz : xs.length + ys.length ≤ 100000) : EvL (tOp rCat ta tb) σ H (xs ++ ys) := fun H1 e Q q =>
  ha H1 e _ fun a H2 _ e2 ha2 => hb H2 (e.trans e2) _ fun H3 e3 => ⟨a, b, xs, ys, rfl, rfl, e3 _ _ ha2, ((e.trans e2).trans e3) _ _ hl, sz_of hz, fun p hp => q p _ (fresh_back (e2.trans e3) hp) ((e2.trans e3).trans (Ex.new hp)) upd_same⟩
/-- [..] + [..] -/
theorem el_cat2 {xs ys : List V} (ha : EvL ta σ H xs) (hb : EvL tb σ H ys) (hz : xs.length + ys.length ≤ 100000) : EvL (tOp rCat ta tb) σ H (xs ++ ys) := fun H1 e Q q =>
  ha H1 e _ fun a H2 _ e2 ha2 => hb H2 (e.trans e2) _ fun b H3 _ e3 hb3 => ⟨a, b, xs, ys, rfl, rfl, e3 _ _ ha2, hb3, sz_of hz, fun p hp => q p _ (fresh_back (e2.trans e3) hp) ((e2.trans e3).trans (Ex.new hp)) upd_same⟩
/-- None in a list of such values; d: its data -/
theorem rv_inD {a : Addr} {d : PyData} {ds : List PyData} (h1 : Dp K H x d) (h2 : Dp K H (.ref a) (.list ds)) (s1 : SeqAt.shaped d = true) (s2 : SeqAt.shaped (.list ds) = true) (hm : ∀ H1, Ex H H1 → Dp K H1 x d ∧ Dp K H1 (.ref a) (.list ds)) :
    RV (rInD K) x (.ref a) H (.bl (ds.any fun z => PyData.eqv z d)) := fun H1 e _ q => ⟨d, ds, (hm H1 e).1, (hm H1 e).2, s1, s2, q H1 (Ex.refl H1)⟩
/-- len(set(xs)) < len(xs) -/
theorem et_lenSet {l : Addr} {xs : List Str} (h : Ev ta σ H (.ref l)) (hS : SqL K H l (xs.map V.str)) (hz : xs.length ≤ 1000) : EvT (tTest (tOp (rI0 fun i j => .bl (decide (i < j))) (tLenSetS K ta) (tCB (rLenS K) (tCons ta tNil)))) σ H (!decide xs.Nodup) := fun H1 e Q q =>
  h H1 e _ fun H2 e2 => ⟨l, xs, rfl, ex_l (e.trans e2) hS, hz, fun n hn hi => ev_len (K := K) h hS H2 (e.trans e2) _ fun H3 e3 => ⟨n, (xs.map V.str).length, rfl, rfl, _, rfl, by
    have hb : decide ((n : Int) < ((xs.map V.str).length : Nat)) = !decide xs.Nodup := by
      rw [List.length_map]
      by_cases nd : xs.Nodup
      · have := hi.mpr nd
        simp [nd, this]
      · have : n ≠ xs.length := fun z => nd (hi.mp z)
        simp [nd]
        omega
    rw [hb]
    exact q H3 (e2.trans e3)⟩⟩
/-- xs.extend(ys) -/
theorem s_ext {l b : Addr} {xs ys : List V} (hl : H l = some (.lst xs)) (hb : H b = some (.lst ys)) (ha : Ev ta σ H (.ref l)) (h : Ev te σ H (.ref b)) (hz : xs.length + ys.length ≤ 100000) (k : ∀ H1, Ex H H1 → D.nx σ (upd H1 l (.lst (xs ++ ys)))) :
    tDrop (tBM K "list" rExtend ta (tCons te tNil)) D σ H := ha H (Ex.refl H) _ fun H1 e1 =>
  ⟨Or.inl ⟨rfl, xs, sq_of (e1 l _ hl)⟩, h H1 e1 _ fun H2 e2 => ⟨l, b, xs, ys, rfl, rfl, e2 l _ (e1 l _ hl), e2 b _ (e1 b _ hb), sz_of hz, k H2 (e1.trans e2)⟩⟩
/-- d[k] = v, v told by what holds of it -/
theorem s_dputG {d : Addr} {k : Key} {tv : TE} (G : V → Hp → Prop) (hv : ∀ Q : VK, (∀ v H1, G v H1 → Q v H1) → tv σ H Q)
    (h : ∀ v H1, G v H1 → ∃ kvs, H1 d = some (.dK kvs) ∧ kvs.length < 100000 ∧ Ev td σ H1 (.ref d) ∧ Ev ty σ H1 (kV k) ∧ ∀ H2, Ex H1 H2 → D.nx σ (upd H2 d (.dK (putK kvs k v)))) : sDPut td ty tv D σ H :=
  hv _ fun v H1 g => by
    obtain ⟨kvs, a, b, c, c', n⟩ := h v H1 g
    exact c H1 (Ex.refl H1) _ fun H2 e2 => c' H2 e2 _ fun H3 e3 => ⟨d, _, rfl, DPut.k ((e2.trans e3) _ _ a) (sz_lt b), n H3 (e2.trans e3)⟩
/-- xs.pop() -/
theorem q_pop {l : Addr} {xs : List V} {y : V} (hl : H l = some (.lst (xs ++ [y]))) (ha : Ev ta σ H (.ref l)) (k : ∀ H1, Ex H H1 → tz D σ (upd H1 l (.lst xs))) :
    tSeq (tDrop (tBM0 K "list" rPop ta)) tz D σ H := ha H (Ex.refl H) _ fun H1 e1 =>
  ⟨Or.inl ⟨rfl, _, sq_of (e1 l _ hl)⟩, l, xs ++ [y], y, rfl, rfl, e1 l _ hl, by simp, by
    rw [List.dropLast_concat]
    exact k H1 e1⟩
end
/-! ### some value of which P holds -/
def EvN (te : TE) (σ : L2.St) (H : Hp) (P : V → Prop) : Prop := ∀ H1, Ex H H1 → ∀ Q : VK, (∀ v H2, Ex H1 H2 → P v → Q v H2) → te σ H1 Q
section
variable {σ : L2.St} {H : Hp} {ta tb te : TE} {P P1 P2 : V → Prop} {v : V} {r : R2} {D : Ends} {tz : TS}
theorem en_ev (h : Ev te σ H v) : EvN te σ H (fun x => x = v) := fun H1 e Q q => h H1 e Q fun H2 e2 => q v H2 e2 rfl
theorem en_op (ha : EvN ta σ H P1) (hb : EvN tb σ H P2) (hr : ∀ x y, P1 x → P2 y → ∃ z, P z ∧ RV r x y H z) : EvN (tOp r ta tb) σ H P := fun H1 e Q q =>
  ha H1 e _ fun x H2 e2 p1 => hb H2 (e.trans e2) _ fun y H3 e3 p2 => by
    obtain ⟨z, pz, hz⟩ := hr x y p1 p2
    exact hz H3 ((e.trans e2).trans e3) Q fun H4 e4 => q z H4 ((e2.trans e3).trans e4) pz
theorem en_call {sp : Sp} {dvs vs : List V} {E : XK} {ta : TA} (h : EvA ta σ H vs) (hs : ∀ H1, Ex H H1 → ∀ Q : VK, (∀ v H2, Ex H1 H2 → P v → Q v H2) → ∀ E : XK, sp (vs ++ dvs) H1 Q E) : EvN (tCall sp dvs E ta) σ H P := fun H1 e Q q =>
  h H1 e _ fun H2 e2 => hs H2 (e.trans e2) Q (fun v H3 e3 p => q v H3 (e2.trans e3) p) E
theorem s_retN (h : EvN te σ H P) (k : ∀ v H1, Ex H H1 → P v → D.rt v H1) : tRet te D σ H := h H (Ex.refl H) _ fun v H1 e p => k v H1 e p
theorem q_asgN {i : Nat} (h : EvN te σ H P) (k : ∀ v H1, Ex H H1 → P v → tz D (σ.set i (some v)) H1) : tSeq (tAsg te (gName i)) tz D σ H := h H (Ex.refl H) _ fun v H1 e p => k v H1 e p
end
/-! ### one object left out -/
/-- the heap without what stands at a -/
def hide (a : Addr) (H : Hp) : Hp := fun b => if b = a then none else H b
theorem hide_at {a : Addr} {H : Hp} : hide a H a = none := by unfold hide; rw [if_pos rfl]
theorem hide_ne {a b : Addr} {H : Hp} (h : b ≠ a) : hide a H b = H b := by unfold hide; rw [if_neg h]
theorem hide_ex {a : Addr} {H : Hp} : Ex (hide a H) H := fun b o h => by
  by_cases e : b = a
  · rw [e, hide_at] at h; cases h
  · rwa [hide_ne e] at h
theorem hide_get {a b : Addr} {H : Hp} {o : HO} (h : H b = some o) (n : b ≠ a) : hide a H b = some o := by rw [hide_ne n]; exact h
theorem hide_mono {a : Addr} {H H' : Hp} (e : Ex H H') : Ex (hide a H) (hide a H') := fun b o h => by
  by_cases q : b = a
  · rw [q, hide_at] at h; cases h
  · rw [hide_ne q] at h ⊢
    exact e b o h
/-- back to a heap that does not know a -/
theorem ex_hide {a : Addr} {B H : Hp} (e : Ex B H) (n : B a = none) : Ex B (hide a H) := fun b o h => by
  rw [hide_ne (ne_of_none h n)]
  exact e b o h
theorem hide_upd {a : Addr} {H : Hp} {o : HO} : hide a (upd H a o) = hide a H := by
  funext b
  unfold hide
  split
  · rfl
  · rename_i h
    exact upd_ne h
theorem hide_upd_ne {a b : Addr} {H : Hp} {o : HO} (h : b ≠ a) : hide a (upd H b o) = upd (hide a H) b o := by
  funext c
  by_cases q : c = a
  · rw [q, hide_at, upd_ne (Ne.symm h), hide_at]
  · rw [hide_ne q]
    by_cases z : c = b
    · rw [z, upd_same, upd_same]
    · rw [upd_ne z, upd_ne z, hide_ne q]
/-! ### rows read: a value and the texts of the list there -/
abbrev VR := V × List Str
def RowsP (K : PySem.W.Frag) (H : Hp) (rs : List VR) : Prop := ∀ r ∈ rs, ∃ p, r.1 = .ref p ∧ SqL K H p (r.2.map V.str)
theorem RowsP.mono {K : PySem.W.Frag} {H H' : Hp} {rs : List VR} (h : RowsP K H rs) (e : Ex H H') : RowsP K H' rs := fun r hr => let ⟨p, a, b⟩ := h r hr; ⟨p, a, ex_l e b⟩
theorem dpAll_rows {K : PySem.W.Frag} {H : Hp} : ∀ {rs : List VR}, RowsP K H rs → DpAll K H (rs.map (·.1)) (rs.map fun r => dS r.2)
  | [], _ => .nil
  | r :: rs, h => by
    obtain ⟨p, a, b⟩ := h r List.mem_cons_self
    refine .cons ?_ (dpAll_rows fun x hx => h x (List.mem_cons_of_mem _ hx))
    show Dp K H r.1 (dS r.2)
    rw [a]
    exact dp_S b
theorem shaped_dSs {rs : List (List Str)} (h : ∀ r ∈ rs, Oks r) : SeqAt.shaped (.list (rs.map dS)) = true := by
  have := shaped_dOs (rs := rs.map some) fun r hr l hl => by
    obtain ⟨x, hx, rfl⟩ := List.mem_map.mp hr
    cases hl
    exact h _ hx
  rw [List.map_map] at this
  exact this
theorem eqv_nil (ds : List PyData) : PyData.eqv (.list ds) (.list []) = ds.isEmpty := by
  cases ds <;> simp [PyData.eqv, PyData.eqvAll]
theorem shaped_nil : SeqAt.shaped (.list []) = true := by
  unfold SeqAt.shaped
  simp [PyData.canLay0, PyData.canLayAll0, PyData.depth, PyData.depthAll]
theorem mem_getElem {α : Type} {l : List α} {i : Nat} {x : α} (h : l[i]? = some x) : x ∈ l := List.mem_of_getElem? h
theorem cutTake {xs : List V} {k : Nat} : cutV xs none (some (k : Int)) = xs.take k := by
  unfold cutV
  rw [HT.sIx_none, HT.sIx_nat]
  simp
theorem cutDrop {xs : List V} {k : Nat} : cutV xs (some (k : Int)) none = xs.drop k := by
  unfold cutV
  rw [HT.sIx_none, HT.sIx_nat]
  rw [List.take_of_length_le (by rw [List.length_drop]; exact Nat.le_refl _)]
  rw [Nat.min_def]
  split
  · rfl
  · rw [List.drop_of_length_le (Nat.le_refl _), List.drop_of_length_le (by omega)]
section
variable {K : PySem.W.Frag} {σ : L2.St} {H : Hp} {ta tb te : TE} {x y : V}
theorem rv_neD {d e : PyData} (hm : ∀ H1, Ex H H1 → Dp K H1 x d ∧ Dp K H1 y e) (s1 : SeqAt.shaped d = true) (s2 : SeqAt.shaped e = true) : RV (rNeD K) x y H (.bl (!PyData.eqv d e)) := fun H1 e1 _ q => ⟨d, e, (hm H1 e1).1, (hm H1 e1).2, s1, s2, q H1 (Ex.refl H1)⟩
theorem rv_eqD {d e : PyData} (hm : ∀ H1, Ex H H1 → Dp K H1 x d ∧ Dp K H1 y e) (s1 : SeqAt.shaped d = true) (s2 : SeqAt.shaped e = true) : RV (rEqD K) x y H (.bl (PyData.eqv d e)) := fun H1 e1 _ q => ⟨d, e, (hm H1 e1).1, (hm H1 e1).2, s1, s2, q H1 (Ex.refl H1)⟩
theorem el_nil : EvL (tLst tNil) σ H [] := el_lst ea_nil (Nat.zero_le _)
/-- xs != [] -/
theorem ev_neNil {p : Addr} {l : List Str} (h : Ev ta σ H (.ref p)) (hS : SqL K H p (l.map V.str)) (ho : Oks l) : Ev (tOp (rNeD K) ta (tLst tNil)) σ H (.bl (!l.isEmpty)) := by
  refine ev_is (ev_opL h el_nil fun q H1 hq e1 => rv_neD (K := K) (fun H2 e2 => ⟨dp_S (ex_l (e1.trans e2) hS), .lst (sq_of (e2 _ _ hq)) .nil⟩) (shaped_dS ho) shaped_nil) ?_
  unfold dS
  rw [eqv_nil]
  cases l <;> rfl
theorem ev_eqNil {p : Addr} {l : List Str} (h : Ev ta σ H (.ref p)) (hS : SqL K H p (l.map V.str)) (ho : Oks l) : Ev (tOp (rEqD K) ta (tLst tNil)) σ H (.bl l.isEmpty) := by
  refine ev_is (ev_opL h el_nil fun q H1 hq e1 => rv_eqD (K := K) (fun H2 e2 => ⟨dp_S (ex_l (e1.trans e2) hS), .lst (sq_of (e2 _ _ hq)) .nil⟩) (shaped_dS ho) shaped_nil) ?_
  unfold dS
  rw [eqv_nil]
  cases l <;> rfl
end
section
variable {σ : L2.St} {H : Hp} {ta tb te : TE} {r : R2} {D : Ends} {tz : TS} {Q : VK}
theorem q_raw {i : Nat} (h : te σ H fun v H1 => tz D (σ.set i (some v)) H1) : tSeq (tAsg te (gName i)) tz D σ H := h
theorem s_raw {i : Nat} (h : te σ H fun v H1 => D.nx (σ.set i (some v)) H1) : tAsg te (gName i) D σ H := h
theorem op_raw (h : ta σ H fun x H1 => tb σ H1 fun y H2 => r x y H2 Q) : tOp r ta tb σ H Q := h
end
end EX

set_option Elab.async false
set_option linter.all false
set_option maxRecDepth 100000
/-! draws: a tap (a list of four ints at tp) that each draw changes; a draw is any number in its range -/
namespace EX
open PySem L2 Evl
def Tap (H : Hp) (tp : Addr) : Prop := ∃ a b c d : Int, H tp = some (.lst [.int a, .int b, .int c, .int d])
theorem Tap.mono {H H' : Hp} {tp : Addr} (t : Tap H tp) (e : Ex H H') : Tap H' tp := let ⟨a, b, c, d, h⟩ := t; ⟨a, b, c, d, e _ _ h⟩
/-- the promise of a draw below n -/
def spDraw : Sp := fun vs H Q _ => ∃ (tp : Addr) (n : Int), vs = [.ref tp, .int n] ∧ Tap H tp ∧ 0 < n ∧ n < 1073741824 ∧
  ∀ (r : Int) (H' : Hp), 0 ≤ r → r < n → Ex (hide tp H) H' → Tap H' tp → Q (.int r) H'
/-- te evaluates, drawing, to some value of which P holds; what B knows stays -/
def Dr (tp : Addr) (te : TE) (σ : L2.St) (B : Hp) (P : V → Prop) : Prop := ∀ H1, Ex B H1 → Tap H1 tp → ∀ Q : VK, (∀ v H2, Ex B H2 → Tap H2 tp → P v → Q v H2) → te σ H1 Q
def DrT (tp : Addr) (tt : TT) (σ : L2.St) (B : Hp) (P : Bool → Prop) : Prop := ∀ H1, Ex B H1 → Tap H1 tp → ∀ Q : Bool → Hp → Prop, (∀ b H2, Ex B H2 → Tap H2 tp → P b → Q b H2) → tt σ H1 Q
section
variable {tp : Addr} {σ : L2.St} {B H : Hp} {ta tb te : TE} {t u : TT} {P P1 P2 : V → Prop} {v : V} {r : R2} {D : Ends} {tu tw tz : TS}
theorem Dr.imp (h : Dr tp te σ B P) (k : ∀ v, P v → P1 v) : Dr tp te σ B P1 := fun H1 e t Q q => h H1 e t Q fun v H2 e2 t2 p => q v H2 e2 t2 (k v p)
theorem dr_ev (h : Ev te σ B v) : Dr tp te σ B (fun x => x = v) := fun H1 e t Q q => h H1 e Q fun H2 e2 => q v H2 (e.trans e2) (t.mono e2) rfl
theorem dr_var {i : Nat} (h : σ[i]? = some (some v)) : Dr tp (tVar i) σ B (fun x => x = v) := dr_ev (ev_var h)
theorem dr_c : Dr tp (tC v) σ B (fun x => x = v) := dr_ev ev_c
theorem dr_draw {j : Nat} (N : Int) (hN : N < 1073741824) (hj : σ[j]? = some (some (.ref tp))) (nB : B tp = none) (h : Dr tp te σ B (fun v => ∃ n : Int, v = .int n ∧ 0 < n ∧ n ≤ N)) :
    Dr tp (tCall spDraw [] E0 (tCons (tVar j) (tCons te tNil))) σ B (fun v => ∃ r : Int, v = .int r ∧ 0 ≤ r ∧ r < N) := fun H1 e t Q q =>
  ⟨_, hj, h H1 e t _ fun v H2 e2 t2 ⟨n, hv, h0, hn⟩ => by
    subst hv
    exact ⟨tp, n, rfl, t2, h0, by omega, fun r H3 r0 r1 e3 t3 => q _ H3 ((ex_hide e2 nB).trans e3) t3 ⟨r, rfl, r0, by omega⟩⟩⟩
theorem dr_op (ha : Dr tp ta σ B P1) (hb : Dr tp tb σ B P2) (hr : ∀ x y, P1 x → P2 y → ∃ z, P z ∧ RV r x y B z) : Dr tp (tOp r ta tb) σ B P := fun H1 e t Q q =>
  ha H1 e t _ fun x H2 e2 t2 p1 => hb H2 e2 t2 _ fun y H3 e3 t3 p2 => by
    obtain ⟨z, pz, hz⟩ := hr x y p1 p2
    exact hz H3 e3 Q fun H4 e4 => q z H4 (e3.trans e4) (t3.mono e4) pz
/-- int(x) -/
theorem dr_int1 (h : Dr tp te σ B (fun v => ∃ b, v = .bl b)) : Dr tp (tCB (fun xs H Q => (∃ i, xs = [.int i] ∧ Q (.int i) H) ∨ ∃ k, xs = [.bl k] ∧ Q (.int (if k then 1 else 0)) H) (tCons te tNil)) σ B (fun v => v = .int 0 ∨ v = .int 1) := fun H1 e t Q q =>
  h H1 e t _ fun v H2 e2 t2 ⟨b, hb⟩ => .inr ⟨b, by rw [hb], q _ H2 e2 t2 (by cases b <;> simp)⟩
theorem drT_test (h : Dr tp te σ B (fun v => ∃ b, v = .bl b)) : DrT tp (tTest te) σ B (fun _ => True) := fun H1 e t Q q => h H1 e t _ fun v H2 e2 t2 ⟨b, hb⟩ => ⟨b, hb, q b H2 e2 t2 trivial⟩
theorem drT_ev {b : Bool} (h : EvT t σ B b) : DrT tp t σ B (fun c => c = b) := fun H1 e t Q q => h H1 e Q fun H2 e2 => q b H2 (e.trans e2) (t.mono e2) rfl
theorem drT_or {p q : Bool → Prop} (h1 : DrT tp t σ B p) (h2 : DrT tp u σ B q) : DrT tp (tOr t u) σ B (fun _ => True) := fun H1 e tt Q k => h1 H1 e tt _ fun c H2 e2 t2 _ => by
  cases c with
  | true =>
    show Q true H2
    exact k true H2 e2 t2 trivial
  | false =>
    show u σ H2 Q
    exact h2 H2 e2 t2 Q fun c H3 e3 t3 _ => k c H3 e3 t3 trivial
/-! ### statements -/
theorem q_asgD {i : Nat} (ht : Tap H tp) (h : Dr tp te σ (hide tp H) P) (k : ∀ v H1, Ex (hide tp H) H1 → Tap H1 tp → P v → tz D (σ.set i (some v)) H1) : tSeq (tAsg te (gName i)) tz D σ H :=
  h H hide_ex ht _ fun v H1 e t p => k v H1 e t p
theorem s_ifD {p : Bool → Prop} (ht : Tap H tp) (h : DrT tp t σ (hide tp H) p) (k1 : p true → ∀ H1, Ex (hide tp H) H1 → Tap H1 tp → tu D σ H1) (k2 : p false → ∀ H1, Ex (hide tp H) H1 → Tap H1 tp → tw D σ H1) : tIfS t tu tw D σ H :=
  h H hide_ex ht _ fun b H1 e t pb => by
    cases b with
    | true =>
      show tu D σ H1
      exact k1 pb H1 e t
    | false =>
      show tw D σ H1
      exact k2 pb H1 e t
theorem q_whenD {p : Bool → Prop} (ht : Tap H tp) (h : DrT tp t σ (hide tp H) p) (k1 : p true → ∀ H1, Ex (hide tp H) H1 → Tap H1 tp → tu { D with nx := tz D } σ H1) (k2 : p false → ∀ H1, Ex (hide tp H) H1 → Tap H1 tp → tz D σ H1) : tSeq (tIfS t tu tNext) tz D σ H :=
  s_ifD (D := { D with nx := tz D }) ht h k1 k2
theorem s_whenD {p : Bool → Prop} (ht : Tap H tp) (h : DrT tp t σ (hide tp H) p) (k1 : p true → ∀ H1, Ex (hide tp H) H1 → Tap H1 tp → tu D σ H1) (k2 : p false → ∀ H1, Ex (hide tp H) H1 → Tap H1 tp → D.nx σ H1) : tIfS t tu tNext D σ H :=
  s_ifD ht h k1 k2
end
end EX

set_option Elab.async false
set_option linter.all false
set_option maxRecDepth 100000
namespace EX
open PySem L2 Evl
section
variable {tp : Addr} {σ : L2.St} {B H : Hp} {ta tb te : TE} {t u : TT} {P P1 P2 : V → Prop} {v : V} {r : R2} {D : Ends} {tu tw tz : TS} {K : PySem.W.Frag}
/-- the first operand a new list -/
theorem dr_opL {xs : List V} (nB : B tp = none) (ha : EvL ta σ B xs) (hb : ∀ B', Ex B B' → B' tp = none → Dr tp tb σ B' P2) (hr : ∀ p y B', Ex B B' → B' p = some (.lst xs) → P2 y → ∃ z, P z ∧ RV r (.ref p) y B' z) : Dr tp (tOp r ta tb) σ B P := fun H1 e t Q q =>
  ha H1 e _ fun p H2 np e2 at2 => by
    have hp : p ≠ tp := by
      obtain ⟨a, b, c, d, ht⟩ := t
      exact fun z => by rw [z, ht] at np; cases np
    have eB : Ex B (hide tp H2) := ex_hide (e.trans e2) nB
    refine hb (hide tp H2) eB hide_at H2 hide_ex (t.mono e2) _ fun y H3 e3 t3 p2 => ?_
    obtain ⟨z, pz, hz⟩ := hr p y (hide tp H2) eB (hide_get at2 hp) p2
    exact hz H3 e3 Q fun H4 e4 => q z H4 (eB.trans (e3.trans e4)) (t3.mono e4) pz
theorem ixAt {xs : List V} {p : Addr} {i : Int} {j : Nat} {x : V} (h : H p = some (.lst xs)) (hi : i = (j : Int)) (hx : xs[j]? = some x) : RV (rIxL K) (.ref p) (.int i) H x := rv_ixL (sq_of h) (at_of hi hx)
/-- for .. in range(a draw) -/
theorem s_forD {j : Nat} (N : Int) (hN : N ≤ 100000) (ht : Tap H tp) (h : Dr tp te σ (hide tp H) (fun v => ∃ r : Int, v = .int r ∧ 0 ≤ r ∧ r < N)) (Pv : Nat → L2.St → Hp → Prop) (h0 : ∀ H1, Ex (hide tp H) H1 → Tap H1 tp → Pv 0 σ H1)
    (hs : ∀ (i : Nat) σ' H', (i : Int) + 1 < N → Pv i σ' H' → tu { D with nx := Pv (i + 1), ct := Pv (i + 1), bk := D.nx } (σ'.set j (some (.int (i : Int)))) H') (hd : ∀ (n : Nat) σ' H', (n : Int) < N → Pv n σ' H' → D.nx σ' H') :
    tFor (iRng1 (tCons te tNil)) (gName j) tu D σ H :=
  h H hide_ex ht _ fun v H1 e t ⟨n, hv, n0, n1⟩ => by
    subst hv
    refine ⟨n, rfl, by omega, by omega, for_range (lo := 0) (n := n.toNat) Pv (h0 H1 e t) (fun i σ' H' hi p => ?_) fun σ' H' p => hd n.toNat σ' H' (by omega) p⟩
    show tu { D with nx := Pv (i + 1), ct := Pv (i + 1), bk := D.nx } (σ'.set j (some (.int ((0 : Int) + (i : Int))))) H'
    rw [Int.zero_add]
    exact hs i σ' H' (by omega) p
theorem q_forD {j : Nat} (N : Int) (hN : N ≤ 100000) (ht : Tap H tp) (h : Dr tp te σ (hide tp H) (fun v => ∃ r : Int, v = .int r ∧ 0 ≤ r ∧ r < N)) (Pv : Nat → L2.St → Hp → Prop) (h0 : ∀ H1, Ex (hide tp H) H1 → Tap H1 tp → Pv 0 σ H1)
    (hs : ∀ (i : Nat) σ' H', (i : Int) + 1 < N → Pv i σ' H' → tu { D with nx := Pv (i + 1), ct := Pv (i + 1), bk := tz D } (σ'.set j (some (.int (i : Int)))) H') (hd : ∀ (n : Nat) σ' H', (n : Int) < N → Pv n σ' H' → tz D σ' H') :
    tSeq (tFor (iRng1 (tCons te tNil)) (gName j) tu) tz D σ H := s_forD (D := { D with nx := tz D }) N hN ht h Pv h0 hs hd
/-- a comprehension over reversed(xs) -/
theorem lc_rev {a : Addr} {xs : List V} {g : TG} {tt : TT} {vs : List Nat} {H1 : Hp} {Dl : Addr} {Qd : Hp → Prop} (Pv : Nat → Hp → Prop) (h0 : Pv 0 (upd H1 Dl (.lst []))) (hl : ∀ i H, i ≤ xs.length → Pv i H → SqL K H a xs)
    (hs : ∀ i x H, i < xs.length → xs[xs.length - 1 - i]? = some x → Pv i H → g x (wipe σ vs) H fun σ2 H2 => wipe σ2 vs = wipe σ vs ∧ tt σ2 H2 fun b H3 =>
      if b = true then te σ2 H3 fun y H4 => ∃ acc, H4 Dl = some (.lst acc) ∧ acc.length < sizeLine ∧ Pv (i + 1) (upd H4 Dl (.lst (acc ++ [y]))) else Pv (i + 1) H3) (hd : ∀ H, Pv xs.length H → Qd H) :
    ∃ W : Nat → Nat → Hp → Prop, (∃ m, W 0 m (upd H1 Dl (.lst []))) ∧ ∀ i m H, W i m H →
      ((Itv K a xs.length).stop i H ∧ Qd H) ∨ ((Itv K a xs.length).go i H ∧ ∃ Nx : Hp → Prop, (∀ H', Nx H' → ∃ m', m' < m ∧ W (i + 1) m' H') ∧ ∀ x H', (Itv K a xs.length).yld i H x H' → g x (wipe σ vs) H' fun σ2 H2 => wipe σ2 vs = wipe σ vs ∧ tt σ2 H2 fun b H3 =>
        if b = true then te σ2 H3 fun y H4 => ∃ acc, H4 Dl = some (.lst acc) ∧ acc.length < sizeLine ∧ Nx (upd H4 Dl (.lst (acc ++ [y]))) else Nx H3) := by
  refine ⟨fun i m H => m = xs.length - i ∧ i ≤ xs.length ∧ Pv i H, ⟨xs.length, rfl, Nat.zero_le _, h0⟩, ?_⟩
  rintro i m H ⟨rfl, hi, p⟩
  by_cases hlt : i < xs.length
  · have hj : xs.length - 1 - i < xs.length := by omega
    refine .inr ⟨⟨hlt, xs, xs[xs.length - 1 - i], hl i H hi p, List.getElem?_eq_getElem hj⟩, fun H' => Pv (i + 1) H', fun H' h => ⟨xs.length - (i + 1), by omega, rfl, by omega, h⟩, ?_⟩
    rintro x H' ⟨rfl, hx⟩
    exact hs i x H' hlt (hx xs (hl i H' hi p)) p
  · have e : i = xs.length := by omega
    subst e
    exact .inl ⟨Nat.le_refl _, hd H p⟩
theorem el_lcRev {a : Addr} {xs : List V} {tl : TE} {j : Nat} {vs : List Nat} (f : Nat → Bool) (v : Nat → V) (h : Ev tl σ H (.ref a)) (hx : SqL K H a xs) (hz : xs.length ≤ 40000) (hw : ∀ x, wipe ((wipe σ vs).set j (some x)) vs = wipe σ vs)
    (ht : ∀ (i : Nat) (x : V) H1, Ex H H1 → i < xs.length → xs[xs.length - 1 - i]? = some x → EvT t ((wipe σ vs).set j (some x)) H1 (f i)) (he : ∀ (i : Nat) (x : V) H1, Ex H H1 → i < xs.length → xs[xs.length - 1 - i]? = some x → f i = true → Ev te ((wipe σ vs).set j (some x)) H1 (v i)) :
    EvL (tLc (iRev K (tCons tl tNil)) (gName j) t te vs) σ H (given xs.length f v) := fun H0 e Q q => h H0 e _ fun H1 e1 => ⟨a, xs, rfl, ex_l (e.trans e1) hx, fun Dl hD =>
  lc_rev (xs := xs) (Cw H1 f v Dl) ⟨hD, Ex.new hD, upd_same⟩ (fun i H' _ p => ex_l ((e.trans e1).trans p.2.1) hx) (fun i x H' hlt hi p => ⟨hw x, cw_turn p (by omega) (ht i x H1 (e.trans e1) hlt hi) (fun hf => he i x H1 (e.trans e1) hlt hi hf)⟩)
    (fun H' p => q Dl H' (fresh_back e1 p.1) (e1.trans p.2.1) p.2.2)⟩
end
/-- a slice of texts is a list of texts of it -/
theorem cut_strs (ts : List Str) (lo hi : Option Int) : ∃ nl : List Str, cutV (ts.map V.str) lo hi = nl.map V.str ∧ (∀ x ∈ nl, x ∈ ts) ∧ nl.length ≤ ts.length := by
  refine ⟨(ts.drop (HT.sIx ts.length 0 lo)).take (HT.sIx ts.length ts.length hi - HT.sIx ts.length 0 lo), ?_, fun x hx => List.mem_of_mem_drop (List.mem_of_mem_take hx), ?_⟩
  · unfold cutV
    rw [List.length_map, List.map_take, List.map_drop]
  · rw [List.length_take, List.length_drop]
    omega
theorem mem_given {n : Nat} {f : Nat → Bool} {v : Nat → V} {x : V} (h : x ∈ given n f v) : ∃ i, i < n ∧ f i = true ∧ x = v i := by
  unfold given at h
  obtain ⟨i, hi, rfl⟩ := List.mem_map.mp h
  obtain ⟨h1, h2⟩ := List.mem_filter.mp hi
  exact ⟨i, List.mem_range.mp h1, h2, rfl⟩
/-- values that are all texts of ts -/
theorem strs_of {vs : List V} {P : Str → Prop} (h : ∀ v ∈ vs, ∃ x, v = .str x ∧ P x) : ∃ xs : List Str, vs = xs.map V.str ∧ ∀ x ∈ xs, P x := by
  induction vs with
  | nil => exact ⟨[], rfl, fun x hx => nomatch hx⟩
  | cons v vs ih =>
    obtain ⟨x, rfl, hx⟩ := h v List.mem_cons_self
    obtain ⟨xs, rfl, hxs⟩ := ih fun w hw => h w (List.mem_cons_of_mem _ hw)
    exact ⟨x :: xs, rfl, fun y hy => by
      rcases List.mem_cons.mp hy with q | q
      · rw [q]; exact hx
      · exact hxs y q⟩
end EX

set_option Elab.async false
set_option linter.all false
set_option maxRecDepth 100000
namespace EX
open PySem L2 Evl
section
variable {tp : Addr} {σ : L2.St} {B H : Hp} {ta tb te : TE} {t u : TT} {P P1 P2 : V → Prop} {v : V} {r : R2} {D : Ends} {tu tw tz : TS} {K : PySem.W.Frag} {sp : Sp} {vs : List V} {E : XK} {tA : TA}
/-- for i, x in enumerate(xs) -/
theorem s_forE {a : Addr} {xs : List V} {tl : TE} {i j : Nat} (h : Ev tl σ H (.ref a)) (hx : SqL K H a xs) (Pv : Nat → L2.St → Hp → Prop) (h0 : ∀ H1, Ex H H1 → Pv 0 σ H1) (hl : ∀ n σ' H', n ≤ xs.length → Pv n σ' H' → SqL K H' a xs)
    (hs : ∀ (n : Nat) (x : V) σ' H' T, xs[n]? = some x → Pv n σ' H' → H' T = none → tu { D with nx := Pv (n + 1), ct := Pv (n + 1), bk := D.nx } ((σ'.set i (some (.int (n : Nat)))).set j (some x)) (upd H' T (.tup [.int (n : Nat), x]))) (hd : ∀ σ' H', Pv xs.length σ' H' → D.nx σ' H') :
    tFor (iEnum K (tCons tl tNil)) (gTup K 2 (gCons (gName i) (gCons (gName j) gNil))) tu D σ H :=
  h H (Ex.refl H) _ fun H1 e => ⟨a, xs, rfl, ex_l e hx, fun n m σ' H' => m = xs.length - n ∧ n ≤ xs.length ∧ Pv n σ' H', ⟨xs.length, rfl, Nat.zero_le _, h0 H1 e⟩, by
    rintro n m σ' H' ⟨rfl, hn, p⟩
    have hS := hl n σ' H' hn p
    by_cases hlt : n < xs.length
    · refine .inr ⟨⟨xs, xs[n], hS, List.getElem?_eq_getElem hlt⟩, fun σ2 H2 => Pv (n + 1) σ2 H2, fun σ2 H2 q => ⟨xs.length - (n + 1), by omega, rfl, by omega, q⟩, ?_⟩
      rintro v H2 ⟨T, x, rfl, nT, rfl, hv⟩
      exact ⟨T, _, rfl, st_of upd_same, rfl, _, _, rfl, _, _, rfl, rfl, hs n x σ' H' T (hv xs hS) p nT⟩
    · have e : n = xs.length := by omega
      subst e
      exact .inl ⟨⟨xs, hS, Nat.le_refl _⟩, hd σ' H' p⟩⟩
theorem q_forE {a : Addr} {xs : List V} {tl : TE} {i j : Nat} (h : Ev tl σ H (.ref a)) (hx : SqL K H a xs) (Pv : Nat → L2.St → Hp → Prop) (h0 : ∀ H1, Ex H H1 → Pv 0 σ H1) (hl : ∀ n σ' H', n ≤ xs.length → Pv n σ' H' → SqL K H' a xs)
    (hs : ∀ (n : Nat) (x : V) σ' H' T, xs[n]? = some x → Pv n σ' H' → H' T = none → tu { D with nx := Pv (n + 1), ct := Pv (n + 1), bk := tz D } ((σ'.set i (some (.int (n : Nat)))).set j (some x)) (upd H' T (.tup [.int (n : Nat), x]))) (hd : ∀ σ' H', Pv xs.length σ' H' → tz D σ' H') :
    tSeq (tFor (iEnum K (tCons tl tNil)) (gTup K 2 (gCons (gName i) (gCons (gName j) gNil))) tu) tz D σ H := s_forE (D := { D with nx := tz D }) h hx Pv h0 hl hs hd
/-- x = f(..), f(..) by f's own promise -/
theorem q_callA {i : Nat} (h : EvA tA σ H vs) (k : ∀ H1, Ex H H1 → sp (vs ++ []) H1 (fun v H2 => tz D (σ.set i (some v)) H2) E) : tSeq (tAsg (tCall sp [] E tA) (gName i)) tz D σ H := h H (Ex.refl H) _ k
theorem s_callD (h : EvA tA σ H vs) (k : ∀ H1, Ex H H1 → sp (vs ++ []) H1 (fun _ H2 => D.nx σ H2) E) : tDrop (tCall sp [] E tA) D σ H := h H (Ex.refl H) _ k
theorem s_retA (h : EvA tA σ H vs) (k : ∀ H1, Ex H H1 → sp (vs ++ []) H1 D.rt E) : tRet (tCall sp [] E tA) D σ H := h H (Ex.refl H) _ k
theorem call_raw {Q : VK} (h : EvA tA σ H vs) (k : ∀ H1, Ex H H1 → sp (vs ++ []) H1 Q E) : tCall sp [] E tA σ H Q := h H (Ex.refl H) _ k
theorem cutS_mem {z : Str} {lo hi : Option Int} : (∀ c ∈ (cutS z lo hi).cps.toList, c ∈ z.cps.toList) ∧ (cutS z lo hi).length ≤ z.length := by
  unfold cutS
  constructor
  · intro c hc
    exact List.mem_of_mem_drop (List.mem_of_mem_take (by simpa using hc))
  · unfold Str.length
    simp
    omega
/-- z[:a draw] -/
theorem dr_slTo {z : Str} {N : Int} (hz : z.length ≤ 1000) (h : Dr tp te σ B (fun v => ∃ r : Int, v = .int r ∧ 0 ≤ r ∧ r < N)) :
    Dr tp (tSl rSlS (tC (.str z)) tNoPart (tPart te)) σ B (fun v => ∃ x : Str, v = .str x ∧ (∀ c ∈ x.cps.toList, c ∈ z.cps.toList) ∧ x.length ≤ z.length) := fun H1 e t Q q =>
  h H1 e t _ fun v H2 e2 t2 ⟨r, hv, _, _⟩ => ⟨r, hv, z, rfl, sz_of (by omega), q _ H2 e2 t2 ⟨_, rfl, cutS_mem.1, cutS_mem.2⟩⟩
theorem rv_addS {a b : Str} (h : a.length + b.length ≤ 100000) : RV (fun x y H Q => ∃ i j, x = .str i ∧ y = .str j ∧ i.length + j.length ≤ sizeLine ∧ Q (.str (i ++ j)) H) (.str a) (.str b) H (.str (a ++ b)) := fun H1 _ _ q => ⟨a, b, rfl, rfl, sz_of h, q H1 (Ex.refl H1)⟩
theorem ixS {z : Str} {i : Int} {j c : Nat} (hz : z.length ≤ 1000) (hi : i = (j : Int)) (hc : z.cps.toList[j]? = some c) : RV rIxS (.str z) (.int i) H (.str ⟨#[c]⟩) := rv_ixS (by omega) (by rw [hi]; exact atI_nat hc)
end
end EX

set_option Elab.async false
set_option linter.all false
set_option maxRecDepth 100000
set_option maxHeartbeats 1000000
/-! list(reversed(xs)), xs a list -/
namespace LR
open PySem PySem.Spec PyProof.Rows
section
variable {prog : Program} {w : World} {A : Around} {E : Value → Shared → Prop} {s : Shared}
theorem list_rev {it l : Addr} {items : Array Value} {Q : Value → Shared → Prop} (hh : A.handled = none) (hi : s.heap.IsRevIter it l ((items.size : Int) - 1)) (hl : s.heap.IsList l items) (hne : l ≠ it) (hn : items.size ≤ sizeLine)
    (h : ∀ (h' : Heap) (tk : Nat) (acc : Array Value) (c : Nat), (∀ b o, b ≠ it → s.heap.get? b = some o → h'.get? b = some o) → h'.get? s.heap.objs.size = some { cls := .type "list", dict := none, data := .seq acc c, slots := #[] } →
      ItemsOf (fun i v => items[items.size - 1 - i]? = some v) acc items.size → Q (.ref s.heap.objs.size) { s with heap := h', toks := tk }) :
    wpAny (model prog w) A (call (.type "list") [.ref it]) Q E s := by
  refine callType_codes (Q₁ := fun x s1 => x = .ref s.heap.objs.size ∧ s1 = { s with heap := s.heap.push { cls := .type "list", data := .seq #[] } }) PySem.F.called_list (PySem.F.typeCall_list_1 _) PySem.F.entry_list_init (code_list_new _ ⟨rfl, rfl⟩) ?_
  rintro x s1 ⟨rfl, rfl⟩
  have n1 : (s.heap.push { cls := .type "list", data := .seq #[] }).get? s.heap.objs.size = some { cls := .type "list", data := .seq #[] } := Heap.get?_push_size _ rfl
  refine ⟨⟨_, n1, rfl⟩, PySem.F.args_list_init_2 _ _, ?_⟩
  show wpAny _ A.in1.in1 (do let old ← Builtin.List.listItems (.ref s.heap.objs.size); Builtin.List.listUpdate (.ref s.heap.objs.size) (fun _ => #[]); letGo old.toList.reverse; Builtin.List.listExtendWith (.ref s.heap.objs.size) (.ref it) .none) _ _ _
  refine wpAny_bind ?_
  unfold Builtin.List.listItems
  refine wpAny_bind (wpAny_seqItems n1 rfl (wpAny_pure ?_))
  refine wpAny_bind (show wpAny _ A.in1.in1 (updateSeq s.heap.objs.size (fun _ => #[])) _ _ _ from wpAny_updateSeq n1 rfl ?_)
  refine wpAny_bind (wpAny_letGo ?_)
  have n2 := Heap.get?_update_self (Obj.mapSeq (fun _ => (#[] : Array Value))) n1 rfl
  have hil : it < s.heap.objs.size := let ⟨o, e, _⟩ := hi; Heap.lt_size e
  have hll : l < s.heap.objs.size := let ⟨o, e, _⟩ := hl; Heap.lt_size e
  have keep : ∀ b o, s.heap.get? b = some o → ((s.heap.push { cls := .type "list", data := .seq #[] }).update s.heap.objs.size (Obj.mapSeq (fun _ => (#[] : Array Value)))).get? b = some o := fun b o e =>
    (Heap.get?_update_other _ _ (Nat.ne_of_gt (Heap.lt_size e))).trans (Heap.get?_push_of_some _ e)
  have hi2 := hi.at fun o e => keep it o e
  have hl2 := (show ∀ {h h' : Heap}, h.IsList l items → (∀ o, h.get? l = some o → h'.get? l = some o) → h'.IsList l items from fun x k => let ⟨o, e, r⟩ := x; ⟨o, k o e, r⟩) hl fun o e => keep l o e
  have hd2 : Obj.mapSeq (fun _ => (#[] : Array Value)) { cls := .type "list", data := .seq #[] } = { cls := .type "list", data := .seq #[] } := rfl
  rw [hd2] at n2
  clear n1
  generalize (s.heap.push { cls := .type "list", data := .seq #[] }).update s.heap.objs.size (Obj.mapSeq (fun _ => (#[] : Array Value))) = h2 at n2 keep hi2 hl2
  have ty : ({ s with heap := h2 } : Shared).TypeIs (.ref it) "list_reverseiterator" := Heap.IsRevIter.typeIs (s := { s with heap := h2 }) hi2
  have sr : Builtin.List.listSameRef (.ref s.heap.objs.size) (.ref it) = false := by simp [Builtin.List.listSameRef, Nat.ne_of_gt hil]
  unfold Builtin.List.listExtendWith
  refine wpAny_bind (wpAny_typeOf ty ?_)
  rw [if_neg (by rw [sr]; decide)]
  refine wpAny_bind (wpAny_pyIter_revIter (s := { s with heap := h2 }) hi2 (wpAny_bind (wpAny_holding ?_)))
  unfold Builtin.List.listLengthHint
  refine wpAny_bind (wpAny_specialOf ty RT.nolen_lri ?_)
  show wpAny _ A.in1.in1 (specialOf (Value.ref it) (Str.ofString "__length_hint__") >>= _) _ _ _
  refine wpAny_bind (wpAny_specialOf ty RT.hint_lri ?_)
  generalize hnm : ("list_reverseiterator.__length_hint__" : String) = nm
  wp_delta
  rw [show splitId nm = some ("list_reverseiterator", "__length_hint__") from by subst hnm; decide +kernel]
  subst hnm
  refine wpAny_bind (wpAny_isInstance (b := true) ty (by rw [isSubtype_type]; kernel_rfl) (wpAny_pure ?_))
  rw [if_neg (by decide)]
  have z0 : ((items.size : Nat) : Int) - 1 - ((0 : Nat) : Int) = (items.size : Int) - 1 := by omega
  have W := (Walks.listRev (prog := prog) (w := w) (A := A.in1.in1) hh it l hne items).toS
  refine wpAny_pure ⟨plainId_quiet PySem.F.plain_extend_loop _, codeAny_extend_loopS W hn _ (fun q => ?_) _ items.size 0 _ _ _ rfl (Nat.zero_le _) ⟨Nat.zero_le _, by rw [z0]; exact hi2, hl2⟩ n2 (ItemsOf.nil _) fun s' acc c hm at' hacc => ?_⟩
  · rcases List.mem_cons.mp q with q | q
    · exact absurd q (Nat.ne_of_gt hil)
    · exact absurd (List.mem_singleton.mp q) (Nat.ne_of_gt hll)
  · refine ⟨rfl, ?_⟩
    rw [Moved.eq_with hm]
    refine h s'.heap s'.toks acc c (fun b o hb e => hm.heap b o (fun q => ?_) (keep b o e)) at' hacc
    rcases List.mem_cons.mp q with q | q
    · exact absurd q (Nat.ne_of_lt (Heap.lt_size e))
    · exact hb (List.mem_singleton.mp q)
end
end LR
namespace L2
open PySem PySem.Spec PyProof.Rows
def tListRev (K : PySem.W.Frag) (te : TE) : TE := fun σ H Q => te σ H fun v H1 => ∃ (a : Addr) (xs : List V), v = .ref a ∧ SqL K H1 a xs ∧ ∀ q, H1 q = none → Q (.ref q) (upd H1 q (.lst xs.reverse))
theorem peListRev {X : Cx} {K : PySem.W.Frag} {e : Expr} {te : TE} {p p2 pos pos2 : Pos} (hc : X.calm = true) (hg : Gl X "list") (hm : X.mg "list" = none) (hg2 : Gl X "reversed") (hm2 : X.mg "reversed" = none) (he : PE X e te)
    (hs : starEach [e] X.env = (false, eval e X.env) :: starEach [] X.env := by rfl)
    (hs2 : starEach [.Call (.Name "reversed" p2) [e] [] pos2] X.env = (false, eval (.Call (.Name "reversed" p2) [e] [] pos2) X.env) :: starEach [] X.env := by rfl) (hK : X.K = K := by rfl) :
    PE X (.Call (.Name "list" p) [.Call (.Name "reversed" p2) [e] [] pos2] [] pos) (tListRev K te) := by
  subst hK
  refine ⟨fun pins s σ H Q I h => Call_ (ld_blt I hg hm (show bootBuiltins "list" = some (.type "list") by decide +kernel) (PyProof.Rows.callWith_type1 (args_cons (Call_ (ld_blt I hg2 hm2 PyProof.Rows.boot_reversed (PyProof.Rows.callWith_type1 (args_cons (thn (he.run pins s σ H _ I h) fun u s1 ⟨v, H1, I1, r1, a, xs, ev, hq, q⟩ => args_nil ?_) hs) hs rfl))) hs2) hs2 rfl))⟩
  subst ev
  obtain rfl : u = Value.ref a := r1
  obtain ⟨its, rv, pl, hz⟩ := I1.list hq
  have hl := pl.isList
  have hlt : a < s1.heap.objs.size := let ⟨_, e, _⟩ := hl; Heap.lt_size e
  refine call_reversed_list hl (args_nil ?_)
  have I2 : Inv X pins σ H1 { s1 with heap := s1.heap.push (revObj a ((its.toArray.size : Int) - 1)) } := I1.kept (t' := s1.toks) fun b o e => Heap.get?_push_of_some _ e
  have fp : FpOk X pins H1 s1.heap.objs.size := I1.fpOk (Nat.le_refl _) (I1.hok.fresh (Nat.le_refl _))
  refine LR.list_rev (s := { s1 with heap := s1.heap.push (revObj a ((its.toArray.size : Int) - 1)) }) (I1.ok.hd hc) ⟨_, Heap.get?_push_size _ rfl, rfl, rfl⟩ (hl.push _) (Nat.ne_of_lt hlt) (by rw [List.size_toArray, ← rv.length]; exact hz) fun h' tk acc c hk at' hi => ?_
  have new : ObjOk X.prog X.w (upd H1 (s1.heap.push (revObj a ((its.toArray.size : Int) - 1))).objs.size (.lst xs.reverse)) h' (s1.heap.push (revObj a ((its.toArray.size : Int) - 1))).objs.size (.lst xs.reverse) :=
    ⟨by rw [List.length_reverse]; exact hz, acc.toList, c, RT.vals_rev rv hi, by rw [Array.toArray_toList]; exact at'⟩
  refine ⟨.ref _, _, I2.turnedNew (t' := tk) (ch := [s1.heap.objs.size]) (fun b o hb e => hk b o (fun q => hb (by rw [q]; exact List.mem_singleton.mpr rfl)) e) (fun b hb => by rw [List.mem_singleton.mp hb]; exact fp) (Nat.le_refl _) new, rfl, q _ (I2.hok.fresh (Nat.le_refl _))⟩
end L2

set_option Elab.async false
set_option linter.all false
set_option maxRecDepth 100000
/-! what the laws on elders share beyond EX and DR -/
namespace EX
open PySem L2 Evl
theorem givenL_map {α : Type} (rs : List α) (d : α) (f : α → List V) : givenL rs.length (fun _ => true) (fun i => f (rs.getD i d)) = rs.map f := by
  unfold givenL
  rw [List.filter_eq_self.mpr (fun _ _ => rfl)]
  have := congrArg (List.map f) (range_getD rs d)
  rw [List.map_map] at this
  exact this
theorem zip_ref {qs : List Addr} {ls : List (List Str)} (h : (qs.zip ls).map (·.1) = qs) : ((qs.zip ls).map fun r => ((V.ref r.1, r.2) : VR)).map (·.1) = qs.map V.ref := by
  rw [List.map_map]
  conv => rhs; rw [← h]
  rw [List.map_map]
  rfl
theorem zip_row {qs : List Addr} {ls : List (List Str)} (h : (qs.zip ls).map (·.2) = ls) : ((qs.zip ls).map fun r => ((V.ref r.1, r.2) : VR)).map (·.2) = ls := by
  rw [List.map_map]
  exact h
theorem ev_anyIn {K : PySem.W.Frag} {σ : L2.St} {H : Hp} {iR ir : Nat} {te : TE} {R : Addr} {rs : List VR} {x : Str} (hR : SqL K H R (rs.map (·.1))) (hz : rs.length ≤ 1000) (hr : RowsP K H rs) (h1 : σ[iR]? = some (some (.ref R)))
    (hw : ∀ x, wipe ((wipe σ [ir]).set ir (some x)) [ir] = wipe σ [ir]) (hir : ∀ x, ((wipe σ [ir]).set ir (some x))[ir]? = some (some x)) (hx : ∀ y H1, Ex H H1 → Ev te ((wipe σ [ir]).set ir (some y)) H1 (.str x)) :
    Ev (tCB (rAny K) (tCons (tLc (iList K (tVar iR)) (gName ir) tYes (tOp (rIn K false) te (tSl (rSlL K) (tVar ir) (tPart (tC (V.int 1))) tNoPart)) [ir]) tNil)) σ H (.bl (!EM.free (rs.map (·.2)) x)) := by
  have e1 : (!EM.free (rs.map (·.2)) x) = ((rs.map fun o => decide (x ∈ o.2.tail)).any id) := by
    unfold EM.free
    rw [Bool.not_not, List.any_map, List.any_map]
    rfl
  rw [e1]
  refine ev_any ?_
  have e2 : (rs.map fun o => decide (x ∈ o.2.tail)).map V.bl = given (rs.map (·.1)).length (fun _ => true) (fun j => V.bl (decide (x ∈ (rs.getD j (.non, [])).2.tail))) := by
    rw [List.length_map, given_map rs (.non, []) (fun o => V.bl (decide (x ∈ o.2.tail))), List.map_map]
    rfl
  rw [e2]
  refine el_lcL (K := K) (fun _ => true) _ (ev_var h1) hR (by rw [List.length_map]; omega) hw (fun j x H1 e1 hj => ?_) (fun j y H1 e1 hj _ => ?_)
  · exact fun H2 _ Q q => q H2 (Ex.refl H2)
  · rw [List.getElem?_map] at hj
    cases hq : rs[j]? with
    | none => rw [hq] at hj; cases hj
    | some r =>
      rw [hq] at hj
      cases hj
      rw [getD_of hq, ← inV_str x r.2.tail]
      obtain ⟨p, hp, hs⟩ := hr r (mem_getElem hq)
      refine ev_opL (xs := r.2.tail.map V.str) (hx _ H1 e1) ?_ fun q H2 hq2 e2 => rv_isL (sq_of hq2) rfl (flat_str _)
      have := el_sl (K := K) (ev_var (σ := (wipe σ [ir]).set ir (some r.1)) (i := ir) (by rw [hir, hp])) (eo_some (i := 1) ev_c) eo_none (ex_l e1 hs)
      rw [cut1, ← List.map_tail] at this
      exact this
theorem strOk_of {x : Str} (h : ∀ c ∈ x.cps.toList, c < 0x110000) : PyData.strOk x = true := by
  unfold PyData.strOk
  rw [← Array.all_toList, List.all_eq_true]
  intro c hc
  exact decide_eq_true (h c hc)
theorem if_raw {σ : L2.St} {H : Hp} {te : TE} {D : Ends} {tu tw : TS} (h : te σ H fun x H1 => ∃ k, x = .bl k ∧ (if k = true then tu D σ H1 else tw D σ H1)) : tIfS (tTest te) tu tw D σ H := h
theorem q_dputG {σ : L2.St} {H : Hp} {td ty tv : TE} {D : Ends} {tz : TS} {d : Addr} {k : Key} (G : V → Hp → Prop) (hv : ∀ Q : VK, (∀ v H1, G v H1 → Q v H1) → tv σ H Q)
    (h : ∀ v H1, G v H1 → ∃ kvs, H1 d = some (.dK kvs) ∧ kvs.length < 100000 ∧ Ev td σ H1 (.ref d) ∧ Ev ty σ H1 (kV k) ∧ ∀ H2, Ex H1 H2 → tz D σ (upd H2 d (.dK (putK kvs k v)))) : tSeq (sDPut td ty tv) tz D σ H := s_dputG (D := { D with nx := tz D }) G hv h
theorem mergeK_new : ∀ (more acc : List (Key × V)), ((acc ++ more).map (·.1)).Nodup → mergeK acc more = acc ++ more
  | [], acc, _ => by simp [mergeK]
  | kv :: more, acc, h => by
    have hn : valV acc kv.1 = none := by
      cases hv : valV acc kv.1 with
      | none => rfl
      | some v =>
        have h1 := valV_in hv
        rw [List.map_append, List.nodup_append] at h
        exact absurd rfl (h.2.2 _ h1 _ (by simp))
    show mergeK (putK acc kv.1 kv.2) more = _
    rw [putK_new _ hn, mergeK_new more (acc ++ [(kv.1, kv.2)]) (by simpa using h)]
    simp
theorem valV_at {kvs : List (Key × V)} : ∀ {n : Nat} {k : Key} {v : V}, (kvs.map (·.1)).Nodup → kvs[n]? = some (k, v) → valV kvs k = some v := by
  induction kvs with
  | nil => intro n k v _ h; simp at h
  | cons p kvs ih =>
    intro n k v nd h
    cases n with
    | zero =>
      simp at h
      subst h
      exact valV_pos rfl
    | succ n =>
      have h' : kvs[n]? = some (k, v) := by simpa using h
      have hm : k ∈ kvs.map (·.1) := List.mem_map.mpr ⟨(k, v), List.mem_of_getElem? h', rfl⟩
      have hpk : ¬ p.1 = k := fun z => (List.nodup_cons.mp nd).1 (by rw [← z] at hm; exact hm)
      rw [valV_neg hpk]
      exact ih (List.nodup_cons.mp nd).2 h'
theorem paired_of {α β : Type} {F : α → β → Prop} : ∀ {ps : List α} {qs : List β}, ps.length = qs.length → (∀ (n : Nat) p q, ps[n]? = some p → qs[n]? = some q → F p q) → Paired F ps qs
  | [], [], _, _ => .nil
  | p :: ps, q :: qs, hl, h => .cons (h 0 p q rfl rfl) (paired_of (by simpa using hl) fun n a b ha hb => h (n + 1) a b (by simpa using ha) (by simpa using hb))
  | [], _ :: _, hl, _ => by simp at hl
  | _ :: _, [], hl, _ => by simp at hl
theorem nodup_map_on {α β : Type} {f : α → β} : ∀ {l : List α}, (∀ a ∈ l, ∀ b ∈ l, f a = f b → a = b) → l.Nodup → (l.map f).Nodup
  | [], _, _ => List.nodup_nil
  | a :: l, h, nd => by
    rw [List.map_cons, List.nodup_cons]
    refine ⟨fun q => ?_, nodup_map_on (fun x hx y hy => h x (List.mem_cons_of_mem _ hx) y (List.mem_cons_of_mem _ hy)) (List.nodup_cons.mp nd).2⟩
    obtain ⟨b, hb, e⟩ := List.mem_map.mp q
    have := h b (List.mem_cons_of_mem _ hb) a List.mem_cons_self e
    rw [this] at hb
    exact (List.nodup_cons.mp nd).1 hb
theorem ret_raw {σ : L2.St} {H : Hp} {te : TE} {D : Ends} (h : te σ H D.rt) : tRet te D σ H := h
theorem yes_raw {σ : L2.St} {H : Hp} {te : TE} {R : V → Hp → Prop} {S : Hp → Prop} (h : te σ H R) : tYes σ H fun b H3 => if b = true then te σ H3 (fun y H4 => R y H4) else S H3 := by
  show (if true = true then te σ H (fun y H4 => R y H4) else S H)
  rw [if_pos rfl]
  exact h
theorem drT_andF {tp : Addr} {σ : L2.St} {B : Hp} {t u : TT} {p : Bool → Prop} (h1 : DrT tp t σ B p) (h2 : DrT tp u σ B (fun b => b = false)) : DrT tp (tAnd t u) σ B (fun b => b = false) := fun H1 e tt Q k => h1 H1 e tt _ fun c H2 e2 t2 _ => by
  cases c with
  | true =>
    show u σ H2 Q
    exact h2 H2 e2 t2 Q fun c H3 e3 t3 hc => k c H3 e3 t3 hc
  | false =>
    show Q false H2
    exact k false H2 e2 t2 rfl
theorem q_forR3 {σ : L2.St} {H : Hp} {tA : TA} {j' : Nat} {tb tz : TS} {D : Ends} {i j c : Int} {m : Nat} (h : EvA tA σ H [.int i, .int j, .int c]) (hm : RgC i j c m) (Pv : Nat → L2.St → Hp → Prop) (h0 : ∀ H1, Ex H H1 → Pv 0 σ H1)
    (hs : ∀ (i' : Nat) σ' H', i' < m → Pv i' σ' H' → tb { D with nx := Pv (i' + 1), ct := Pv (i' + 1), bk := tz D } (σ'.set j' (some (.int (i + (i' : Nat) * c)))) H') (hd : ∀ σ' H', Pv m σ' H' → tz D σ' H') :
    tSeq (tFor (iRng3 tA) (gName j') tb) tz D σ H := h H (Ex.refl H) _ fun H1 e => ⟨i, j, c, m, rfl, hm, for_rangeC (D := { D with nx := tz D }) Pv (h0 H1 e) hs hd⟩

/-- text * int -/
def rMulS : R2 := fun x y H Q => ∃ (i : Str) (n : Int), x = .str i ∧ y = .int n ∧ i.length ≤ 16 ∧ -(2 ^ 63 : Int) ≤ n ∧ n ≤ 1048576 ∧ Q (.str (Txt.mul i n)) H
theorem op_mulS {X : Cx} : OpR X (binaryOp .Mult) rMulS := by
  intro pins s σ H x y v u Q I rx ry h
  obtain ⟨i, n, rfl, rfl, hz, h1, h2, q⟩ := h
  obtain ⟨t, rfl⟩ := rx
  obtain ⟨t', rfl⟩ := ry
  exact SB.mul (PyProof.Rows.mulOk_of 16 1048576 hz h2 h1 (by decide) (by decide)) fun t' tk => ⟨.str (Txt.mul i n), H, I.tok _, ⟨_, rfl⟩, q⟩
section
variable {σ : L2.St} {H : Hp} {ta tb te : TE}
theorem rv_mulS {c : Nat} {n : Nat} (h : n ≤ 1000) : RV rMulS (.str ⟨#[c]⟩) (.int (n : Nat)) H (.str ⟨(List.replicate n c).toArray⟩) := fun H1 _ _ q => ⟨⟨#[c]⟩, n, rfl, rfl, (by decide : 1 ≤ 16), by omega, by omega, by
  have : Txt.mul ⟨#[c]⟩ ((n : Nat) : Int) = ⟨(List.replicate n c).toArray⟩ := by
    have h := PyProof.Rows.mul_one_list c ((n : Nat) : Int)
    rw [Int.toNat_natCast] at h
    have : (Txt.mul ⟨#[c]⟩ ((n : Nat) : Int)).cps = (List.replicate n c).toArray := by rw [← h]
    exact congrArg Str.mk this
  rw [this]
  exact q H1 (Ex.refl H1)⟩
/-- z[:n] -/
theorem ev_slS {z : Str} {k : Nat} {to : TO} (hz : z.length ≤ 1000) (h : Ev ta σ H (.str z)) (ho : EvO to σ H (some (k : Int))) : Ev (tSl rSlS ta tNoPart to) σ H (.str ⟨(z.cps.toList.take k).toArray⟩) := fun H1 e Q q =>
  h H1 e _ fun H2 e2 => ho H2 (e.trans e2) _ fun H3 e3 => ⟨z, rfl, sz_of (by omega), by
    have : cutS z none (some (k : Int)) = ⟨(z.cps.toList.take k).toArray⟩ := by
      unfold cutS
      rw [HT.sIx_none, HT.sIx_nat, List.drop_zero, Nat.sub_zero]
      congr 2
      have hl : z.length = z.cps.toList.length := (Array.length_toList).symm
      rw [hl]
      by_cases h : k ≤ z.cps.toList.length
      · rw [Nat.min_eq_left h]
      · rw [Nat.min_eq_right (by omega), List.take_of_length_le (Nat.le_refl _), List.take_of_length_le (by omega)]
    rw [this]
    exact q H3 (e2.trans e3)⟩
end
end EX

set_option Elab.async false
set_option linter.all false
set_option maxRecDepth 100000
/-! pieces of rows: their texts, and rows that are laid of them -/
namespace PC
open PySem L2 TL
abbrev LETTERS : Str := "abcdefghijklmnopqrstuvwxyzABCDEFGHIJKLMNOPQRSTUVWXYZ"
abbrev FIGURES : Str := "0123456789"
abbrev SIGNS : Str := "()[]{},.:=+-*<"
def LTl : List Nat := LETTERS.cps.toList
def FGl : List Nat := FIGURES.cps.toList
def SGl : List Nat := SIGNS.cps.toList
def WDs : List Str := (["say", "ask", "if", "else", "while", "for", "in", "break", "next", "deed", "kind", "give", "hand", "try", "except", "as", "finally", "raise", "from", "outer", "let", "go", "pass", "sweep", "yes", "no", "none", "and", "or", "not", "super", "pull", "size"] : List String).map Str.ofString
def SGs : List Str := (["(", ")", "[", "]", "{", "}", ",", ".", ":", "=", "==", "+", "-", "*", "<"] : List String).map Str.ofString
def rc (c : Nat) : Bool := decide (c ∈ LTl) || decide (c ∈ FGl)
theorem lt_not_fg : ∀ c ∈ LTl, c ∉ FGl := by decide +kernel
theorem fg_of {c : Nat} (h1 : 48 ≤ c) (h2 : c ≤ 57) : c ∈ FGl := by
  have : ∀ c, c < 58 → 48 ≤ c → c ∈ FGl := by decide +kernel
  exact this c (by omega) h1
inductive Pc where
  | name (s : Str) | word (s : Str) | num (n : Nat) | text (s : Str) | sign (s : Str)
def Pc.txt : Pc → List Nat
  | .name s => s.cps.toList
  | .word s => s.cps.toList
  | .num n => numL n
  | .text s => 34 :: (s.cps.toList ++ [34])
  | .sign s => s.cps.toList
def Pc.kind : Pc → Str
  | .name _ => "name"
  | .word _ => "word"
  | .num _ => "number"
  | .text _ => "text"
  | .sign _ => "sign"
def Pc.val : Pc → V
  | .name s => .str s
  | .word s => .str s
  | .num n => .int (n : Int)
  | .text s => .str s
  | .sign s => .str s
def Pc.isRun : Pc → Bool
  | .name _ => true
  | .word _ => true
  | .num _ => true
  | _ => false
def Pc.ok : Pc → Prop
  | .name s => s.cps.toList ≠ [] ∧ (∀ c, s.cps.toList.head? = some c → c ∈ LTl) ∧ (∀ c ∈ s.cps.toList, rc c = true) ∧ s.length ≤ 12 ∧ s ∉ WDs
  | .word s => s ∈ WDs
  | .num n => n < 10 ^ 9
  | .text s => s.length ≤ 40 ∧ 34 ∉ s.cps.toList ∧ ∀ c ∈ s.cps.toList, c < 128
  | .sign s => s ∈ SGs
/-- what may stand right behind a piece -/
def Bnd (p : Pc) (rest : List Nat) : Prop := (p.isRun = true → ∀ c, rest.head? = some c → rc c = false) ∧ (p = .sign "=" → rest.head? ≠ some 61)
theorem words_fact : ∀ s ∈ WDs, s.cps.toList ≠ [] ∧ (∀ c ∈ s.cps.toList, c ∈ LTl) ∧ s.length ≤ 12 := by decide +kernel
theorem signs_fact : ∀ s ∈ SGs, ∃ c r, s.cps.toList = c :: r ∧ rc c = false ∧ c ≠ 34 ∧ c ≠ 32 ∧ ((s = "==" ∧ r = [61] ∧ c = 61) ∨ (r = [] ∧ c ∈ SGl ∧ (c = 61 → s = "="))) := by
  have h : ∀ s ∈ SGs, rc (s.cps.toList.headD 0) = false ∧ s.cps.toList.headD 0 ≠ 34 ∧ s.cps.toList.headD 0 ≠ 32 ∧ s.cps.toList ≠ [] ∧ ((s = "==" ∧ s.cps.toList.tail = [61] ∧ s.cps.toList.headD 0 = 61) ∨ (s.cps.toList.tail = [] ∧ s.cps.toList.headD 0 ∈ SGl ∧ (s.cps.toList.headD 0 = 61 → s = "="))) := by decide +kernel
  intro s hs
  obtain ⟨a, b, c, d, e⟩ := h s hs
  cases hl : s.cps.toList with
  | nil => exact absurd hl d
  | cons x r =>
    rw [hl] at a b c e
    exact ⟨x, r, rfl, a, b, c, e⟩
theorem rc32 : rc 32 = false := by decide +kernel
theorem rc34 : rc 34 = false := by decide +kernel
theorem rc61 : rc 61 = false := by decide +kernel
theorem Pc.run_all {p : Pc} (h : p.ok) (hr : p.isRun = true) : ∀ c ∈ p.txt, rc c = true := by
  cases p with
  | name s => exact h.2.2.1
  | word s =>
    intro c hc
    have := (words_fact s h).2.1 c hc
    unfold rc
    simp [this]
  | num n =>
    intro c hc
    have := numL_digits n c hc
    unfold rc
    have h2 := fg_of this.1 this.2
    simp [h2]
  | text s => cases hr
  | sign s => cases hr
theorem Pc.txt_ne {p : Pc} (h : p.ok) : p.txt ≠ [] := by
  cases p with
  | name s => exact h.1
  | word s => exact (words_fact s h).1
  | num n => exact numL_ne n
  | text s => exact List.cons_ne_nil _ _
  | sign s =>
    obtain ⟨c, r, e, _⟩ := signs_fact s h
    show s.cps.toList ≠ []
    rw [e]
    exact List.cons_ne_nil _ _
/-- the first sign of a piece that is no run -/
theorem Pc.still {p : Pc} (h : p.ok) (hr : p.isRun = false) : ∃ c r, p.txt = c :: r ∧ rc c = false ∧ c ≠ 32 := by
  cases p with
  | name s => cases hr
  | word s => cases hr
  | num n => cases hr
  | text s => exact ⟨34, _, rfl, rc34, by decide⟩
  | sign s =>
    obtain ⟨c, r, e, a, _, b, _⟩ := signs_fact s h
    exact ⟨c, r, e, a, b⟩
theorem Pc.no_blank {p : Pc} (h : p.ok) : ∃ c r, p.txt = c :: r ∧ c ≠ 32 := by
  cases hr : p.isRun with
  | false =>
    obtain ⟨c, r, e, _, b⟩ := p.still h hr
    exact ⟨c, r, e, b⟩
  | true =>
    cases ht : p.txt with
    | nil => exact absurd ht (p.txt_ne h)
    | cons c r =>
      refine ⟨c, r, rfl, fun z => ?_⟩
      have := p.run_all h hr c (by rw [ht]; exact List.mem_cons_self)
      rw [z, rc32] at this
      cases this
theorem takeWhile_run {q : Nat → Bool} : ∀ {l rest : List Nat}, (∀ c ∈ l, q c = true) → (∀ c, rest.head? = some c → q c = false) → (l ++ rest).takeWhile q = l
  | [], rest, _, h => by
    cases rest with
    | nil => rfl
    | cons c r => rw [List.nil_append, List.takeWhile_cons, h c rfl]; rfl
  | a :: l, rest, h1, h2 => by
    rw [List.cons_append, List.takeWhile_cons, h1 a List.mem_cons_self, if_pos rfl, takeWhile_run (fun c hc => h1 c (List.mem_cons_of_mem _ hc)) h2]
/-- how far a run goes -/
theorem Pc.run_len {p : Pc} {rest : List Nat} (h : p.ok) (hb : Bnd p rest) : (p.txt ++ rest).takeWhile rc = if p.isRun = true then p.txt else [] := by
  cases hr : p.isRun with
  | true =>
    rw [if_pos rfl]
    exact takeWhile_run (p.run_all h hr) (hb.1 hr)
  | false =>
    rw [if_neg (by decide)]
    obtain ⟨c, r, e, a, _⟩ := p.still h hr
    rw [e, List.cons_append, List.takeWhile_cons, a]
    rfl
/-- a row that is laid of pieces, with blanks between -/
inductive Lay : List Pc → List Nat → Prop
  | done : Lay [] []
  | blank {ps : List Pc} {l : List Nat} : Lay ps l → Lay ps (32 :: l)
  | piece {p : Pc} {ps : List Pc} {rest : List Nat} : p.ok → Bnd p rest → Lay ps rest → Lay (p :: ps) (p.txt ++ rest)
theorem Lay.blanks {ps : List Pc} {l : List Nat} (h : Lay ps l) : ∀ n, Lay ps (List.replicate n 32 ++ l)
  | 0 => h
  | n + 1 => by
    rw [List.replicate_succ, List.cons_append]
    exact .blank (Lay.blanks h n)
/-- row is laid of ps, the last of them p: whatever may follow p may follow the row -/
def Open (ps : List Pc) (p : Pc) (row : List Nat) : Prop := ∀ qs rest, Bnd p rest → Lay qs rest → Lay (ps ++ qs) (row ++ rest)
theorem open_first {p : Pc} (h : p.ok) : Open [p] p p.txt := fun qs rest hb hl => .piece h hb hl
/-- b blanks, then q; parted: whether there must be a blank -/
theorem Open.next {ps : List Pc} {p q : Pc} {row : List Nat} {b : Nat} (h : Open ps p row) (hq : q.ok) (h1 : 0 < b ∨ (¬ (p.isRun = true ∧ q.isRun = true) ∧ ¬ (p = .sign "=" ∧ (q = .sign "=" ∨ q = .sign "==")))) : Open (ps ++ [q]) q (row ++ List.replicate b 32 ++ q.txt) := fun qs rest hb hl => by
  have hb' : Bnd p (List.replicate b 32 ++ (q.txt ++ rest)) := by
    cases b with
    | succ b =>
      refine ⟨fun _ c hc => ?_, fun _ hc => ?_⟩
      · rw [List.replicate_succ, List.cons_append] at hc
        cases hc
        exact rc32
      · rw [List.replicate_succ, List.cons_append] at hc
        cases hc
    | zero =>
      have h2 := h1.resolve_left (by omega)
      rw [List.replicate_zero, List.nil_append]
      refine ⟨fun hp c hc => ?_, fun hp hc => ?_⟩
      · have hqr : q.isRun = false := by
          cases hz : q.isRun with
          | false => rfl
          | true => exact absurd ⟨hp, hz⟩ h2.1
        obtain ⟨d, r, e, a, _⟩ := q.still hq hqr
        rw [e] at hc
        cases hc
        exact a
      · cases hqr : q.isRun with
        | true =>
          cases ht : q.txt with
          | nil => exact q.txt_ne hq ht
          | cons d r =>
            rw [ht] at hc
            cases hc
            have := q.run_all hq hqr 61 (by rw [ht]; exact List.mem_cons_self)
            rw [rc61] at this
            cases this
        | false =>
          cases q with
          | name s => cases hqr
          | word s => cases hqr
          | num n => cases hqr
          | text s => cases hc
          | sign s =>
            obtain ⟨d, r, e, _, _, _, f⟩ := signs_fact s hq
            have hc' : (s.cps.toList ++ rest).head? = some 61 := hc
            rw [e] at hc'
            cases hc'
            rcases f with ⟨f1, _, _⟩ | ⟨_, _, f3⟩
            · exact h2.2 ⟨hp, .inr (by rw [f1])⟩
            · exact h2.2 ⟨hp, .inl (by rw [f3 rfl])⟩
  have := h (q :: qs) (List.replicate b 32 ++ (q.txt ++ rest)) hb' (Lay.blanks (.piece hq hb hl) b)
  simpa [List.append_assoc] using this
end PC

set_option Elab.async false
set_option linter.all false
set_option maxRecDepth 100000
namespace EX
open PySem L2 Evl
theorem pe_gl {X : Cx} {x : Str} {v : V} {pos : Pos} (hg : Gl X x) (h : ∃ u, X.mg x = some u ∧ RelV v u) (hd : (x == ("__debug__" : Str)) = false := by decide) : PE X (.Name x pos) (tC v) := by
  obtain ⟨u, hm, r⟩ := h
  exact pe_glob hg hm r hd
end EX
namespace K
open PySem L2 Evl EX PC
def top (i : Nat) : Stmt := PySem.Challenge.pw_snakehall_k02_rows_of_no_pieces.main.body.getD i (.Pass ⟨0, 0, 0, 0⟩)
abbrev s_BadRow___init__ : Stmt := inClass (top 2) 0
abbrev N_BadRow___init__ : List Str := ["self", "row"]
theorem sc_BadRow___init__ : FnScope N_BadRow___init__ ["self", "row"] (defScope s_BadRow___init__) := ⟨rfl, rfl, rfl, by decide +kernel, rfl, by decide +kernel, by decide +kernel⟩
abbrev s_BadTree___init__ : Stmt := inClass (top 3) 0
abbrev N_BadTree___init__ : List Str := ["self", "place"]
theorem sc_BadTree___init__ : FnScope N_BadTree___init__ ["self", "place"] (defScope s_BadTree___init__) := ⟨rfl, rfl, rfl, by decide +kernel, rfl, by decide +kernel, by decide +kernel⟩
abbrev s_run_end : Stmt := top 12
abbrev N_run_end : List Str := ["row", "at"]
theorem sc_run_end : FnScope N_run_end ["row", "at"] (defScope s_run_end) := ⟨rfl, rfl, rfl, by decide +kernel, rfl, by decide +kernel, by decide +kernel⟩
abbrev s_number_piece : Stmt := top 13
abbrev N_number_piece : List Str := ["run", "sign"]
theorem sc_number_piece : FnScope N_number_piece ["run"] (defScope s_number_piece) := ⟨rfl, rfl, rfl, by decide +kernel, rfl, by decide +kernel, by decide +kernel⟩
abbrev s_run_piece : Stmt := top 14
abbrev N_run_piece : List Str := ["run"]
theorem sc_run_piece : FnScope N_run_piece ["run"] (defScope s_run_piece) := ⟨rfl, rfl, rfl, by decide +kernel, rfl, by decide +kernel, by decide +kernel⟩
abbrev s_piece_at : Stmt := top 15
abbrev N_piece_at : List Str := ["row", "at", "end"]
theorem sc_piece_at : FnScope N_piece_at ["row", "at"] (defScope s_piece_at) := ⟨rfl, rfl, rfl, by decide +kernel, rfl, by decide +kernel, by decide +kernel⟩
abbrev s_pieces_of : Stmt := top 16
abbrev N_pieces_of : List Str := ["row", "blanks", "pieces", "at", "piece"]
theorem sc_pieces_of : FnScope N_pieces_of ["row"] (defScope s_pieces_of) := ⟨rfl, rfl, rfl, by decide +kernel, rfl, by decide +kernel, by decide +kernel⟩
abbrev s__law_cell_at : Stmt := top 18
abbrev N__law_cell_at : List Str := ["_law_script", "_law_k"]
theorem sc__law_cell_at : FnScope N__law_cell_at ["_law_script", "_law_k"] (defScope s__law_cell_at) := ⟨rfl, rfl, rfl, by decide +kernel, rfl, by decide +kernel, by decide +kernel⟩
abbrev s__law_mixed : Stmt := top 19
abbrev N__law_mixed : List Str := ["_law_number_here", "_law_k", "_law_once", "_law_twice"]
theorem sc__law_mixed : FnScope N__law_mixed ["_law_number_here", "_law_k"] (defScope s__law_mixed) := ⟨rfl, rfl, rfl, by decide +kernel, rfl, by decide +kernel, by decide +kernel⟩
abbrev s__law_tap : Stmt := top 20
abbrev N__law_tap : List Str := ["_law_cell"]
theorem sc__law_tap : FnScope N__law_tap ["_law_cell"] (defScope s__law_tap) := ⟨rfl, rfl, rfl, by decide +kernel, rfl, by decide +kernel, by decide +kernel⟩
abbrev s__law_next : Stmt := top 21
abbrev N__law_next : List Str := ["_law_tap_here", "_law_size", "_law_found"]
theorem sc__law_next : FnScope N__law_next ["_law_tap_here", "_law_size"] (defScope s__law_next) := ⟨rfl, rfl, rfl, by decide +kernel, rfl, by decide +kernel, by decide +kernel⟩
abbrev s__law_kept : Stmt := top 22
abbrev N__law_kept : List Str := ["_law_some"]
theorem sc__law_kept : FnScope N__law_kept [] (defScope s__law_kept) := ⟨rfl, rfl, rfl, by decide +kernel, rfl, by decide +kernel, by decide +kernel⟩
abbrev s__law_name : Stmt := top 23
abbrev N__law_name : List Str := ["_law_tap_here", "_law_letters", "_law_way", "_law_word", "_law_k"]
theorem sc__law_name : FnScope N__law_name ["_law_tap_here"] (defScope s__law_name) := ⟨rfl, rfl, rfl, by decide +kernel, rfl, by decide +kernel, by decide +kernel⟩
abbrev s__law_signs : Stmt := top 24
abbrev N__law_signs : List Str := ["_law_some"]
theorem sc__law_signs : FnScope N__law_signs [] (defScope s__law_signs) := ⟨rfl, rfl, rfl, by decide +kernel, rfl, by decide +kernel, by decide +kernel⟩
abbrev s__law_words_text : Stmt := top 25
abbrev N__law_words_text : List Str := ["_law_tap_here", "_law_way", "_law_k"]
theorem sc__law_words_text : FnScope N__law_words_text ["_law_tap_here"] (defScope s__law_words_text) := ⟨rfl, rfl, rfl, by decide +kernel, rfl, by decide +kernel, by decide +kernel⟩
abbrev s__law_number : Stmt := top 26
abbrev N__law_number : List Str := ["_law_tap_here", "_law_way"]
theorem sc__law_number : FnScope N__law_number ["_law_tap_here"] (defScope s__law_number) := ⟨rfl, rfl, rfl, by decide +kernel, rfl, by decide +kernel, by decide +kernel⟩
abbrev s__law_piece : Stmt := top 27
abbrev N__law_piece : List Str := ["_law_tap_here", "_law_way"]
theorem sc__law_piece : FnScope N__law_piece ["_law_tap_here"] (defScope s__law_piece) := ⟨rfl, rfl, rfl, by decide +kernel, rfl, by decide +kernel, by decide +kernel⟩
abbrev s__law_piece_text : Stmt := top 28
abbrev N__law_piece_text : List Str := ["_law_piece_here"]
theorem sc__law_piece_text : FnScope N__law_piece_text ["_law_piece_here"] (defScope s__law_piece_text) := ⟨rfl, rfl, rfl, by decide +kernel, rfl, by decide +kernel, by decide +kernel⟩
abbrev s__law_fit : Stmt := top 29
abbrev N__law_fit : List Str := ["_law_pieces", "_law_found", "_law_room", "_law_piece_here"]
theorem sc__law_fit : FnScope N__law_fit ["_law_pieces"] (defScope s__law_fit) := ⟨rfl, rfl, rfl, by decide +kernel, rfl, by decide +kernel, by decide +kernel⟩
abbrev s__law_row : Stmt := top 30
abbrev N__law_row : List Str := ["_law_pieces", "_law_tap_here", "_law_row_here", "_law_k", "_law_piece_here", "_law_blanks", "_law_last", "_law_both", "_law_one"]
theorem sc__law_row : FnScope N__law_row ["_law_pieces", "_law_tap_here"] (defScope s__law_row) := ⟨rfl, rfl, rfl, by decide +kernel, rfl, by decide +kernel, by decide +kernel⟩
abbrev s__law_same : Stmt := top 31
abbrev N__law_same : List Str := ["_law_found", "_law_due", "_law_k"]
theorem sc__law_same : FnScope N__law_same ["_law_found", "_law_due"] (defScope s__law_same) := ⟨rfl, rfl, rfl, by decide +kernel, rfl, by decide +kernel, by decide +kernel⟩
abbrev s__law_cut : Stmt := top 32
abbrev N__law_cut : List Str := ["_law_row_here", "_law_found", "_law_state", "_law_sign", "_law_plain", "_law_one"]
theorem sc__law_cut : FnScope N__law_cut ["_law_row_here"] (defScope s__law_cut) := ⟨rfl, rfl, rfl, by decide +kernel, rfl, by decide +kernel, by decide +kernel⟩
abbrev s__law_sorted : Stmt := top 33
abbrev N__law_sorted : List Str := ["_law_one", "_law_sign"]
theorem sc__law_sorted : FnScope N__law_sorted ["_law_one"] (defScope s__law_sorted) := ⟨rfl, rfl, rfl, by decide +kernel, rfl, by decide +kernel, by decide +kernel⟩
abbrev s__law_judged : Stmt := top 34
abbrev N__law_judged : List Str := ["_law_row_here", "_law_some", "_law_found", "_law_one"]
theorem sc__law_judged : FnScope N__law_judged ["_law_row_here"] (defScope s__law_judged) := ⟨rfl, rfl, rfl, by decide +kernel, rfl, by decide +kernel, by decide +kernel⟩
abbrev s__law_spoilt : Stmt := top 35
abbrev N__law_spoilt : List Str := ["_law_row_here", "_law_tap_here", "_law_at", "_law_sign", "_law_way", "_law_words"]
theorem sc__law_spoilt : FnScope N__law_spoilt ["_law_row_here", "_law_tap_here"] (defScope s__law_spoilt) := ⟨rfl, rfl, rfl, by decide +kernel, rfl, by decide +kernel, by decide +kernel⟩
abbrev s__law_told : Stmt := top 36
abbrev N__law_told : List Str := ["_law_row_here", "_law_found", "_law_word", "e"]
theorem sc__law_told : FnScope N__law_told ["_law_row_here"] (defScope s__law_told) := ⟨rfl, rfl, rfl, by decide +kernel, rfl, by decide +kernel, by decide +kernel⟩
abbrev s_law : Stmt := top 37
abbrev N_law : List Str := ["_law_script", "_law_k", "_law_cell", "_law_tap_here", "_law_pieces", "_law_row_here", "_law_one", "_law_found", "_law_word", "_law_due", "_law_turn"]
theorem sc_law : FnScope N_law ["_law_script"] (defScope s_law) := ⟨rfl, rfl, rfl, by decide +kernel, rfl, by decide +kernel, by decide +kernel⟩
structure Txt (K : PySem.W.Frag) (mg : Str → Option Value) (wa : Addr) : Prop where
  any : mg "any" = none
  all : mg "all" = none
  len : mg "len" = none
  list : mg "list" = none
  abs : mg "abs" = none
  int : mg "int" = none
  str : mg "str" = none
  range : mg "range" = none
  enumerate : mg "enumerate" = none
  max : mg "max" = none
  isinstance : mg "isinstance" = none
  tuple : mg "tuple" = none
  bool : mg "bool" = none
  LETTERS : ∃ u, mg "LETTERS" = some u ∧ RelV (.str PC.LETTERS) u
  FIGURES : ∃ u, mg "FIGURES" = some u ∧ RelV (.str PC.FIGURES) u
  SIGNS : ∃ u, mg "SIGNS" = some u ∧ RelV (.str PC.SIGNS) u
  WORDS : ∃ u, mg "WORDS" = some u ∧ RelV (.ref wa) u
  MOST_NAME : ∃ u, mg "MOST_NAME" = some u ∧ RelV (.int 12) u
  MOST_FIGURES : ∃ u, mg "MOST_FIGURES" = some u ∧ RelV (.int 9) u
  MOST_TEXT : ∃ u, mg "MOST_TEXT" = some u ∧ RelV (.int 40) u
  words : ∀ H : Hp, SqT K H wa (PC.WDs.map V.str)
theorem sign_at {row : Str} {at_ : Nat} {c : Nat} (h : row.cps.toList[at_]? = some c) {H : Hp} (hz : row.length ≤ 5000) : RV rIxS (.str row) (.int (at_ : Nat)) H (.str ⟨#[c]⟩) := rv_ixS (by omega) (atI_nat h)
theorem len_cps (x : Str) : x.length = x.cps.toList.length := (Array.length_toList).symm
section
variable {P : Program} {w : World} {K : PySem.W.Frag} {mg : Str → Option Value} {base : Heap}
def spRunEnd : Sp := fun vs H Q _ => ∃ (row : Str) (a : Nat), vs = [.str row, .int (a : Nat)] ∧ row.length ≤ 5000 ∧ a ≤ row.length ∧ RetV (.int ((a + ((row.cps.toList.drop a).takeWhile rc).length : Nat) : Int)) H Q
theorem ev_lenS {σ : L2.St} {H : Hp} {ta : TE} {z : Str} (hz : z.length ≤ 10000) (h : Ev ta σ H (.str z)) : Ev (tCB (fun xs H Q => ∃ z, xs = [.str z] ∧ z.length ≤ sizeLine ∧ Q (.int z.length) H) (tCons ta tNil)) σ H (.int (z.length : Nat)) :=
  ev_cb (ea_cons h ea_nil) fun H1 _ Q q => ⟨z, rfl, sz_of (by omega), q H1 (Ex.refl H1)⟩
theorem rv_inSg {c : Nat} {z : Str} {H : Hp} : RV (fun x y H Q => ∃ (c : Nat) (z : Str), x = .str ⟨#[c]⟩ ∧ y = .str z ∧ Q (.bl (decide (c ∈ z.cps.toList))) H) (.str ⟨#[c]⟩) (.str z) H (.bl (decide (c ∈ z.cps.toList))) := fun H1 _ Q q => ⟨c, z, rfl, rfl, q H1 (Ex.refl H1)⟩
theorem ok_run_end {f wa : Addr} {fd : FuncData} (F : Fun K "run_end" "run_end" s_run_end f fd) (T : Txt K mg wa) : FnOk P w K mg base CX0 1 f fd ["row", "at"] spRunEnd := by
  refine F.ok sc_run_end (fun vs H Q E h => ?_) (fun cdv A outer s H vs Q E hr h => ?_)
  · obtain ⟨row, a, rfl, _⟩ := h
    rfl
  · obtain ⟨row, a, rfl, hz, ha, k⟩ := h
    refine ⟨_, pss_cons (ps_while PassesOwn.never (PW.pt (pw_and (pt_cmpR op_lt (pv 1) (pe_callB call_len_str (by rfl) T.len (by decide +kernel) (pa_cons (pv 0) pa_nil)) (nomark _)) (pw_and1 (PW.pt (pw_or (pt_cmpR op_in_sign (pe_ix ix_str (pv 0) (pv 1) (fun _ _ => rfl)) (pe_gl (by rfl) T.LETTERS) (by rfl)) (pw_or1 (pt_cmpR op_in_sign (pe_ix ix_str (pv 0) (pv 1) (fun _ _ => rfl)) (pe_gl (by rfl) T.FIGURES) (by rfl))))))))
        (pss_one (ps_aug (i := 1) sc_run_end.nd rfl (Or.inl rfl) (pe_int) ip_add)))
      (pss_one (ps_ret (pv 1))), ?_⟩
    refine q_while (fun m σ H' => ∃ b : Nat, σ = [some (.str row), some (.int (b : Nat))] ∧ Ex H H' ∧ b ≤ row.length ∧ m = row.length - b ∧ b + ((row.cps.toList.drop b).takeWhile rc).length = a + ((row.cps.toList.drop a).takeWhile rc).length) (row.length - a) ⟨a, rfl, Ex.refl H, ha, rfl, rfl⟩ ?_
    rintro m σ H1 ⟨b, rfl, e1, hb, rfl, hab⟩
    have hl := len_cps row
    by_cases hlt : b < row.length
    · obtain ⟨c, hc⟩ : ∃ c, row.cps.toList[b]? = some c := ⟨_, List.getElem?_eq_getElem (by omega)⟩
      have hdr : row.cps.toList.drop b = c :: row.cps.toList.drop (b + 1) := by
        rw [List.drop_eq_getElem_cons (by omega)]
        rw [List.getElem?_eq_getElem (by omega)] at hc
        rw [Option.some.inj hc]
      refine ⟨rc c, et_is (et_and (a := true) (et_test (ev_is (ev_op (ev_var rfl) (ev_lenS (by omega) (ev_var rfl)) rv_I0) (by rw [decide_eq_true (by omega)]))) fun _ => et_or (et_test (ev_op (ev_op (ev_var rfl) (ev_var rfl) (sign_at hc hz)) ev_c rv_inSg)) fun _ => et_test (ev_op (ev_op (ev_var rfl) (ev_var rfl) (sign_at hc hz)) ev_c rv_inSg)) (by rfl), fun hr' H2 e2 => ⟨_, fun σ2 H2 h => h, ?_⟩, fun hr' H2 e2 => ?_⟩
      · refine s_aug (f := fun i j => i + j) rfl ev_c fun H3 e3 => ?_
        refine ⟨row.length - (b + 1), by omega, b + 1, rfl, e1.trans (e2.trans e3), by omega, rfl, ?_⟩
        rw [hdr, List.takeWhile_cons, hr', if_pos rfl] at hab
        simp only [List.length_cons] at hab
        omega
      · refine s_ret (ev_var rfl) fun H3 e3 => ?_
        rw [hdr, List.takeWhile_cons, hr'] at hab
        have hab' : b = a + ((row.cps.toList.drop a).takeWhile rc).length := by simpa using hab
        rw [← hab'] at k
        exact k _ (e1.trans (e2.trans e3))
    · refine ⟨false, et_is (et_and (a := false) (b := true) (et_test (ev_is (ev_op (ev_var rfl) (ev_lenS (by omega) (ev_var rfl)) rv_I0) (by rw [decide_eq_false (by omega)]))) (fun q => nomatch q)) (by rfl), (fun q => nomatch q), fun _ H2 e2 => ?_⟩
      refine s_ret (ev_var rfl) fun H3 e3 => ?_
      rw [List.drop_of_length_le (by omega)] at hab
      have hab' : b = a + ((row.cps.toList.drop a).takeWhile rc).length := by simpa using hab
      rw [← hab'] at k
      exact k _ (e1.trans (e2.trans e3))
end
end K

set_option Elab.async false
set_option linter.all false
set_option maxRecDepth 100000
namespace K
open PySem L2 Evl EX PC
/-- a comprehension over a text's signs -/
theorem el_lcStr {σ : L2.St} {H : Hp} {te tl : TE} {t : TT} {x : Str} {j : Nat} {vs : List Nat} (f : Nat → Bool) (v : Nat → V) (h : Ev tl σ H (.str x)) (hz : x.length ≤ 40000) (hw : ∀ x, wipe ((wipe σ vs).set j (some x)) vs = wipe σ vs)
    (ht : ∀ (i : Nat) (c : Nat) H1, Ex H H1 → x.cps.toList[i]? = some c → EvT t ((wipe σ vs).set j (some (.str ⟨#[c]⟩))) H1 (f i)) (he : ∀ (i : Nat) (c : Nat) H1, Ex H H1 → x.cps.toList[i]? = some c → f i = true → Ev te ((wipe σ vs).set j (some (.str ⟨#[c]⟩))) H1 (v i)) :
    EvL (tLc (iStr tl) (gName j) t te vs) σ H (given x.length f v) := fun H0 e Q q => h H0 e _ fun H1 e1 => ⟨x, rfl, fun Dl hD => by
  refine ⟨fun i m H' => m = x.length - i ∧ i ≤ x.length ∧ Cw H1 f v Dl i H', ⟨x.length, rfl, Nat.zero_le _, hD, Ex.new hD, upd_same⟩, ?_⟩
  rintro i m H' ⟨rfl, hi, p⟩
  by_cases hlt : i < x.length
  · refine .inr ⟨hlt, fun H2 => Cw H1 f v Dl (i + 1) H2, fun H2 h => ⟨x.length - (i + 1), by omega, rfl, by omega, h⟩, ?_⟩
    rintro y H2 ⟨rfl, c, hc, rfl⟩
    have hc' : x.cps.toList[i]? = some c := by rw [Array.getElem?_toList]; exact hc
    exact ⟨hw _, cw_turn p (by omega) (ht i c H1 (e.trans e1) hc') (fun hf => he i c H1 (e.trans e1) hc' hf)⟩
  · have ei : i = x.length := by omega
    subst ei
    exact .inl ⟨Nat.le_refl _, q Dl H' (fresh_back e1 p.1) (e1.trans p.2.1) p.2.2⟩⟩
theorem str_ext {a b : Str} (h : a.cps.toList = b.cps.toList) : a = b := by
  cases a with | mk a => cases b with | mk b => exact congrArg Str.mk (Array.toList_inj.mp h)
theorem numL_head : ∀ (n : Nat), (TL.numL n).head? = some 48 → n = 0 := by
  intro n
  induction n using Nat.strongRecOn with
  | ind n ih =>
    intro h
    by_cases hn : n < 10
    · rw [TL.numL_lt hn] at h
      simp at h
      omega
    · rw [TL.numL_step (by omega)] at h
      have hne := TL.numL_ne (n / 10)
      cases hl : TL.numL (n / 10) with
      | nil => exact absurd hl hne
      | cons c r =>
        rw [hl] at h
        have := ih (n / 10) (by omega) (by rw [hl]; exact h)
        omega
/-- the tuple of a piece, new -/
def RetP (p : Pc) (H : Hp) (Q : VK) : Prop := ∀ q H', H q = none → Ex H H' → H' q = some (.tup [.str p.kind, p.val]) → Q (.ref q) H'
section
variable {P : Program} {w : World} {K : PySem.W.Frag} {mg : Str → Option Value} {base : Heap}
def spNumPiece : Sp := fun vs H Q _ => ∃ (run : Str) (n : Nat), vs = [.str run] ∧ run.cps.toList = TL.numL n ∧ n < 10 ^ 9 ∧ RetP (.num n) H Q
theorem ok_number_piece {f wa : Addr} {fd : FuncData} (F : Fun K "number_piece" "number_piece" s_number_piece f fd) (T : Txt K mg wa) : FnOk P w K mg base CX0 1 f fd ["run"] spNumPiece := by
  refine F.ok sc_number_piece (fun vs H Q E h => ?_) (fun cdv A outer s H vs Q E hr h => ?_)
  · obtain ⟨run, n, rfl, _⟩ := h
    rfl
  · obtain ⟨run, n, rfl, hrun, hn, k⟩ := h
    refine ⟨_, pss_cons (ps_if (PW.pt (pw_or (pt_cmpR op_gt (pe_callB call_len_str (by rfl) T.len (by decide +kernel) (pa_cons (pv 0) pa_nil)) (pe_gl (by rfl) T.MOST_FIGURES) (nomark _)) (pw_or1 (pt_not (pt_val (pe_callB (crAll (K := K)) (by rfl) T.all (by decide +kernel) (pa_cons (pe_lc (own := [("sign", 1)]) (g := gName 1) (tt := tYes) rfl sc_number_piece.nd (pi_str (pv 0)) (blkOk_by (N := N_number_piece) (sc := defScope s_number_piece) (by decide +kernel)) (fun _ _ _ _ _ => pg_name (i := 1) sc_number_piece.nd rfl (Or.inl rfl)) (fun _ _ _ _ _ => pts_nil) (fun _ _ _ _ _ => pe_cmpR op_in_sign (pv 1) (pe_gl (by rfl) T.FIGURES) (by rfl))) pa_nil)))))))
        (pss_one (ps_ret (pe_non)))
        (pss_nil))
      (pss_cons (ps_if (PW.pt (pw_and (pt_cmpR op_eq (pe_ix ix_str (pv 0) (pe_int) (fun _ _ => rfl)) (pe_str) (nomark _)) (pw_and1 (pt_cmpR op_ne (pv 0) (pe_str) (nomark _)))))
        (pss_one (ps_ret (pe_non)))
        (pss_nil))
      (pss_one (ps_ret (pe_tup (pa_cons (pe_str) (pa_cons (pe_callTy call_int_str (by rfl) T.int (by decide +kernel) (pa_cons (pv 0) pa_nil)) pa_nil)))))), ?_⟩
    have hl : run.length ≤ 9 := by
      rw [len_cps, hrun]
      exact TL.numL_len (by decide) hn
    have hdig := TL.numL_digits n
    obtain ⟨c0, r0, hc0⟩ : ∃ c r, run.cps.toList = c :: r := by
      cases hz : run.cps.toList with
      | nil => exact absurd (hrun ▸ hz) (TL.numL_ne n)
      | cons c r => exact ⟨c, r, rfl⟩
    -- if len(run) > MOST_FIGURES or not all([..])
    refine q_when (b := false) (et_is (et_or (et_test (ev_is (ev_op (ev_lenS (by omega) (ev_var rfl)) ev_c rv_I0) (by rw [decide_eq_false (by omega)]))) fun _ => et_not (et_B (ev_all (bs := run.cps.toList.map fun _ => true) ?_))) (by simp)) (fun q => nomatch q) (fun _ H1 e1 => ?_)
    · have hg : (run.cps.toList.map fun _ => true).map V.bl = given run.length (fun _ => true) (fun i => V.bl true) := by
        rw [len_cps, given_map run.cps.toList 0 (fun _ => V.bl true), List.map_map]
        rfl
      rw [hg]
      refine el_lcStr _ _ (ev_var rfl) (by omega) (fun x => rfl) (fun i c H3 e3 hc => fun H4 _ Q q => q H4 (Ex.refl H4)) (fun i c H3 e3 hc _ => ?_)
      have hm := List.mem_of_getElem? hc
      rw [hrun] at hm
      have := hdig c hm
      have hf : c ∈ PC.FIGURES.cps.toList := fg_of this.1 this.2
      exact ev_is (ev_op (ev_var rfl) ev_c rv_inSg) (by rw [decide_eq_true hf])
    · -- if run[0] == '0' and run != '0'
      refine q_when (b := false) (et_is (et_and (et_test (ev_op (ev_op (ev_var rfl) ev_c (sign_at (at_ := 0) (c := c0) (by rw [hc0]; rfl) (by omega))) ev_c (rv_eq rfl))) fun _ => et_test (ev_op (ev_var rfl) ev_c (rv_ne rfl))) ?_) (fun q => nomatch q) (fun _ H2 e2 => ?_)
      · rw [dec_str, dec_str]
        by_cases h0 : c0 = 48
        · have : n = 0 := numL_head n (by rw [← hrun, hc0, h0]; rfl)
          have hr0 : run = Str.ofString "0" := str_ext (by rw [hrun, this]; rfl)
          rw [hr0]
          simp
        · have : ((⟨#[c0]⟩ : Str) == Str.ofString "0") = false := by
            rw [beq_eq_false_iff_ne]
            intro z
            have := congrArg (fun s : Str => s.cps.toList) z
            simp at this
            exact h0 (by injection this)
          rw [this]
          rfl
      · have hint : intText? run = some (n : Int) := by
          rw [PySem.intText_digits (by rw [hrun]; exact hdig) (by rw [hrun]; exact TL.numL_ne n) (by omega), hrun, TL.numL_val]
        refine s_retU (eu_tup (ea_cons ev_c (ea_cons (ev_cb (ea_cons (ev_var rfl) ea_nil) fun H3 _ Q q => ⟨run, n, rfl, hint, by omega, q H3 (Ex.refl H3)⟩) ea_nil)) (by simp)) fun q H3 nq e3 at3 => ?_
        exact k q H3 (fresh_back (e1.trans e2) nq) ((e1.trans e2).trans e3) at3
def spRunPiece : Sp := fun vs H Q _ => ∃ (run : Str) (p : Pc), vs = [.str run] ∧ p.ok ∧ p.isRun = true ∧ run.cps.toList = p.txt ∧ RetP p H Q
theorem ok_run_piece {f wa : Addr} {fd : FuncData} (F : Fun K "run_piece" "run_piece" s_run_piece f fd) (T : Txt K mg wa) (G_number_piece : Def P w K mg base 1 "number_piece" ["run"] spNumPiece) : FnOk P w K mg base CX0 2 f fd ["run"] spRunPiece := by
  refine F.ok sc_run_piece (fun vs H Q E h => ?_) (fun cdv A outer s H vs Q E hr h => ?_)
  · obtain ⟨run, p, rfl, _⟩ := h
    rfl
  · obtain ⟨run, p, rfl, hok, hrn, hrun, k⟩ := h
    refine ⟨_, pss_cons (ps_if (pt_cmpR op_in_sign (pe_ix ix_str (pv 0) (pe_int) (fun _ _ => rfl)) (pe_gl (by rfl) T.FIGURES) (by rfl))
        (pss_one (ps_ret (pe_def G_number_piece (hr.mono (by decide)) (by rfl) (pa_cons (pv 0) pa_nil))))
        (pss_nil))
      (pss_cons (ps_if (pt_cmpR (opIn (K := K)) (pv 0) (pe_gl (by rfl) T.WORDS) (by rfl))
        (pss_one (ps_ret (pe_tup (pa_cons (pe_str) (pa_cons (pv 0) pa_nil)))))
        (pss_nil))
      (pss_cons (ps_if (pt_cmpR op_gt (pe_callB call_len_str (by rfl) T.len (by decide +kernel) (pa_cons (pv 0) pa_nil)) (pe_gl (by rfl) T.MOST_NAME) (nomark _))
        (pss_one (ps_ret (pe_non)))
        (pss_nil))
      (pss_one (ps_ret (pe_tup (pa_cons (pe_str) (pa_cons (pv 0) pa_nil))))))), ?_⟩
    obtain ⟨c0, r0, hc0⟩ : ∃ c r, run.cps.toList = c :: r := by
      cases hz : run.cps.toList with
      | nil => exact absurd (hrun ▸ hz) (p.txt_ne hok)
      | cons c r => exact ⟨c, r, rfl⟩
    have hlen : run.length ≤ 12 := by
      rw [len_cps, hrun]
      cases p with
      | name s => rw [show (Pc.name s).txt = s.cps.toList from rfl, ← len_cps]; exact hok.2.2.2.1
      | word s => rw [show (Pc.word s).txt = s.cps.toList from rfl, ← len_cps]; exact (words_fact s hok).2.2
      | num n => exact Nat.le_trans (TL.numL_len (k := 9) (by decide) hok) (by decide)
      | text s => cases hrn
      | sign s => cases hrn
    have hix : ∀ H1 : Hp, Ev (tOp rIxS (tVar 0) (tC (V.int 0))) [some (V.str run)] H1 (.str ⟨#[c0]⟩) := fun H1 => ev_op (ev_var rfl) ev_c (sign_at (at_ := 0) (c := c0) (by rw [hc0]; rfl) (by omega))
    have notfig : c0 ∈ LTl → decide (c0 ∈ PC.FIGURES.cps.toList) = false := fun h => decide_eq_false (lt_not_fg c0 h)
    cases p with
    | num n =>
      have hc : c0 ∈ PC.FIGURES.cps.toList := by
        have := TL.numL_digits n c0 (by rw [show TL.numL n = (Pc.num n).txt from rfl, ← hrun, hc0]; exact List.mem_cons_self)
        exact fg_of this.1 this.2
      refine q_when (b := true) (et_test (ev_is (ev_op (hix H) ev_c rv_inSg) (by rw [decide_eq_true hc]))) (fun _ H1 e1 => ?_) (fun q => nomatch q)
      exact s_retA (ea_cons (ev_var rfl) ea_nil) fun H2 e2 => ⟨run, n, rfl, hrun, hok, fun q H3 nq e3 at3 => k q H3 (fresh_back (e1.trans e2) nq) ((e1.trans e2).trans e3) at3⟩
    | word s =>
      have hs : run = s := str_ext hrun
      subst hs
      have hc := (words_fact run hok).2.1 c0 (by rw [hc0]; exact List.mem_cons_self)
      refine q_when (b := false) (et_test (ev_is (ev_op (hix H) ev_c rv_inSg) (by rw [notfig hc]))) (fun q => nomatch q) (fun _ H1 e1 => ?_)
      refine q_when (b := true) (et_test (ev_is (ev_op (ev_var rfl) ev_c (rv_isT (K := K) (T.words H1) rfl (flat_str _))) (by rw [inV_str, decide_eq_true (show run ∈ WDs from hok)]))) (fun _ H2 e2 => ?_) (fun q => nomatch q)
      exact s_retU (eu_tup (ea_cons ev_c (ea_cons (ev_var rfl) ea_nil)) (by simp)) fun q H3 nq e3 at3 => k q H3 (fresh_back (e1.trans e2) nq) ((e1.trans e2).trans e3) at3
    | name s =>
      have hs : run = s := str_ext hrun
      subst hs
      have hc := hok.2.1 c0 (by rw [hc0]; rfl)
      refine q_when (b := false) (et_test (ev_is (ev_op (hix H) ev_c rv_inSg) (by rw [notfig hc]))) (fun q => nomatch q) (fun _ H1 e1 => ?_)
      refine q_when (b := false) (et_test (ev_is (ev_op (ev_var rfl) ev_c (rv_isT (K := K) (T.words H1) rfl (flat_str _))) (by rw [inV_str, decide_eq_false hok.2.2.2.2]))) (fun q => nomatch q) (fun _ H2 e2 => ?_)
      refine q_when (b := false) (et_test (ev_is (ev_op (ev_lenS (by omega) (ev_var rfl)) ev_c rv_I0) (by rw [decide_eq_false (by omega)]))) (fun q => nomatch q) (fun _ H3 e3 => ?_)
      have e13 := e1.trans (e2.trans e3)
      exact s_retU (eu_tup (ea_cons ev_c (ea_cons (ev_var rfl) ea_nil)) (by simp)) fun q H4 nq e4 at4 => k q H4 (fresh_back e13 nq) (e13.trans e4) at4
    | text s => cases hrn
    | sign s => cases hrn
end
end K

set_option Elab.async false
set_option linter.all false
set_option maxRecDepth 100000
namespace K
open PySem L2 Evl EX PC
theorem cutS_nat {z : Str} {a b : Nat} (hab : a ≤ b) (hb : b ≤ z.length) : (cutS z (some (a : Int)) (some (b : Int))).cps.toList = (z.cps.toList.drop a).take (b - a) := by
  unfold cutS
  rw [HT.sIx_nat, HT.sIx_nat, Nat.min_eq_left (show a ≤ z.length by omega), Nat.min_eq_left hb]
theorem ev_slSS {σ : L2.St} {H : Hp} {ta : TE} {z : Str} {a b : Int} {ti to : TO} (hz : z.length ≤ 5000) (h : Ev ta σ H (.str z)) (hi : EvO ti σ H (some a)) (ho : EvO to σ H (some b)) : Ev (tSl rSlS ta ti to) σ H (.str (cutS z (some a) (some b))) := fun H1 e Q q =>
  h H1 e _ fun H2 e2 => hi H2 (e.trans e2) _ fun H3 e3 => ho H3 (e.trans (e2.trans e3)) _ fun H4 e4 => ⟨z, rfl, sz_of (by omega), q H4 (e2.trans (e3.trans e4))⟩
theorem fromIx (n a : Nat) : fromIndex n (a : Int) = a := by
  unfold fromIndex
  rw [if_neg (by omega)]
  omega
theorem sw3 (row : Str) (a : Nat) : Txt.startswith3 row "==" (a : Int) = decide ((row.cps.toList.drop a).take 2 = [61, 61]) := by
  unfold Txt.startswith3 Builtin.Str.subAt
  rw [fromIx]
  have h2 : (Str.ofString "==").length = 2 := by decide +kernel
  have h3 : (Str.ofString "==").cps = #[61, 61] := by decide +kernel
  rw [h2, h3]
  have he : (row.cps.extract a (a + 2)).toList = (row.cps.toList.drop a).take 2 := by
    rw [Array.toList_extract]
    unfold List.extract
    rw [show a + 2 - a = 2 by omega]
  have hl := len_cps row
  by_cases h : (row.cps.toList.drop a).take 2 = [61, 61]
  · rw [decide_eq_true h]
    have h4 : row.cps.extract a (a + 2) = #[61, 61] := Array.toList_inj.mp (by rw [he, h])
    have h5 : a + 2 ≤ row.length := by
      have := congrArg List.length h
      rw [List.length_take, List.length_drop, ← hl] at this
      have e2 : ([61, 61] : List Nat).length = 2 := rfl
      rw [e2] at this
      omega
    rw [h4, decide_eq_true h5]
    rfl
  · rw [decide_eq_false h]
    have h4 : (row.cps.extract a (a + 2) == #[61, 61]) = false := by
      rw [beq_eq_false_iff_ne]
      intro z
      exact h (by rw [← he, z])
    rw [h4, Bool.and_false]
theorem find34 {row : Str} {a : Nat} {s rest : List Nat} (h : row.cps.toList.drop a = 34 :: (s ++ 34 :: rest)) (hs : 34 ∉ s) : Txt.find3 row "\"" ((a : Int) + 1) = ((a + 1 + s.length : Nat) : Int) := by
  have hq : (Str.ofString "\"") = ⟨#[34]⟩ := by decide +kernel
  have hg : ∀ v, row.cps.toList[a + v]? = (34 :: (s ++ 34 :: rest))[v]? := fun v => by rw [← h, List.getElem?_drop]
  have hl := len_cps row
  have hlen : a + 1 + s.length < row.length := by
    have := congrArg List.length h
    rw [List.length_drop, ← hl, List.length_cons, List.length_append, List.length_cons] at this
    omega
  have hD : ∀ v, v < row.length → row.cps.getD v 0 = row.cps.toList.getD v 0 := fun v _ => (PyProof.Rows.getD_list row v).symm
  have h34 : row.cps.getD (a + 1 + s.length) 0 = 34 := by
    rw [hD _ hlen, List.getD_eq_getElem?_getD, show a + 1 + s.length = a + (s.length + 1) by omega, hg]
    simp
  have hno : ∀ v, a + 1 ≤ v → v < a + 1 + s.length → row.cps.getD v 0 ≠ 34 := fun v h1 h2 => by
    rw [hD _ (by omega), List.getD_eq_getElem?_getD, show v = a + ((v - a - 1) + 1) by omega, hg, List.getElem?_cons_succ, List.getElem?_append_left (by omega), List.getElem?_eq_getElem (by omega)]
    intro z
    exact hs (by rw [← z]; exact List.getElem_mem _)
  rw [hq]
  have hf : fromIndex row.length ((a : Int) + 1) = a + 1 := by
    have := fromIx row.length (a + 1)
    rwa [Int.natCast_add] at this
  rcases PySem.StrLaws.find3_spec row 34 ((a : Int) + 1) with ⟨_, h1⟩ | ⟨k, h1, h2, h3, h4, h5⟩
  · rw [hf] at h1
    exact absurd h34 (h1 _ (by omega) hlen)
  · rw [hf] at h2 h5
    rw [h1]
    congr 1
    by_cases hk : k < a + 1 + s.length
    · exact absurd h4 (hno k h2 hk)
    · by_cases hk2 : a + 1 + s.length < k
      · exact absurd h34 (h5 _ (by omega) hk2)
      · omega
theorem et_sw {K : PySem.W.Frag} {σ : L2.St} {H : Hp} {row : Str} {a : Nat} (h0 : σ[0]? = some (some (.str row))) (h1 : σ[1]? = some (some (.int (a : Nat)))) : EvT (tB (tBM K "str" (fun x xs H Q => ∃ (a b : Str) (i : Int), x = .str a ∧ xs = [.str b, .int i] ∧ Q (.bl (Txt.startswith3 a b i)) H) (tVar 0) (tCons (tC (.str "==")) (tCons (tVar 1) tNil)))) σ H (decide ((row.cps.toList.drop a).take 2 = [61, 61])) := fun H5 e5 Q' q' =>
  ⟨_, h0, rfl, _, h1, row, _, _, rfl, rfl, _, rfl, by rw [sw3]; exact q' H5 (Ex.refl H5)⟩
theorem ret_pair {σ : L2.St} {H : Hp} {ti to : TE} {D : Ends} {xs : List V} {n : Nat} (hin : EvU ti σ H xs) (hn : Ev to σ H (.int (n : Nat))) (k : ∀ u q H', H u = none → H q = none → Ex H H' → H' u = some (.tup [.ref q, .int (n : Nat)]) → H' q = some (.tup xs) → D.rt (.ref u) H') : tRet (tTup (tCons ti (tCons to tNil))) D σ H :=
  hin H (Ex.refl H) _ fun q H1 nq e1 at1 => hn H1 e1 _ fun H2 e2 => ⟨by simp [sizeLine], fun u nu => k u q _ (fresh_back (e1.trans e2) nu) nq ((e1.trans e2).trans (Ex.new nu)) upd_same ((e2.trans (Ex.new nu)) _ _ at1)⟩
section
variable {P : Program} {w : World} {K : PySem.W.Frag} {mg : Str → Option Value} {base : Heap}
def RetPA (p : Pc) (n : Nat) (H : Hp) (Q : VK) : Prop := ∀ u q H', H u = none → H q = none → Ex H H' → H' u = some (.tup [.ref q, .int (n : Nat)]) → H' q = some (.tup [.str p.kind, p.val]) → Q (.ref u) H'
def spPieceAt : Sp := fun vs H Q _ => ∃ (row : Str) (a : Nat) (p : Pc) (rest : List Nat), vs = [.str row, .int (a : Nat)] ∧ row.length ≤ 5000 ∧ row.cps.toList.drop a = p.txt ++ rest ∧ p.ok ∧ Bnd p rest ∧ RetPA p (a + p.txt.length) H Q
theorem ok_piece_at {f wa : Addr} {fd : FuncData} (F : Fun K "piece_at" "piece_at" s_piece_at f fd) (T : Txt K mg wa) (G_run_end : Def P w K mg base 1 "run_end" ["row", "at"] spRunEnd) (G_run_piece : Def P w K mg base 2 "run_piece" ["run"] spRunPiece) : FnOk P w K mg base CX0 3 f fd ["row", "at"] spPieceAt := by
  refine F.ok sc_piece_at (fun vs H Q E h => ?_) (fun cdv A outer s H vs Q E hr h => ?_)
  · obtain ⟨row, a, p, rest, rfl, _⟩ := h
    rfl
  · obtain ⟨row, a, p, rest, rfl, hz, hdr, hok, hb, k⟩ := h
    refine ⟨_, pss_cons (ps_set (i := 2) sc_piece_at.nd rfl (Or.inl rfl) (pe_def G_run_end (hr.mono (by decide)) (by rfl) (pa_cons (pv 0) (pa_cons (pv 1) pa_nil))))
      (pss_cons (ps_if (pt_cmpR op_gt (pv 2) (pv 1) (nomark _))
        (pss_one (ps_ret (pe_tup (pa_cons (pe_def G_run_piece (hr.mono (by decide)) (by rfl) (pa_cons (pe_slice sl_str (pv 0) (po_some (pv 1)) (po_some (pv 2))) pa_nil)) (pa_cons (pv 2) pa_nil)))))
        (pss_nil))
      (pss_cons (ps_if (pt_cmpR op_eq (pe_ix ix_str (pv 0) (pv 1) (fun _ _ => rfl)) (pe_str) (nomark _))
        (pss_cons (ps_set (i := 2) sc_piece_at.nd rfl (Or.inl rfl) (peBm (K := K) PySem.F.plainAttrs_str PySem.F.slot_str_find PySem.F.type_str_find mt_find3 (pv 0) (pa_cons (pe_str) (pa_cons (pe_op op_add (pv 1) (pe_int)) pa_nil))))
        (pss_cons (ps_if (PW.pt (pw_or (pt_cmpR op_lt (pv 2) (pe_int) (nomark _)) (pw_or1 (pt_cmpR op_gt (pe_op op_sub (pe_op op_sub (pv 2) (pv 1)) (pe_int)) (pe_gl (by rfl) T.MOST_TEXT) (nomark _)))))
          (pss_one (ps_ret (pe_tup (pa_cons (pe_non) (pa_cons (pv 1) pa_nil)))))
          (pss_nil))
        (pss_one (ps_ret (pe_tup (pa_cons (pe_tup (pa_cons (pe_str) (pa_cons (pe_slice sl_str (pv 0) (po_some (pe_op op_add (pv 1) (pe_int))) (po_some (pv 2))) pa_nil))) (pa_cons (pe_op op_add (pv 2) (pe_int)) pa_nil)))))))
        (pss_nil))
      (pss_cons (ps_if (pt_val (peBm (K := K) PySem.F.plainAttrs_str PySem.F.slot_str_startswith PySem.F.type_str_startswith mt_startswith3 (pv 0) (pa_cons (pe_str) (pa_cons (pv 1) pa_nil))))
        (pss_one (ps_ret (pe_tup (pa_cons (pe_tup (pa_cons (pe_str) (pa_cons (pe_str) pa_nil))) (pa_cons (pe_op op_add (pv 1) (pe_int)) pa_nil)))))
        (pss_nil))
      (pss_cons (ps_if (pt_cmpR op_in_sign (pe_ix ix_str (pv 0) (pv 1) (fun _ _ => rfl)) (pe_gl (by rfl) T.SIGNS) (by rfl))
        (pss_one (ps_ret (pe_tup (pa_cons (pe_tup (pa_cons (pe_str) (pa_cons (pe_ix ix_str (pv 0) (pv 1) (fun _ _ => rfl)) pa_nil))) (pa_cons (pe_op op_add (pv 1) (pe_int)) pa_nil)))))
        (pss_nil))
      (pss_one (ps_ret (pe_tup (pa_cons (pe_non) (pa_cons (pv 1) pa_nil))))))))), ?_⟩
    have hl := len_cps row
    have hne := p.txt_ne hok
    have hlen : a + p.txt.length ≤ row.length := by
      have := congrArg List.length hdr
      rw [List.length_drop, List.length_append] at this
      have : 0 < p.txt.length := List.length_pos_iff.mpr hne
      omega
    have hpos : 0 < p.txt.length := List.length_pos_iff.mpr hne
    have hrl := Pc.run_len hok hb
    rw [← hdr] at hrl
    -- end = run_end(row, at)
    refine q_asg (ev_call (ea_cons (ev_var rfl) (ea_cons (ev_var rfl) ea_nil)) fun H1 e1 Q' q' E' => ⟨row, a, rfl, hz, by omega, fun H2 e2 => q' H2 e2⟩) fun H1 e1 => ?_
    rw [hrl]
    cases hrn : p.isRun with
    | true =>
      rw [if_pos rfl]
      refine q_when (b := true) (et_test (ev_is (ev_op (ev_var rfl) (ev_var rfl) rv_I0) (by rw [decide_eq_true (by omega)]))) (fun _ H2 e2 => ?_) (fun q => nomatch q)
      have hcut : (cutS row (some (a : Int)) (some ((a + p.txt.length : Nat) : Int))).cps.toList = p.txt := by
        rw [cutS_nat (by omega) hlen, hdr, show a + p.txt.length - a = p.txt.length by omega, List.take_left']
        rfl
      refine ret_raw (call_raw (ea_cons (ev_slSS hz (ev_var rfl) (eo_some (ev_var rfl)) (eo_some (ev_var rfl))) ea_nil) fun H3 e3 => ⟨_, p, rfl, hok, hrn, hcut, fun q H4 nq e4 at4 => ⟨_, rfl, by simp [sizeLine], fun u nu => ?_⟩⟩)
      have e13 := e1.trans (e2.trans e3)
      exact k u q _ (fresh_back (e13.trans e4) nu) (fresh_back e13 nq) ((e13.trans e4).trans (Ex.new nu)) upd_same ((Ex.new nu) _ _ at4)
    | false =>
      rw [if_neg (by decide)]
      refine q_when (b := false) (et_test (ev_is (ev_op (ev_var rfl) (ev_var rfl) rv_I0) (by rw [decide_eq_false (by simp)]))) (fun q => nomatch q) (fun _ H2 e2 => ?_)
      have e12 := e1.trans e2
      have h0 : ∀ c r, p.txt = c :: r → row.cps.toList[a]? = some c := fun c r h => by
        have : (row.cps.toList.drop a)[0]? = some c := by rw [hdr, h]; rfl
        rwa [List.getElem?_drop, Nat.add_zero] at this
      cases p with
      | name s => cases hrn
      | word s => cases hrn
      | num n => cases hrn
      | text s =>
        have hc := h0 34 _ rfl
        have hf := find34 (row := row) (a := a) (s := s.cps.toList) (rest := rest) (by rw [hdr]; show 34 :: (s.cps.toList ++ [34]) ++ rest = _; simp) hok.2.1
        have hsl : s.cps.toList.length = s.length := (len_cps s).symm
        have hs40 := hok.1
        have htl : (Pc.text s).txt.length = s.length + 2 := by
          show (34 :: (s.cps.toList ++ [34])).length = _
          simp [hsl]
        rw [hsl] at hf
        rw [htl] at hlen k
        refine q_when (b := true) (et_test (ev_is (ev_op (ev_op (ev_var rfl) (ev_var rfl) (sign_at hc hz)) ev_c (rv_eq rfl)) (by rw [dec_str]; rfl))) (fun _ H3 e3 => ?_) (fun q => nomatch q)
        refine q_asg (v := .int ((a + 1 + s.length : Nat) : Int)) (fun H4 e4 Q' q' => ⟨_, rfl, rfl, _, rfl, _, _, rfl, rfl, row, _, _, rfl, rfl, by rw [hf]; exact q' H4 (Ex.refl H4)⟩) fun H4 e4 => ?_
        refine q_when (b := false) (et_is (et_or (a := false) (b := false) (et_test (ev_is (ev_op (ev_var rfl) ev_c rv_I0) (by rw [decide_eq_false (by omega)]))) fun _ => et_test (ev_is (ev_op (ev_op (ev_op (ev_var rfl) (ev_var rfl) rv_I0) ev_c rv_I0) ev_c rv_I0) (by rw [decide_eq_false (by omega)]))) (by rfl)) (fun q => nomatch q) (fun _ H5 e5 => ?_)
        have e15 := e12.trans (e3.trans (e4.trans e5))
        have hcut : cutS row (some ((a + 1 : Nat) : Int)) (some ((a + 1 + s.length : Nat) : Int)) = s := str_ext (by
          rw [cutS_nat (by omega) (by omega), show a + 1 + s.length - (a + 1) = s.length by omega, ← List.drop_drop, hdr]
          show ((34 :: (s.cps.toList ++ [34]) ++ rest).drop 1).take s.length = _
          rw [← hsl]
          simp)
        refine ret_pair (n := a + (s.length + 2)) (eu_tup (ea_cons ev_c (ea_cons (ev_slSS hz (ev_var rfl) (eo_some (i := ((a + 1 : Nat) : Int)) (ev_is (ev_op (ev_var rfl) ev_c rv_I0) (by congr 1))) (eo_some (ev_var rfl))) ea_nil)) (by simp)) (ev_is (ev_op (ev_var rfl) ev_c rv_I0) (by congr 1; omega)) fun u q H6 nu nq e6 at6 at6' => ?_
        rw [hcut] at at6'
        exact k u q H6 (fresh_back e15 nu) (fresh_back e15 nq) (e15.trans e6) at6 at6'
      | sign s =>
        obtain ⟨c, r, hcr, hrc, h34, h32, hcase⟩ := signs_fact s hok
        have hc := h0 c r hcr
        have hne34 : ((⟨#[c]⟩ : Str) == Str.ofString "\"") = false := by
          rw [beq_eq_false_iff_ne]
          intro z
          have := congrArg (fun s : Str => s.cps.toList) z
          exact h34 (by injection this)
        refine q_when (b := false) (et_test (ev_is (ev_op (ev_op (ev_var rfl) (ev_var rfl) (sign_at hc hz)) ev_c (rv_eq rfl)) (by rw [dec_str, hne34]))) (fun q => nomatch q) (fun _ H3 e3 => ?_)
        have e13 := e12.trans e3
        rcases hcase with ⟨hs, hr1, hc1⟩ | ⟨hr1, hsg, hc1⟩
        · subst hr1 hc1
          have htk : (row.cps.toList.drop a).take 2 = [61, 61] := by
            rw [hdr]
            show (s.cps.toList ++ rest).take 2 = _
            rw [hcr]
            rfl
          have htl : (Pc.sign s).txt.length = 2 := by
            show s.cps.toList.length = 2
            rw [hcr]
            rfl
          rw [htl] at k
          refine q_when (b := true) (et_is (et_sw rfl rfl) (decide_eq_true htk)) (fun _ H4 e4 => ?_) (fun q => nomatch q)
          refine ret_pair (n := a + 2) (eu_tup (ea_cons ev_c (ea_cons ev_c ea_nil)) (by simp)) (ev_is (ev_op (ev_var rfl) ev_c rv_I0) (by congr 1)) fun u q H6 nu nq e6 at6 at6' => ?_
          have e14 := e13.trans e4
          exact k u q H6 (fresh_back e14 nu) (fresh_back e14 nq) (e14.trans e6) at6 (by rw [at6', hs]; rfl)
        · subst hr1
          have hdr' : row.cps.toList.drop a = c :: rest := by
            rw [hdr]
            show s.cps.toList ++ rest = _
            rw [hcr]
            rfl
          have htk : ¬ (row.cps.toList.drop a).take 2 = [61, 61] := fun z => by
            rw [hdr'] at z
            cases rest with
            | nil => simp at z
            | cons d rest' =>
              simp at z
              exact hb.2 (by rw [hc1 z.1]) (by rw [z.2]; rfl)
          have htl : (Pc.sign s).txt.length = 1 := by
            show s.cps.toList.length = 1
            rw [hcr]
            rfl
          rw [htl] at k
          refine q_when (b := false) (et_is (et_sw rfl rfl) (decide_eq_false htk)) (fun q => nomatch q) (fun _ H4 e4 => ?_)
          refine q_when (b := true) (et_test (ev_is (ev_op (ev_op (ev_var rfl) (ev_var rfl) (sign_at hc hz)) ev_c rv_inSg) (by rw [decide_eq_true (show c ∈ PC.SIGNS.cps.toList from hsg)]))) (fun _ H5 e5 => ?_) (fun q => nomatch q)
          refine ret_pair (n := a + 1) (eu_tup (ea_cons ev_c (ea_cons (ev_op (ev_var rfl) (ev_var rfl) (sign_at hc hz)) ea_nil)) (by simp)) (ev_is (ev_op (ev_var rfl) ev_c rv_I0) (by congr 1)) fun u q H6 nu nq e6 at6 at6' => ?_
          have e15 := e13.trans (e4.trans e5)
          have hs : s = ⟨#[c]⟩ := str_ext (by rw [hcr])
          exact k u q H6 (fresh_back e15 nu) (fresh_back e15 nq) (e15.trans e6) at6 (by rw [at6', hs]; rfl)
end
end K

set_option Elab.async false
set_option linter.all false
set_option maxRecDepth 100000
namespace K
open PySem L2 Evl EX PC
theorem asg_raw {σ : L2.St} {H : Hp} {te : TE} {D : Ends} {tz : TS} {g : TG} (h : te σ H fun v H1 => g v σ H1 (tz D)) : tSeq (tAsg te g) tz D σ H := h
theorem lay_nil {ps : List Pc} (h : Lay ps []) : ps = [] := by
  generalize hl : ([] : List Nat) = l at h
  cases h with
  | done => rfl
  | blank h => cases hl
  | piece hok _ _ =>
    have := List.append_eq_nil_iff.mp hl.symm
    exact absurd this.1 (Pc.txt_ne hok)
theorem lstrip_len {row : Str} {b : Nat} {l : List Nat} (h : row.cps.toList = List.replicate b 32 ++ l) (hl : ∀ c, l.head? = some c → c ≠ 32) : (Txt.lstripChars row " ").length + b = row.length := by
  unfold Txt.lstripChars
  rw [PyProof.Rows.stripBy_eq]
  have hlo : stripLo (Str.cps " ").contains true row = b := by
    have hg : ∀ c : Nat, (Str.cps " ").contains c = decide (c = 32) := fun c => by
      have : Str.cps " " = #[32] := by decide +kernel
      rw [this]
      by_cases hc : c = 32
      · subst hc; decide +kernel
      · rw [decide_eq_false hc]
        simp [hc]
    unfold stripLo
    rw [if_pos rfl, h, takeWhile_run (l := List.replicate b 32)]
    · simp
    · intro c hc
      rw [hg, (List.mem_replicate.mp hc).2]
      rfl
    · intro c hc
      rw [hg]
      exact decide_eq_false (hl c hc)
  rw [hlo]
  have hhi : stripHi (Str.cps " ").contains false row b = row.length := rfl
  rw [hhi]
  have hl := congrArg List.length h
  rw [List.length_append, List.length_replicate] at hl
  have hlc := len_cps row
  show (row.cps.extract b row.length).size + b = row.length
  rw [Array.size_extract]
  have : row.cps.size = row.length := rfl
  omega
section
variable {P : Program} {w : World} {K : PySem.W.Frag} {mg : Str → Option Value} {base : Heap}
/-- the tuples of pieces -/
def Tups (H : Hp) (qs : List Addr) (ps : List Pc) : Prop := qs.length = ps.length ∧ ∀ (n : Nat) q p, qs[n]? = some q → ps[n]? = some p → H q = some (.tup [.str p.kind, p.val])
theorem Tups.mono {H H' : Hp} {qs : List Addr} {ps : List Pc} (t : Tups H qs ps) (e : Ex H H') : Tups H' qs ps := ⟨t.1, fun n q p h1 h2 => e _ _ (t.2 n q p h1 h2)⟩
theorem Tups.snoc {H : Hp} {qs : List Addr} {ps : List Pc} {q : Addr} {p : Pc} (t : Tups H qs ps) (h : H q = some (.tup [.str p.kind, p.val])) : Tups H (qs ++ [q]) (ps ++ [p]) := by
  refine ⟨by simp [t.1], fun n q' p' h1 h2 => ?_⟩
  by_cases hn : n < qs.length
  · rw [List.getElem?_append_left hn] at h1
    rw [List.getElem?_append_left (by rw [← t.1]; exact hn)] at h2
    exact t.2 n q' p' h1 h2
  · have hn' : n = qs.length := by
      have := (List.getElem?_eq_some_iff.mp h1).1
      simp at this
      omega
    subst hn'
    rw [List.getElem?_append_right (Nat.le_refl _), Nat.sub_self] at h1
    rw [List.getElem?_append_right (by rw [t.1]; exact Nat.le_refl _), t.1, Nat.sub_self] at h2
    cases h1
    cases h2
    exact h
theorem Tups.upd {H : Hp} {qs : List Addr} {ps : List Pc} {a : Addr} {xs : List V} {o : HO} (t : Tups H qs ps) (h : H a = some (.lst xs)) : Tups (L2.upd H a o) qs ps := ⟨t.1, fun n q p h1 h2 => by
  have := t.2 n q p h1 h2
  rw [upd_ne (ne_of this h (by intro z; cases z))]
  exact this⟩
def spPiecesOf : Sp := fun vs H Q _ => ∃ (row : Str) (b : Nat) (l : List Nat) (ps : List Pc), vs = [.str row] ∧ row.length ≤ 5000 ∧ row.cps.toList = List.replicate b 32 ++ l ∧ (∀ c, l.head? = some c → c ≠ 32) ∧ Lay ps l ∧ ps ≠ [] ∧
  ∀ u pl qs H', H pl = none → Ex H H' → H' u = some (.tup [.int (b : Nat), .ref pl]) → H' pl = some (.lst (qs.map V.ref)) → Tups H' qs ps → Q (.ref u) H'
theorem ok_pieces_of {f wa : Addr} {fd : FuncData} (F : Fun K "pieces_of" "pieces_of" s_pieces_of f fd) (T : Txt K mg wa) (G_piece_at : Def P w K mg base 3 "piece_at" ["row", "at"] spPieceAt) : FnOk P w K mg base CX0 4 f fd ["row"] spPiecesOf := by
  refine F.ok sc_pieces_of (fun vs H Q E h => ?_) (fun cdv A outer s H vs Q E hr h => ?_)
  · obtain ⟨row, b, l, ps, rfl, _⟩ := h
    rfl
  · obtain ⟨row, b, l, ps, rfl, hz, hrow, hhd, hlay, hne, k⟩ := h
    refine ⟨_, pss_cons (ps_set (i := 1) sc_pieces_of.nd rfl (Or.inl rfl) (pe_op op_sub (pe_callB call_len_str (by rfl) T.len (by decide +kernel) (pa_cons (pv 0) pa_nil)) (pe_callB call_len_str (by rfl) T.len (by decide +kernel) (pa_cons (peBm (K := K) PySem.F.plainAttrs_str PySem.F.slot_str_lstrip PySem.F.type_str_lstrip mt_lstripChars (pv 0) (pa_cons (pe_str) pa_nil)) pa_nil))))
      (pss_cons (ps_set (i := 2) sc_pieces_of.nd rfl (Or.inl rfl) (pe_lst (pa_nil)))
      (pss_cons (ps_set (i := 3) sc_pieces_of.nd rfl (Or.inl rfl) (pv 1))
      (pss_cons (ps_while PassesOwn.never (pt_cmpR op_lt (pv 3) (pe_callB call_len_str (by rfl) T.len (by decide +kernel) (pa_cons (pv 0) pa_nil)) (nomark _))
        (pss_one (ps_if (pt_cmpR op_eq (pe_ix ix_str (pv 0) (pv 3) (fun _ _ => rfl)) (pe_str) (nomark _))
          (pss_one (ps_aug (i := 3) sc_pieces_of.nd rfl (Or.inl rfl) (pe_int) ip_add))
          (pss_cons (ps_asg (pe_def G_piece_at (hr.mono (by decide)) (by rfl) (pa_cons (pv 0) (pa_cons (pv 3) pa_nil))) (pg_tup rfl (pgs_cons (pg_name (i := 4) sc_pieces_of.nd rfl (Or.inl rfl)) (pgs_cons (pg_name (i := 3) sc_pieces_of.nd rfl (Or.inl rfl)) pgs_nil))))
          (pss_cons (ps_if (pt_cmpR op_isN (pv 4) (pe_non) (nomark _))
            (pss_one (ps_never))
            (pss_nil))
          (pss_one (ps_expr (peBm (K := K) PySem.F.plainAttrs_list PySem.F.slot_list_append PySem.F.type_list_append mt_append (pv 2) (pa_cons (pv 4) pa_nil)))))))))
      (pss_cons (ps_if (pt_cmpR op_eq (pe_callB (clLen (K := K)) (by rfl) T.len (by decide +kernel) (pa_cons (pv 2) pa_nil)) (pe_int) (nomark _))
        (pss_one (ps_never))
        (pss_nil))
      (pss_one (ps_ret (pe_tup (pa_cons (pv 1) (pa_cons (pv 2) pa_nil))))))))), ?_⟩
    have hl := len_cps row
    have hls := lstrip_len hrow hhd
    -- blanks
    refine q_asg (v := .int (b : Nat)) (ev_is (ev_op (ev_lenS (by omega) (ev_var rfl)) (ev_lenS (z := Txt.lstripChars row " ") (by omega) (fun H1 e1 Q' q' => ⟨_, rfl, rfl, row, _, rfl, rfl, sz_of (by omega), q' H1 (Ex.refl H1)⟩)) rv_I0) (by congr 1; omega)) fun H1 e1 => ?_
    refine q_asgL el_nil fun pl H2 npl e2 atp => ?_
    have nplH : H pl = none := fresh_back e1 npl
    refine q_asg (ev_var rfl) fun H3 e3 => ?_
    refine q_while (fun m σ H' => ∃ (a : Nat) (done rem : List Pc) (qs : List Addr) (v4 : Option V), σ = [some (.str row), some (.int (b : Nat)), some (.ref pl), some (.int (a : Nat)), v4] ∧ Ex H H' ∧ a ≤ row.length ∧ m = row.length - a ∧ Lay rem (row.cps.toList.drop a) ∧ ps = done ++ rem ∧ done.length ≤ a ∧ H' pl = some (.lst (qs.map V.ref)) ∧ Tups H' qs done) (row.length - b) ?_ ?_
    · refine ⟨b, [], ps, [], _, rfl, e1.trans (e2.trans e3), by omega, rfl, ?_, rfl, Nat.zero_le _, e3 _ _ atp, rfl, fun n q p h => by simp at h⟩
      rw [hrow, List.drop_left' (by simp)]
      exact hlay
    · clear atp e1 e2 e3 npl H1 H2 H3
      rintro m σ H1 ⟨a, done, rem, qs, v4, rfl, e1, ha, rfl, hL, hps, hda, atp, htup⟩
      refine ⟨decide (a < row.length), et_test (ev_is (ev_op (ev_var rfl) (ev_lenS (by omega) (ev_var rfl)) rv_I0) (by congr 1; simp)), fun hb H2 e2 => ⟨_, fun σ2 H2 h => h, ?_⟩, fun hb H2 e2 => ?_⟩
      · have hlt : a < row.length := of_decide_eq_true hb
        have hdr1 : row.cps.toList.drop (a + 1) = (row.cps.toList.drop a).tail := by rw [List.tail_drop]
        have hget : ∀ c r, row.cps.toList.drop a = c :: r → row.cps.toList[a]? = some c := fun c r h => by
          have : (row.cps.toList.drop a)[0]? = some c := by rw [h]; rfl
          rwa [List.getElem?_drop, Nat.add_zero] at this
        generalize hld : row.cps.toList.drop a = ld at hL hdr1 hget
        have hqz : qs.length ≤ 5000 := by have := htup.1; omega
        cases hL with
        | done =>
          have := congrArg List.length hld
          rw [List.length_drop, ← hl, List.length_nil] at this
          omega
        | @blank _ l' hL' =>
          have hc := hget 32 l' rfl
          refine s_if (b := true) (et_test (ev_is (ev_op (ev_op (ev_var rfl) (ev_var rfl) (sign_at hc hz)) ev_c (rv_eq rfl)) (by rw [dec_str]; rfl))) (fun _ H3 e3 => ?_) (fun q => nomatch q)
          refine s_aug (f := fun i j => i + j) rfl ev_c fun H4 e4 => ?_
          have e24 := e2.trans (e3.trans e4)
          exact ⟨row.length - (a + 1), by omega, a + 1, done, rem, qs, _, rfl, e1.trans e24, by omega, rfl, by rw [hdr1]; exact hL', hps, by omega, e24 _ _ atp, htup.mono e24⟩
        | @piece p ps' rest hok hbn hL' =>
          obtain ⟨c, r, hcr, hc32⟩ := p.no_blank hok
          have hc := hget c (r ++ rest) (by rw [hcr]; rfl)
          have hne32 : ((⟨#[c]⟩ : Str) == Str.ofString " ") = false := by
            rw [beq_eq_false_iff_ne]
            intro z
            have := congrArg (fun s : Str => s.cps.toList) z
            exact hc32 (by injection this)
          refine s_if (b := false) (et_test (ev_is (ev_op (ev_op (ev_var rfl) (ev_var rfl) (sign_at hc hz)) ev_c (rv_eq rfl)) (by rw [dec_str, hne32]))) (fun q => nomatch q) (fun _ H3 e3 => ?_)
          have htl : a + p.txt.length ≤ row.length ∧ 0 < p.txt.length := by
            have h1 := congrArg List.length hld
            rw [List.length_drop, List.length_append] at h1
            have : 0 < p.txt.length := List.length_pos_iff.mpr (p.txt_ne hok)
            omega
          refine asg_raw (call_raw (ea_cons (ev_var rfl) (ea_cons (ev_var rfl) ea_nil)) fun H4 e4 => ⟨row, a, p, rest, rfl, hz, hld, hok, hbn, fun u q H5 nu nq e5 atu atq => ?_⟩)
          refine ⟨u, _, rfl, st_of atu, rfl, _, _, rfl, _, _, rfl, rfl, ?_⟩
          have e15 := e2.trans (e3.trans (e4.trans e5))
          show tSeq _ _ _ _ _
          refine q_when (b := false) (et_test (ev_op (ev_var rfl) ev_c (rv_isN (x := .ref q)))) (fun q => nomatch q) (fun _ H6 e6 => ?_)
          refine s_app (K := K) ((e15.trans e6) _ _ atp) (ev_var rfl) (ev_var rfl) (by rw [List.length_map]; omega) fun H7 e7 => ?_
          have e17 := e15.trans (e6.trans e7)
          refine ⟨row.length - (a + p.txt.length), by omega, a + p.txt.length, done ++ [p], ps', qs ++ [q], _, rfl, Ex.mut (e1.trans e17) nplH, by omega, rfl, ?_, by rw [hps]; simp, by simp; omega, ?_, Tups.upd ((htup.mono e17).snoc ((e6.trans e7) _ _ atq)) (e17 _ _ atp)⟩
          · rw [← List.drop_drop, hld, List.drop_left']
            · exact hL'
            · rfl
          · rw [upd_same, List.map_append]
            rfl
      · have hge : ¬ a < row.length := of_decide_eq_false hb
        rw [List.drop_of_length_le (by omega)] at hL
        have hrem := lay_nil hL
        subst hrem
        rw [List.append_nil] at hps
        subst hps
        have hqs : qs ≠ [] := fun z => by
          have := htup.1
          rw [z] at this
          exact hne (List.length_eq_zero_iff.mp this.symm)
        have hpos : 0 < qs.length := List.length_pos_iff.mpr hqs
        refine q_when (b := false) (et_test (ev_is (ev_op (ev_len (K := K) (ev_var rfl) (sq_of (e2 _ _ atp))) ev_c (rv_eq rfl)) ?_)) (fun q => nomatch q) (fun _ H3 e3 => ?_)
        · rw [List.length_map, dec_int]
          congr 1
          rw [beq_eq_false_iff_ne]
          omega
        · refine s_retU (eu_tup (ea_cons (ev_var rfl) (ea_cons (ev_var rfl) ea_nil)) (by simp)) fun u H4 nu e4 at4 => ?_
          have e14 := e2.trans (e3.trans e4)
          exact k u pl qs H4 nplH (e1.trans e14) at4 (e14 _ _ atp) (htup.mono e14)
end
end K

set_option Elab.async false
set_option linter.all false
set_option maxRecDepth 100000
namespace EX
open PySem L2 Evl
theorem dr_int {tp : Addr} {σ : L2.St} {B : Hp} {te : TE} {n : Int} (N : Int) (h0 : 0 < n) (h1 : n ≤ N) (h : Ev te σ B (.int n)) : Dr tp te σ B (fun v => ∃ n : Int, v = .int n ∧ 0 < n ∧ n ≤ N) := (dr_ev h).imp fun v hv => ⟨n, hv, h0, h1⟩
theorem tap_ne {H : Hp} {tp p : Addr} (t : Tap H tp) (h : H p = none) : p ≠ tp := by
  obtain ⟨a, b, c, d, e⟩ := t
  exact fun z => by rw [z, e] at h; cases h
theorem tap_upd {H : Hp} {tp p : Addr} {o : HO} (t : Tap H tp) (h : p ≠ tp) : Tap (upd H p o) tp := by
  obtain ⟨a, b, c, d, e⟩ := t
  exact ⟨a, b, c, d, by rw [upd_ne (Ne.symm h)]; exact e⟩
theorem s_asgD {tp : Addr} {σ : L2.St} {H : Hp} {te : TE} {P : V → Prop} {D : Ends} {i : Nat} (ht : Tap H tp) (h : Dr tp te σ (hide tp H) P) (k : ∀ v H1, Ex (hide tp H) H1 → Tap H1 tp → P v → D.nx (σ.set i (some v)) H1) : tAsg te (gName i) D σ H :=
  h H hide_ex ht _ fun v H1 e t p => k v H1 e t p
theorem s_retD {tp : Addr} {σ : L2.St} {H : Hp} {te : TE} {P : V → Prop} {D : Ends} (ht : Tap H tp) (h : Dr tp te σ (hide tp H) P) (k : ∀ v H1, Ex (hide tp H) H1 → Tap H1 tp → P v → D.rt v H1) : tRet te D σ H :=
  h H hide_ex ht _ fun v H1 e t p => k v H1 e t p
end EX
namespace K
open PySem L2 Evl EX PC
section
variable {P : Program} {w : World} {K : PySem.W.Frag} {mg : Str → Option Value} {base : Heap}
def spMixed : Sp := fun vs H Q _ => ∃ (n k : Int), vs = [.int n, .int k] ∧ ∀ r : Int, 0 ≤ r → r < 2147483629 → RetV (.int r) H Q
theorem ok_mixed {f : Addr} {fd : FuncData} (F : Fun K "_law_mixed" "_law_mixed" s__law_mixed f fd) : FnOk P w K mg base CX0 1 f fd ["_law_number_here", "_law_k"] spMixed := by
  refine F.ok sc__law_mixed (fun vs H Q E h => ?_) (fun cdv A outer s H vs Q E hr h => ?_)
  · obtain ⟨n, k, rfl, _⟩ := h
    rfl
  · obtain ⟨n, k, rfl, q⟩ := h
    refine ⟨_, pss_cons (ps_set (i := 2) sc__law_mixed.nd rfl (Or.inl rfl) (pe_op op_mod (pe_op op_mul (pe_op op_add (pe_op op_add (pe_op op_mod (pv 0) (pe_int)) (pe_op op_mul (pe_int) (pv 1))) (pe_int)) (pe_int)) (pe_int)))
      (pss_cons (ps_set (i := 3) sc__law_mixed.nd rfl (Or.inl rfl) (pe_op op_mod (pe_op op_mul (pv 2) (pe_op op_add (pe_op op_add (pe_op op_mod (pv 2) (pe_int)) (pv 1)) (pe_int))) (pe_int)))
      (pss_one (ps_ret (pe_op op_mod (pe_op op_add (pe_op op_mul (pv 3) (pe_int)) (pv 2)) (pe_int))))), ?_⟩
    refine q_asg (ev_op (ev_op (ev_op (ev_op (ev_op (ev_var rfl) ev_c (rv_I (by decide))) (ev_op ev_c (ev_var rfl) (rv_I (.inl (by decide)))) rv_I0) ev_c rv_I0) ev_c (rv_I (.inr (by decide)))) ev_c (rv_I (by decide))) fun H1 e1 => ?_
    generalize ho : ((n % 1000000007 + 7 * k + 1) * 48271) % 2147483647 = once
    have h0 : 0 ≤ once := by rw [← ho]; exact Int.emod_nonneg _ (by decide)
    have h1 : once < 2147483647 := by rw [← ho]; exact Int.emod_lt_of_pos _ (by decide)
    refine q_asg (ev_op (ev_op (ev_var rfl) (ev_op (ev_op (ev_op (ev_var rfl) ev_c (rv_I (by decide))) (ev_var rfl) rv_I0) ev_c rv_I0) (rv_I (.inl ⟨by omega, by omega⟩))) ev_c (rv_I (by decide))) fun H2 e2 => ?_
    refine s_ret (ev_op (ev_op (ev_op (ev_var rfl) ev_c (rv_I (.inr (by decide)))) (ev_var rfl) rv_I0) ev_c (rv_I (by decide))) fun H3 e3 => ?_
    exact q _ (Int.emod_nonneg _ (by decide)) (Int.emod_lt_of_pos _ (by decide)) H3 (e1.trans (e2.trans e3))
def spTap : Sp := fun vs H Q _ => ∃ c : Int, vs = [.int c] ∧ ∀ p H', H p = none → Ex H H' → Tap H' p → Q (.ref p) H'
theorem ok_tap {f wa : Addr} {fd : FuncData} (F : Fun K "_law_tap" "_law_tap" s__law_tap f fd) (T : Txt K mg wa) : FnOk P w K mg base CX0 1 f fd ["_law_cell"] spTap := by
  refine F.ok sc__law_tap (fun vs H Q E h => ?_) (fun cdv A outer s H vs Q E hr h => ?_)
  · obtain ⟨n, rfl, _⟩ := h
    rfl
  · obtain ⟨c, rfl, q⟩ := h
    refine ⟨_, pss_one (ps_ret (pe_lst (pa_cons (pv 0) (pa_cons (pe_callTy call_int1 (by rfl) T.int (by decide +kernel) (pa_cons (pe_cmpR op_lt (pv 0) (pe_op op_pow (pe_int) (pe_int)) (nomark _)) pa_nil)) (pa_cons (pe_int) (pa_cons (pv 0) pa_nil)))))), ?_⟩
    refine s_retL (xs := [.int c, .int (if decide (c < 10 ^ 18) = true then 1 else 0), .int 0, .int c]) (el_lst ?_ (by simp)) fun p H1 np e1 h1 => q p H1 np e1 ⟨_, _, _, _, h1⟩
    refine ea_cons (ev_var rfl) (ea_cons ?_ (ea_cons ev_c (ea_cons (ev_var rfl) ea_nil)))
    exact ev_cb (ea_cons (ev_op (x := .int c) (y := .int (10 ^ 18)) (ev_var rfl) (ev_op (x := .int 10) (y := .int 18) ev_c ev_c (rv_I ⟨by decide, by decide, by decide⟩)) rv_I0) ea_nil) fun H1 _ Q q => .inr ⟨_, rfl, q H1 (Ex.refl H1)⟩
theorem ok_draw {f : Addr} {fd : FuncData} (F : Fun K "_law_next" "_law_next" s__law_next f fd) (G__law_mixed : Def P w K mg base 1 "_law_mixed" ["_law_number_here", "_law_k"] spMixed) : FnOk P w K mg base CX0 2 f fd ["_law_tap_here", "_law_size"] spDraw := by
  refine F.ok sc__law_next (fun vs H Q E h => ?_) (fun cdv A outer s H vs Q E hr h => ?_)
  · obtain ⟨tp, n, rfl, _⟩ := h
    rfl
  · obtain ⟨tp, n, rfl, ⟨a, b, c, d, hT⟩, h0, h1, q⟩ := h
    refine ⟨_, pss_cons (ps_asg (pe_op op_add (pe_ix (ixL (K := K)) (pv 0) (pe_int) (fun _ _ => rfl)) (pe_int)) (pg_sub (pv 0) (pe_int) set_list))
      (pss_cons (ps_if (PW.pt (pw_or (pt_cmpR op_eq (pe_ix (ixL (K := K)) (pv 0) (pe_int) (fun _ _ => rfl)) (pe_int) (nomark _)) (pw_or1 (pt_cmpR op_eq (pe_ix (ixL (K := K)) (pv 0) (pe_int) (fun _ _ => rfl)) (pe_int) (nomark _)))))
        (pss_one (ps_ret (pe_op op_mod (pe_def G__law_mixed (hr.mono (by decide)) (by rfl) (pa_cons (pe_ix (ixL (K := K)) (pv 0) (pe_int) (fun _ _ => rfl)) (pa_cons (pe_op op_add (pe_int) (pe_ix (ixL (K := K)) (pv 0) (pe_int) (fun _ _ => rfl))) pa_nil))) (pv 1))))
        (pss_nil))
      (pss_cons (ps_set (i := 2) sc__law_next.nd rfl (Or.inl rfl) (pe_op op_mod (pe_ix (ixL (K := K)) (pv 0) (pe_int) (fun _ _ => rfl)) (pv 1)))
      (pss_cons (ps_asg (pe_op op_fdiv (pe_ix (ixL (K := K)) (pv 0) (pe_int) (fun _ _ => rfl)) (pv 1)) (pg_sub (pv 0) (pe_int) set_list))
      (pss_one (ps_ret (pv 2)))))), ?_⟩
    refine q_setL (j := 2) hT (ev_op (ev_op (ev_var rfl) ev_c (rv_ixL (K := K) (sq_of hT) (atI_nat (j := 2) rfl))) ev_c rv_I0) (ev_var rfl) ev_c (by simp) fun H1 e1 => ?_
    have hT1 : upd H1 tp (.lst [V.int a, .int b, .int (c + 1), .int d]) tp = some (.lst [V.int a, .int b, .int (c + 1), .int d]) := upd_same
    have ex1 : Ex (hide tp H) (upd H1 tp (.lst [V.int a, .int b, .int (c + 1), .int d])) := Ex.mut (hide_ex.trans e1) hide_at
    show tSeq _ _ _ _ (upd H1 tp (.lst [V.int a, .int b, .int (c + 1), .int d]))
    generalize upd H1 tp (.lst [V.int a, .int b, .int (c + 1), .int d]) = H2 at hT1 ex1
    refine q_when (et_or (et_test (ev_op (ev_op (ev_var rfl) ev_c (rv_ixL (K := K) (sq_of hT1) (atI_nat (j := 1) rfl))) ev_c (rv_eq rfl))) (fun _ => et_test (ev_op (ev_op (ev_var rfl) ev_c (rv_ixL (K := K) (sq_of hT1) (atI_nat (j := 0) rfl))) ev_c (rv_eq rfl)))) (fun _ H3 e3 => ?_) (fun _ H3 e3 => ?_)
    · have hT3 := e3 _ _ hT1
      refine s_retN (P := fun v => ∃ r : Int, v = .int r ∧ 0 ≤ r ∧ r < n) (en_op (P1 := fun v => ∃ r : Int, v = .int r) (en_call (ea_cons (ev_op (ev_var rfl) ev_c (rv_ixL (K := K) (sq_of hT3) (atI_nat (j := 3) rfl))) (ea_cons (ev_op ev_c (ev_op (ev_var rfl) ev_c (rv_ixL (K := K) (sq_of hT3) (atI_nat (j := 2) rfl))) rv_I0) ea_nil)) ?_) (en_ev (ev_var rfl)) ?_) ?_
      · exact fun H4 e4 Q' q' E' => ⟨d, _, rfl, fun r r0 r1 H5 e5 => q' _ H5 e5 ⟨r, rfl⟩⟩
      · rintro x y ⟨r, rfl⟩ rfl
        exact ⟨_, ⟨r % n, rfl, Int.emod_nonneg _ (by omega), Int.emod_lt_of_pos _ h0⟩, rv_I h0⟩
      · rintro v H4 e4 ⟨r, rfl, r0, r1⟩
        exact q _ H4 r0 r1 (ex1.trans (e3.trans e4)) ⟨_, _, _, _, e4 _ _ hT3⟩
    · refine q_asg (ev_op (ev_op (ev_var rfl) ev_c (rv_ixL (K := K) (sq_of (e3 _ _ hT1)) (atI_nat (j := 0) rfl))) (ev_var rfl) (rv_I h0)) fun H4 e4 => ?_
      have hT4 := (e3.trans e4) _ _ hT1
      refine q_setL (j := 0) hT4 (ev_op (ev_op (ev_var rfl) ev_c (rv_ixL (K := K) (sq_of hT4) (atI_nat (j := 0) rfl))) (ev_var rfl) (rv_I ⟨h0, h1⟩)) (ev_var rfl) ev_c (by simp) fun H5 e5 => ?_
      refine s_ret (ev_var rfl) fun H6 e6 => ?_
      refine q _ H6 (Int.emod_nonneg _ (by omega)) (Int.emod_lt_of_pos _ h0) ?_ ⟨a / n, b, c + 1, d, e6 _ _ upd_same⟩
      exact (Ex.mut (ex1.trans (e3.trans (e4.trans e5))) hide_at).trans e6
/-- the words, a new list -/
def spKept : Sp := fun vs H Q _ => vs = [] ∧ RetL (PC.WDs.map V.str) H Q
theorem split_kept : Txt.split (Str.ofString "say ask if else while for in break next deed kind give hand try except as finally raise from outer" ++ Str.ofString " let go pass sweep yes no none and or not super pull size") (Str.ofString " ") = PC.WDs := by decide +kernel
theorem ok_kept {f wa : Addr} {fd : FuncData} (F : Fun K "_law_kept" "_law_kept" s__law_kept f fd) (T : Txt K mg wa) : FnOk P w K mg base CX0 1 f fd [] spKept := by
  refine F.ok sc__law_kept (fun vs H Q E h => ?_) (fun cdv A outer s H vs Q E hr h => ?_)
  · obtain ⟨rfl, _⟩ := h
    rfl
  · obtain ⟨rfl, q⟩ := h
    refine ⟨_, pss_cons (ps_set (i := 0) sc__law_kept.nd rfl (Or.inl rfl) (pe_str))
      (pss_one (ps_ret (pe_split (pe_op op_add_str (pv 0) (pe_str)) (pe_str)))), ?_⟩
    refine q_asg ev_c fun H1 e1 => ?_
    refine ret_raw ?_
    refine ev_op (ev_var rfl) ev_c (rv_addS (by decide +kernel)) H1 (Ex.refl H1) _ fun H2 e2 => ⟨⟨_, rfl⟩, _, _, rfl, rfl, by decide +kernel, sz_of (by decide +kernel), ?_⟩
    rw [split_kept]
    exact fun p np => q p _ (fresh_back (e1.trans e2) np) ((e1.trans e2).trans (Ex.new np)) upd_same
/-- a number below 10 ** 9 -/
def spNumber : Sp := fun vs H Q _ => ∃ tp : Addr, vs = [.ref tp] ∧ Tap H tp ∧ ∀ (n : Nat) H', n < 10 ^ 9 → Ex (hide tp H) H' → Tap H' tp → Q (.int (n : Nat)) H'
theorem ok_number {f wa : Addr} {fd : FuncData} (F : Fun K "_law_number" "_law_number" s__law_number f fd) (T : Txt K mg wa) (G__law_next : Def P w K mg base 2 "_law_next" ["_law_tap_here", "_law_size"] spDraw) : FnOk P w K mg base CX0 3 f fd ["_law_tap_here"] spNumber := by
  refine F.ok sc__law_number (fun vs H Q E h => ?_) (fun cdv A outer s H vs Q E hr h => ?_)
  · obtain ⟨tp, rfl, _⟩ := h
    rfl
  · obtain ⟨tp, rfl, hT, k⟩ := h
    refine ⟨_, pss_cons (ps_set (i := 1) sc__law_number.nd rfl (Or.inl rfl) (pe_def G__law_next (hr.mono (by decide)) (by rfl) (pa_cons (pv 0) (pa_cons (pe_int) pa_nil))))
      (pss_cons (ps_if (pt_cmpR op_eq (pv 1) (pe_int) (nomark _))
        (pss_one (ps_ret (pe_def G__law_next (hr.mono (by decide)) (by rfl) (pa_cons (pv 0) (pa_cons (pe_op op_pow (pe_int) (pe_int)) pa_nil)))))
        (pss_nil))
      (pss_one (ps_ret (pe_ix (ixL (K := K)) (pe_lst (pa_cons (pe_int) (pa_cons (pe_int) (pa_cons (pe_int) (pa_cons (pe_int) pa_nil))))) (pv 1) (fun _ _ => rfl))))), ?_⟩
    refine q_asgD (tp := tp) (P := fun v => ∃ r : Nat, r < 5 ∧ v = .int (r : Int)) hT ((dr_draw 5 (by decide) rfl hide_at (dr_c.imp fun v hv => ⟨5, hv, by decide, by decide⟩)).imp fun v ⟨r, hv, r0, r1⟩ => ⟨r.toNat, by omega, by rw [hv]; congr 1; omega⟩) ?_
    rintro v H1 e1 t1 ⟨r, hr5, rfl⟩
    refine q_when (b := decide (r = 4)) (et_test (ev_is (ev_op (ev_var rfl) ev_c (rv_eq rfl)) (by
      congr 1
      apply decide_eq_decide.mpr
      exact ⟨fun z => by injection z with z; omega, fun z => by rw [z]; rfl⟩))) (fun hb H2 e2 => ?_) (fun hb H2 e2 => ?_)
    · refine s_retD (tp := tp) (P := fun v => ∃ r : Int, v = .int r ∧ 0 ≤ r ∧ r < 10 ^ 9) (t1.mono e2) (dr_draw (10 ^ 9) (by decide) rfl hide_at (dr_int (n := 10 ^ 9) _ (by decide) (Int.le_refl _) (ev_op ev_c ev_c (rv_I ⟨by decide, by decide, by decide⟩)))) ?_
      rintro v H3 e3 t3 ⟨n, rfl, n0, n1⟩
      have := k n.toNat H3 (by omega) ((ex_hide (e1.trans e2) hide_at).trans e3) t3
      rwa [Int.toNat_of_nonneg n0] at this
    · have hr4 : ¬ r = 4 := of_decide_eq_false hb
      have hlt : r = 0 ∨ r = 1 ∨ r = 2 ∨ r = 3 := by omega
      have e12 := e1.trans e2
      rcases hlt with rfl | rfl | rfl | rfl
      · exact s_ret (v := .int ((0 : Nat) : Int)) (ev_opL1 (el_lst (ea_cons ev_c (ea_cons ev_c (ea_cons ev_c (ea_cons ev_c ea_nil)))) (by simp)) (fun H3 _ => ev_var rfl) fun p H3 hp e3 => ixAt (K := K) (j := 0) hp rfl rfl) fun H3 e3 => k 0 H3 (by decide) (e12.trans e3) (t1.mono (e2.trans e3))
      · exact s_ret (v := .int ((1 : Nat) : Int)) (ev_opL1 (el_lst (ea_cons ev_c (ea_cons ev_c (ea_cons ev_c (ea_cons ev_c ea_nil)))) (by simp)) (fun H3 _ => ev_var rfl) fun p H3 hp e3 => ixAt (K := K) (j := 1) hp rfl rfl) fun H3 e3 => k 1 H3 (by decide) (e12.trans e3) (t1.mono (e2.trans e3))
      · exact s_ret (v := .int ((7 : Nat) : Int)) (ev_opL1 (el_lst (ea_cons ev_c (ea_cons ev_c (ea_cons ev_c (ea_cons ev_c ea_nil)))) (by simp)) (fun H3 _ => ev_var rfl) fun p H3 hp e3 => ixAt (K := K) (j := 2) hp rfl rfl) fun H3 e3 => k 7 H3 (by decide) (e12.trans e3) (t1.mono (e2.trans e3))
      · exact s_ret (v := .int ((999999999 : Nat) : Int)) (ev_opL1 (el_lst (ea_cons ev_c (ea_cons ev_c (ea_cons ev_c (ea_cons ev_c ea_nil)))) (by simp)) (fun H3 _ => ev_var rfl) fun p H3 hp e3 => ixAt (K := K) (j := 3) hp rfl rfl) fun H3 e3 => k 999999999 H3 (by decide) (e12.trans e3) (t1.mono (e2.trans e3))
end
end K

set_option Elab.async false
set_option linter.all false
set_option maxRecDepth 100000
namespace K
open PySem L2 Evl EX PC
/-- a word of letters and figures that begins with a letter -/
def Wd (x : Str) : Prop := x.cps.toList ≠ [] ∧ (∀ c, x.cps.toList.head? = some c → c ∈ LTl) ∧ ∀ c ∈ x.cps.toList, rc c = true
theorem kept_s : ∀ s ∈ WDs, (s ++ Str.ofString "s" : Str) ∉ WDs ∧ s.length ≤ 10 := by decide +kernel
theorem lt_at (m : Nat) (h : m < 52) : ∃ c, PC.LETTERS.cps.toList[m]? = some c ∧ c ∈ LTl := by
  have hl : m < PC.LETTERS.cps.toList.length := h
  exact ⟨_, List.getElem?_eq_getElem hl, List.getElem_mem hl⟩
theorem lf_at (m : Nat) (h : m < 62) : ∃ c, (PC.LETTERS ++ Str.ofString "0123456789" : Str).cps.toList[m]? = some c ∧ rc c = true := by
  have key : ∀ c ∈ (PC.LETTERS ++ Str.ofString "0123456789" : Str).cps.toList, rc c = true := by decide +kernel
  have hl : m < (PC.LETTERS ++ Str.ofString "0123456789" : Str).cps.toList.length := h
  exact ⟨_, List.getElem?_eq_getElem hl, key _ (List.getElem_mem hl)⟩
theorem rc_lt {c : Nat} (h : c ∈ LTl) : rc c = true := by
  unfold rc
  rw [decide_eq_true h]
  rfl
theorem Wd.add {x : Str} {c : Nat} (h : Wd x) (hc : rc c = true) : Wd (x ++ ⟨#[c]⟩) := by
  have e : (x ++ ⟨#[c]⟩ : Str).cps.toList = x.cps.toList ++ [c] := by rw [PyProof.Rows.cps_toList_append]
  obtain ⟨a, b, d⟩ := h
  refine ⟨by rw [e]; simp, fun y hy => ?_, fun y hy => ?_⟩
  · rw [e] at hy
    cases hx : x.cps.toList with
    | nil => exact absurd hx a
    | cons z r =>
      rw [hx] at hy b
      exact b y hy
  · rw [e] at hy
    rcases List.mem_append.mp hy with q | q
    · exact d y q
    · rw [List.mem_singleton.mp q]
      exact hc
theorem firsts_ok : ∀ s ∈ (["a", "b", "ab", "K", "x1", "self"] : List String).map Str.ofString, s.cps.toList ≠ [] ∧ s.cps.toList.headD 0 ∈ LTl ∧ (∀ c ∈ s.cps.toList, rc c = true) ∧ s.length ≤ 12 ∧ s ∉ WDs := by decide +kernel
theorem name_of {x : Str} (h : Wd x) (hl : x.length ≤ 12) (hw : x ∉ WDs) : (Pc.name x).ok := ⟨h.1, h.2.1, h.2.2, hl, hw⟩
theorem wd_word {s : Str} (h : s ∈ WDs) : Wd s := by
  obtain ⟨a, b, _⟩ := words_fact s h
  exact ⟨a, fun c hc => b c (List.mem_of_mem_head? hc), fun c hc => rc_lt (b c hc)⟩
section
variable {P : Program} {w : World} {K : PySem.W.Frag} {mg : Str → Option Value} {base : Heap}
theorem el_kept {σ : L2.St} {H : Hp} : EvL (tCall spKept [] E0 tNil) σ H (WDs.map V.str) := el_call ea_nil fun H1 e1 Q q E => ⟨rfl, fun p H2 np e2 h2 => q p H2 np e2 h2⟩
def spName : Sp := fun vs H Q _ => ∃ tp : Addr, vs = [.ref tp] ∧ Tap H tp ∧ ∀ (s : Str) H', (Pc.name s).ok → Ex (hide tp H) H' → Tap H' tp → Q (.str s) H'
theorem ok_name {f wa : Addr} {fd : FuncData} (F : Fun K "_law_name" "_law_name" s__law_name f fd) (T : Txt K mg wa) (G__law_next : Def P w K mg base 2 "_law_next" ["_law_tap_here", "_law_size"] spDraw) (G__law_kept : Def P w K mg base 1 "_law_kept" [] spKept) : FnOk P w K mg base CX0 3 f fd ["_law_tap_here"] spName := by
  refine F.ok sc__law_name (fun vs H Q E h => ?_) (fun cdv A outer s H vs Q E hr h => ?_)
  · obtain ⟨tp, rfl, _⟩ := h
    rfl
  · obtain ⟨tp, rfl, hT, k⟩ := h
    have hu := hu_of hr
    refine ⟨_, pss_cons (ps_set (i := 1) sc__law_name.nd rfl (Or.inl rfl) (pe_str))
      (pss_cons (ps_set (i := 2) sc__law_name.nd rfl (Or.inl rfl) (pe_def G__law_next (hr.mono (by decide)) (by rfl) (pa_cons (pv 0) (pa_cons (pe_int) pa_nil))))
      (pss_cons (ps_if (pt_cmpR op_lt (pv 2) (pe_int) (nomark _))
        (pss_one (ps_ret (pe_ix (ixL (K := K)) (pe_lst (pa_cons (pe_str) (pa_cons (pe_str) (pa_cons (pe_str) (pa_cons (pe_str) (pa_cons (pe_str) (pa_cons (pe_str) pa_nil))))))) (pe_def G__law_next (hr.mono (by decide)) (by rfl) (pa_cons (pv 0) (pa_cons (pe_int) pa_nil))) (fun _ _ => rfl))))
        (pss_nil))
      (pss_cons (ps_set (i := 3) sc__law_name.nd rfl (Or.inl rfl) (pe_ix ix_str (pv 1) (pe_def G__law_next (hr.mono (by decide)) (by rfl) (pa_cons (pv 0) (pa_cons (pe_int) pa_nil))) (fun _ _ => rfl)))
      (pss_cut (ps_if (pt_cmpR op_eq (pv 2) (pe_int) (nomark _))
        (pss_one (ps_set (i := 3) sc__law_name.nd rfl (Or.inl rfl) (pe_ix (ixL (K := K)) (pe_def0 G__law_kept (hr.mono (by decide)) (by rfl)) (pe_def G__law_next (hr.mono (by decide)) (by rfl) (pa_cons (pv 0) (pa_cons (pe_int) pa_nil))) (fun _ _ => rfl))))
        (pss_nil))
      (pss_cons (ps_for PassesOwn.never rfl (pi_range1 (by rfl) T.range (pa_cons (pe_def G__law_next (hr.mono (by decide)) (by rfl) (pa_cons (pv 0) (pa_cons (pe_ix (ixL (K := K)) (pe_lst (pa_cons (pe_int) (pa_cons (pe_int) (pa_cons (pe_int) pa_nil)))) (pe_op op_mod (pv 2) (pe_int)) (fun _ _ => rfl)) pa_nil))) pa_nil)) (pg_name (i := 4) sc__law_name.nd rfl (Or.inl rfl))
        (pss_one (ps_set (i := 3) sc__law_name.nd rfl (Or.inl rfl) (pe_op op_add_str (pv 3) (pe_ix ix_str (pe_op op_add_str (pv 1) (pe_str)) (pe_def G__law_next (hr.mono (by decide)) (by rfl) (pa_cons (pv 0) (pa_cons (pe_int) pa_nil))) (fun _ _ => rfl))))))
      (pss_cons (ps_set (i := 3) sc__law_name.nd rfl (Or.inl rfl) (pe_slice sl_str (pv 3) po_none (po_some (pe_int))))
      (pss_cut (ps_if (pt_cmpR (opIn (K := K)) (pv 3) (pe_def0 G__law_kept (hr.mono (by decide)) (by rfl)) (by rfl))
        (pss_one (ps_set (i := 3) sc__law_name.nd rfl (Or.inl rfl) (pe_op op_add_str (pv 3) (pe_str))))
        (pss_nil))
      (pss_one (ps_ret (pv 3)))))))))), ?_⟩
    refine q_asg ev_c fun H1 e1 => ?_
    refine q_asgD (tp := tp) (P := fun v => ∃ r : Nat, r < 8 ∧ v = .int (r : Int)) (hT.mono e1) ((dr_draw 8 (by decide) rfl hide_at (dr_c.imp fun v hv => ⟨8, hv, by decide, by decide⟩)).imp fun v ⟨r, hv, r0, r1⟩ => ⟨r.toNat, by omega, by rw [hv]; congr 1; omega⟩) ?_
    rintro v H2 e2 t2 ⟨way, hw8, rfl⟩
    have e02 : Ex (hide tp H) H2 := (hide_mono e1).trans e2
    refine q_when (b := decide (way < 3)) (et_test (ev_is (ev_op (ev_var rfl) ev_c rv_I0) (by congr 1; simp; omega))) (fun _ H3 e3 => ?_) (fun _ H3 e3 => ?_)
    · refine s_retD (tp := tp) (P := fun v => ∃ s, v = .str s ∧ s ∈ (["a", "b", "ab", "K", "x1", "self"] : List String).map Str.ofString) (t2.mono e3) (dr_opL (xs := ((["a", "b", "ab", "K", "x1", "self"] : List String).map Str.ofString).map V.str) (P2 := fun v => ∃ r : Int, v = .int r ∧ 0 ≤ r ∧ r < 6) hide_at (el_lst (ea_cons ev_c (ea_cons ev_c (ea_cons ev_c (ea_cons ev_c (ea_cons ev_c (ea_cons ev_c ea_nil)))))) (by simp)) (fun B' _ nB' => dr_draw 6 (by decide) rfl nB' (dr_c.imp fun v hv => ⟨6, hv, by decide, by decide⟩)) ?_) ?_
      · rintro p y B' _ hp ⟨r, rfl, r0, r1⟩
        have hrl : r.toNat < ((["a", "b", "ab", "K", "x1", "self"] : List String).map Str.ofString).length := by simp; omega
        exact ⟨_, ⟨_, rfl, List.getElem_mem hrl⟩, ixAt (K := K) (j := r.toNat) hp (by omega) (by rw [List.getElem?_map, List.getElem?_eq_getElem hrl]; rfl)⟩
      · rintro v H4 e4 t4 ⟨s, rfl, hs⟩
        obtain ⟨a, b, c, d, e⟩ := firsts_ok s hs
        refine k s H4 ⟨a, fun y hy => ?_, c, d, e⟩ ((ex_hide (e02.trans e3) hide_at).trans e4) t4
        cases hl : s.cps.toList with
        | nil => exact absurd hl a
        | cons z r =>
          rw [hl] at hy b
          cases hy
          exact b
    · have e03 := e02.trans e3
      -- word = letters[..]
      refine q_asgD (tp := tp) (P := fun v => ∃ x, v = .str x ∧ Wd x ∧ x.length ≤ 12) (t2.mono e3) (dr_op (dr_var rfl) (dr_draw 52 (by decide) rfl hide_at (dr_c.imp fun v hv => ⟨52, hv, by decide, by decide⟩)) ?_) ?_
      · rintro x y rfl ⟨r, rfl, r0, r1⟩
        obtain ⟨c, hc, hm⟩ := lt_at r.toNat (by omega)
        exact ⟨_, ⟨_, rfl, ⟨by simp, fun d hd => by cases hd; exact hm, fun d hd => by rw [List.mem_singleton.mp hd]; exact rc_lt hm⟩, by show 1 ≤ 12; decide⟩, ixS (j := r.toNat) (by decide +kernel) (by omega) hc⟩
      rintro v H4 e4 t4 ⟨x, rfl, hx, hxl⟩
      have e04 := (ex_hide e03 hide_at).trans e4
      -- if way == 3
      refine q_cut (M := fun σ' H' => ∃ x v4, σ' = [some (.ref tp), some (.str PC.LETTERS), some (.int (way : Nat)), some (.str x), v4] ∧ Wd x ∧ x.length ≤ 12 ∧ Tap H' tp ∧ Ex (hide tp H) H') (s_when (et_test (ev_op (ev_var rfl) ev_c (rv_eq rfl))) (fun _ H5 e5 => ?_) fun _ H5 e5 => ⟨x, _, rfl, hx, hxl, t4.mono e5, e04.trans e5⟩) ?_
      · refine s_asgD (tp := tp) (P := fun v => ∃ x, v = .str x ∧ x ∈ WDs) (t4.mono e5) (dr_opL (P2 := fun v => ∃ r : Int, v = .int r ∧ 0 ≤ r ∧ r < 33) hide_at el_kept (fun B' _ nB' => dr_draw 33 (by decide) rfl nB' (dr_c.imp fun v hv => ⟨33, hv, by decide, by decide⟩)) ?_) ?_
        · rintro p y B' _ hp ⟨r, rfl, r0, r1⟩
          have hrl : r.toNat < WDs.length := by
            have : WDs.length = 33 := by decide +kernel
            omega
          exact ⟨_, ⟨_, rfl, List.getElem_mem hrl⟩, ixAt (K := K) (j := r.toNat) hp (by omega) (by rw [List.getElem?_map, List.getElem?_eq_getElem hrl]; rfl)⟩
        · rintro v H6 e6 t6 ⟨y, rfl, hy⟩
          exact ⟨y, _, rfl, wd_word hy, (words_fact y hy).2.2, t6, (ex_hide (e04.trans e5) hide_at).trans e6⟩
      clear hx hxl x e04 t4 e4
      rintro _ H4 ⟨x, v4, rfl, hx, hxl, t4, e04⟩
      -- for k in range(..)
      refine q_forD (tp := tp) 12 (by decide) t4 (dr_draw 12 (by decide) rfl hide_at (dr_opL (xs := [.int 3, .int 6, .int 12]) (P2 := fun v => v = .int ((way % 3 : Nat) : Int)) hide_at (el_lst (ea_cons ev_c (ea_cons ev_c (ea_cons ev_c ea_nil))) (by simp)) (fun B' _ nB' => dr_ev (ev_is (ev_op (ev_var rfl) ev_c (rv_I (by decide))) (by congr 1))) ?_)) (fun i σ' H' => ∃ x v4, σ' = [some (.ref tp), some (.str PC.LETTERS), some (.int (way : Nat)), some (.str x), v4] ∧ Wd x ∧ x.length ≤ 12 + i ∧ Tap H' tp ∧ Ex (hide tp H) H') ?_ ?_ ?_
      · rintro p y B' _ hp rfl
        have h3 : way % 3 = 0 ∨ way % 3 = 1 ∨ way % 3 = 2 := by omega
        rcases h3 with h | h | h
        · exact ⟨_, ⟨3, rfl, by decide, by decide⟩, ixAt (K := K) (j := 0) hp (by rw [h]) rfl⟩
        · exact ⟨_, ⟨6, rfl, by decide, by decide⟩, ixAt (K := K) (j := 1) hp (by rw [h]) rfl⟩
        · exact ⟨_, ⟨12, rfl, by decide, by decide⟩, ixAt (K := K) (j := 2) hp (by rw [h]) rfl⟩
      · exact fun H5 e5 t5 => ⟨x, _, rfl, hx, by omega, t5, (ex_hide e04 hide_at).trans e5⟩
      · rintro i σ' H5 hi ⟨x, v4', rfl, hx, hxl, t5, e05⟩
        refine s_asgD (tp := tp) (P := fun v => ∃ y, v = .str y ∧ Wd y ∧ y.length ≤ 12 + (i + 1)) t5 (dr_op (P2 := fun v => ∃ c, v = .str ⟨#[c]⟩ ∧ rc c = true) (dr_var rfl) (dr_op (dr_ev (ev_op (ev_var rfl) ev_c (rv_addS (by decide +kernel)))) (dr_draw 62 (by decide) rfl hide_at (dr_c.imp fun v hv => ⟨62, hv, by decide, by decide⟩)) ?_) ?_) ?_
        · rintro u y rfl ⟨r, rfl, r0, r1⟩
          obtain ⟨c, hc, hm⟩ := lf_at r.toNat (by omega)
          exact ⟨_, ⟨c, rfl, hm⟩, ixS (j := r.toNat) (by decide +kernel) (by omega) hc⟩
        · rintro u y rfl ⟨c, rfl, hm⟩
          have h1 : (⟨#[c]⟩ : Str).length = 1 := rfl
          exact ⟨_, ⟨_, rfl, hx.add hm, by rw [Str.length_append]; omega⟩, rv_addS (by omega)⟩
        · rintro v H6 e6 t6 ⟨y, rfl, hy, hyl⟩
          exact ⟨y, _, rfl, hy, hyl, t6, (ex_hide e05 hide_at).trans e6⟩
      · rintro i σ' H5 hi ⟨x, v4', rfl, hx, hxl, t5, e05⟩
        -- word = word[:12]
        refine q_asg (ev_slS (k := 12) (by omega) (ev_var rfl) (eo_some ev_c)) fun H6 e6 => ?_
        have hy : Wd ⟨(x.cps.toList.take 12).toArray⟩ ∧ (⟨(x.cps.toList.take 12).toArray⟩ : Str).length ≤ 12 := by
          refine ⟨⟨?_, fun c hc => ?_, fun c hc => hx.2.2 c (List.mem_of_mem_take hc)⟩, ?_⟩
          · show x.cps.toList.take 12 ≠ []
            cases hl : x.cps.toList with
            | nil => exact absurd hl hx.1
            | cons a r => simp
          · have hc' : (x.cps.toList.take 12).head? = some c := hc
            cases hl : x.cps.toList with
            | nil => exact absurd hl hx.1
            | cons a r =>
              rw [hl] at hc'
              exact hx.2.1 c (by rw [hl]; simpa using hc')
          · rw [len_cps]
            show (x.cps.toList.take 12).length ≤ 12
            exact List.length_take_le _ _
        generalize (⟨(x.cps.toList.take 12).toArray⟩ : Str) = y at hy
        -- if word in kept(): word = word + 's'
        refine q_cut (M := fun σ' H' => ∃ y v4, σ' = [some (.ref tp), some (.str PC.LETTERS), some (.int (way : Nat)), some (.str y), v4] ∧ (Pc.name y).ok ∧ Tap H' tp ∧ Ex (hide tp H) H') (s_when (b := decide (y ∈ WDs)) (et_test (ev_is (ev_opL (ev_var rfl) el_kept fun p H7 hp e7 => rv_isL (K := K) (sq_of hp) rfl (flat_str _)) (by rw [inV_str]))) (fun hb H7 e7 => ?_) fun hb H7 e7 => ⟨y, _, rfl, name_of hy.1 hy.2 (of_decide_eq_false hb), t5.mono (e6.trans e7), e05.trans (e6.trans e7)⟩) ?_
        · obtain ⟨h1, h2⟩ := kept_s y (of_decide_eq_true hb)
          have h3 : (Str.ofString "s").length = 1 := by decide +kernel
          have h4 : (Str.ofString "s") = ⟨#[115]⟩ := by decide +kernel
          refine s_asg (ev_op (ev_var rfl) ev_c (rv_addS (by omega))) fun H8 e8 => ?_
          have e58 := e6.trans (e7.trans e8)
          refine ⟨_, _, rfl, name_of ?_ (by rw [Str.length_append]; omega) h1, t5.mono e58, e05.trans e58⟩
          rw [h4]
          exact hy.1.add (by decide +kernel)
        · rintro _ H7 ⟨y, v4, rfl, hok, t7, e07⟩
          exact s_ret (ev_var rfl) fun H8 e8 => k y H8 hok (e07.trans e8) (t7.mono e8)
end
end K

set_option Elab.async false
set_option linter.all false
set_option maxRecDepth 100000
namespace EX
open PySem L2 Evl
theorem callStrAny {X : Cx} : CallR X (.type "str") (fun xs H Q => (∃ i : Int, xs = [.int i] ∧ i.natAbs.log2 < 1920 ∧ Q (.str (toString i)) H) ∨ ∃ a, xs = [.str a] ∧ Q (.str a) H) := fun pins s σ H xs us Q I r h =>
  h.elim (fun h => call_str_int pins s σ H xs us Q I r h) (fun h => SkE.call_str_str pins s σ H xs us Q I r h)
end EX
namespace K
open PySem L2 Evl EX PC
section
variable {P : Program} {w : World} {K : PySem.W.Frag} {mg : Str → Option Value} {base : Heap}
def spPieceText (K : PySem.W.Frag) : Sp := fun vs H Q _ => ∃ (q : Addr) (p : Pc), vs = [.ref q] ∧ SqT K H q [.str p.kind, p.val] ∧ p.ok ∧ RetV (.str ⟨p.txt.toArray⟩) H Q
theorem num_log {n : Nat} (h : n < 10 ^ 9) : (((n : Nat) : Int)).natAbs.log2 < 1920 := by
  rw [Int.natAbs_natCast]
  by_cases h0 : n = 0
  · subst h0; decide
  · have h1 := Nat.log2_lt (k := 1920) h0
    rw [h1]
    exact Nat.lt_of_lt_of_le h (Nat.le_trans (show 10 ^ 9 ≤ 2 ^ 100 by decide) (Nat.pow_le_pow_right (by decide) (by decide)))
theorem ok_piece_text {f wa : Addr} {fd : FuncData} (F : Fun K "_law_piece_text" "_law_piece_text" s__law_piece_text f fd) (T : Txt K mg wa) : FnOk P w K mg base CX0 1 f fd ["_law_piece_here"] (spPieceText K) := by
  refine F.ok sc__law_piece_text (fun vs H Q E h => ?_) (fun cdv A outer s H vs Q E hr h => ?_)
  · obtain ⟨q, p, rfl, _⟩ := h
    rfl
  · obtain ⟨q, p, rfl, hq, hok, k⟩ := h
    refine ⟨_, pss_cons (ps_if (pt_cmpR op_eq (pe_ix (ixT (K := K)) (pv 0) (pe_int) (fun _ _ => rfl)) (pe_str) (nomark _))
        (pss_one (ps_ret (pe_op op_add_str (pe_op op_add_str (pe_str) (pe_ix (ixT (K := K)) (pv 0) (pe_int) (fun _ _ => rfl))) (pe_str))))
        (pss_nil))
      (pss_one (ps_ret (pe_callTy callStrAny (by rfl) T.str (by decide +kernel) (pa_cons (pe_ix (ixT (K := K)) (pv 0) (pe_int) (fun _ _ => rfl)) pa_nil)))), ?_⟩
    have i0 : ∀ H1, Ex H H1 → RV (rIxT K) (.ref q) (.int 0) H1 (.str p.kind) := fun H1 e1 => rv_ixT (K := K) (ex_t e1 hq) (atI_nat (j := 0) rfl)
    have i1 : ∀ H1, Ex H H1 → RV (rIxT K) (.ref q) (.int 1) H1 p.val := fun H1 e1 => rv_ixT (K := K) (ex_t e1 hq) (atI_nat (j := 1) rfl)
    have plain : ∀ (s : Str) H1, Ex H H1 → p.val = .str s → p.txt = s.cps.toList → tRet (tCB (fun xs H Q => (∃ i : Int, xs = [.int i] ∧ i.natAbs.log2 < 1920 ∧ Q (.str (toString i)) H) ∨ ∃ a, xs = [.str a] ∧ Q (.str a) H) (tCons (tOp (rIxT K) (tVar 0) (tC (V.int 1))) tNil)) { nx := fun x H' => Q V.non H', rt := Q } [some (.ref q)] H1 := fun s H1 e1 hv ht => by
      refine s_ret (v := .str s) (ev_cb (ea_cons (ev_op (ev_var rfl) ev_c (by rw [← hv]; exact i1 H1 e1)) ea_nil) fun H2 _ Q' q' => .inr ⟨s, rfl, q' H2 (Ex.refl H2)⟩) fun H2 e2 => ?_
      have := k H2 (e1.trans e2)
      rwa [ht, show (⟨s.cps.toList.toArray⟩ : Str) = s from str_ext rfl] at this
    cases p with
    | text s =>
      refine q_when (b := true) (et_test (ev_is (ev_op (ev_op (ev_var rfl) ev_c (i0 H (Ex.refl H))) ev_c (rv_eq rfl)) (by rw [dec_str]; rfl))) (fun _ H1 e1 => ?_) (fun q => nomatch q)
      have hsl := hok.1
      have h1 : (Str.ofString "\"").length = 1 := by decide +kernel
      refine s_ret (ev_op (ev_op ev_c (ev_op (ev_var rfl) ev_c (i1 H1 e1)) (rv_addS (by omega))) ev_c (rv_addS (by rw [Str.length_append]; omega))) fun H2 e2 => ?_
      have := k H2 (e1.trans e2)
      rwa [show (⟨(Pc.text s).txt.toArray⟩ : Str) = Str.ofString "\"" ++ s ++ Str.ofString "\"" from str_ext (by
        rw [PyProof.Rows.cps_toList_append, PyProof.Rows.cps_toList_append]
        rfl)] at this
    | name s =>
      refine q_when (b := false) (et_test (ev_is (ev_op (ev_op (ev_var rfl) ev_c (i0 H (Ex.refl H))) ev_c (rv_eq rfl)) (by rw [dec_str]; rfl))) (fun q => nomatch q) (fun _ H1 e1 => plain s H1 e1 rfl rfl)
    | word s =>
      refine q_when (b := false) (et_test (ev_is (ev_op (ev_op (ev_var rfl) ev_c (i0 H (Ex.refl H))) ev_c (rv_eq rfl)) (by rw [dec_str]; rfl))) (fun q => nomatch q) (fun _ H1 e1 => plain s H1 e1 rfl rfl)
    | sign s =>
      refine q_when (b := false) (et_test (ev_is (ev_op (ev_op (ev_var rfl) ev_c (i0 H (Ex.refl H))) ev_c (rv_eq rfl)) (by rw [dec_str]; rfl))) (fun q => nomatch q) (fun _ H1 e1 => plain s H1 e1 rfl rfl)
    | num n =>
      refine q_when (b := false) (et_test (ev_is (ev_op (ev_op (ev_var rfl) ev_c (i0 H (Ex.refl H))) ev_c (rv_eq rfl)) (by rw [dec_str]; rfl))) (fun q => nomatch q) (fun _ H1 e1 => ?_)
      refine s_ret (v := .str (Str.ofString (toString ((n : Nat) : Int)))) (ev_cb (ea_cons (ev_op (ev_var rfl) ev_c (i1 H1 e1)) ea_nil) fun H2 _ Q' q' => .inl ⟨(n : Int), rfl, num_log hok, q' H2 (Ex.refl H2)⟩) fun H2 e2 => ?_
      have := k H2 (e1.trans e2)
      rwa [show (⟨(Pc.num n).txt.toArray⟩ : Str) = Str.ofString (toString ((n : Nat) : Int)) from str_ext (TL.tl_num n).symm] at this
end
end K

set_option Elab.async false
set_option linter.all false
set_option maxRecDepth 100000
namespace EX
open PySem L2 Evl
/-- [.. for k in range(a draw)], each element a draw -/
theorem dr_lcR {tp : Addr} {σ : L2.St} {B : Hp} {ta te : TE} {j : Nat} {vs : List Nat} {Pe : V → Prop} (N : Int) (hN : N ≤ 1000) (nB : B tp = none) (h : Dr tp ta σ B (fun v => ∃ r : Int, v = .int r ∧ 0 ≤ r ∧ r < N)) (hw : ∀ x, wipe ((wipe σ vs).set j (some x)) vs = wipe σ vs)
    (he : ∀ (i : Nat) (B' : Hp), Ex B B' → B' tp = none → Dr tp te ((wipe σ vs).set j (some (.int (i : Int)))) B' Pe) {H1 : Hp} (e1 : Ex B H1) (t1 : Tap H1 tp) {Q : VK} (k : ∀ p xs H2, Ex B H2 → Tap H2 tp → p ≠ tp → H2 p = some (.lst xs) → (xs.length : Int) < N → (∀ x ∈ xs, Pe x) → Q (.ref p) H2) :
    tLc (iRng1 (tCons ta tNil)) (gName j) tYes te vs σ H1 Q :=
  h H1 e1 t1 _ fun v H2 e2 t2 ⟨n, hv, n0, n1⟩ => by
    subst hv
    refine ⟨n, rfl, by omega, by omega, fun Dl nD => ?_⟩
    have hDt : Dl ≠ tp := by
      obtain ⟨a, b, c, d, ht⟩ := t2
      exact fun z => by rw [z, ht] at nD; cases nD
    have nDB : B Dl = none := fresh_back e2 nD
    refine lc_range (lo := 0) (n := n.toNat) (fun i H' => ∃ xs : List V, xs.length = i ∧ Ex B H' ∧ Tap H' tp ∧ H' Dl = some (.lst xs) ∧ ∀ x ∈ xs, Pe x) ?_ (fun i H' hi p => ?_) fun H' p => ?_
    · exact ⟨[], rfl, e2.trans (Ex.new nD), t2.mono (Ex.new nD), upd_same, fun x hx => nomatch hx⟩
    · obtain ⟨xs, hxl, e3, t3, at3, hP⟩ := p
      have e0 : (0 : Int) + (i : Int) = (i : Int) := Int.zero_add _
      show wipe ((wipe σ vs).set j (some (.int ((0 : Int) + (i : Int))))) vs = wipe σ vs ∧ tYes ((wipe σ vs).set j (some (.int ((0 : Int) + (i : Int))))) H' _
      rw [e0]
      refine ⟨hw _, yes_raw ?_⟩
      refine he i (hide tp H') (ex_hide e3 nB) hide_at H' hide_ex t3 _ fun y H4 e4 t4 py => ?_
      have at4 := e4 _ _ (hide_get at3 hDt)
      refine ⟨xs, at4, sz_lt (by omega), xs ++ [y], by simp [hxl], Ex.mut ((ex_hide e3 nB).trans e4) nDB, ?_, by rw [upd_same], fun x hx => ?_⟩
      · obtain ⟨a, b, c, d, ht⟩ := t4
        exact ⟨a, b, c, d, by rw [upd_ne (Ne.symm hDt)]; exact ht⟩
      · rcases List.mem_append.mp hx with q | q
        · exact hP x q
        · rw [List.mem_singleton.mp q]
          exact py
    · obtain ⟨xs, hxl, e3, t3, at3, hP⟩ := p
      exact k Dl xs H' e3 t3 hDt at3 (by omega) hP
end EX
namespace K
open PySem L2 Evl EX PC
theorem joinL_nil : ∀ ps : List (List Nat), TL.joinL [] ps = ps.flatten
  | [] => rfl
  | [p] => by simp [TL.joinL]
  | p :: q :: r => by
    show p ++ ([] ++ TL.joinL [] (q :: r)) = _
    rw [joinL_nil (q :: r)]
    rfl
theorem join_cps (ys : List Str) : (Txt.join (Str.ofString "") ys).cps.toList = (ys.map fun y => y.cps.toList).flatten := by
  rw [TL.join_eq]
  have := TL.tl_join (Str.ofString "") ys
  rw [show TL.tl (Str.ofString "") = [] by decide +kernel, joinL_nil] at this
  exact this
abbrev signT : Str := Str.ofString " !#$&'()*+,-./0123456789:;<=>?@ABCDEFGHIJKLMNOPQRSTUVWXYZ[]^_" ++ Str.ofString "abcdefghijklmnopqrstuvwxyz{|}~"
section
variable {P : Program} {w : World} {K : PySem.W.Frag} {mg : Str → Option Value} {base : Heap}
def spSigns : Sp := fun vs H Q _ => vs = [] ∧ RetV (.str signT) H Q
theorem ok_signs {f wa : Addr} {fd : FuncData} (F : Fun K "_law_signs" "_law_signs" s__law_signs f fd) (T : Txt K mg wa) : FnOk P w K mg base CX0 1 f fd [] spSigns := by
  refine F.ok sc__law_signs (fun vs H Q E h => ?_) (fun cdv A outer s H vs Q E hr h => ?_)
  · obtain ⟨rfl, _⟩ := h
    rfl
  · obtain ⟨rfl, q⟩ := h
    refine ⟨_, pss_cons (ps_set (i := 0) sc__law_signs.nd rfl (Or.inl rfl) (pe_str))
      (pss_one (ps_ret (pe_op op_add_str (pv 0) (pe_str)))), ?_⟩
    refine q_asg ev_c fun H1 e1 => ?_
    exact s_ret (ev_op (ev_var rfl) ev_c (rv_addS (by decide +kernel))) fun H2 e2 => q H2 (e1.trans e2)
end
end K

set_option Elab.async false
set_option linter.all false
set_option maxRecDepth 100000
namespace K
open PySem L2 Evl EX PC
theorem sign_ok (m : Nat) (h : m < 91) : ∃ c, signT.cps.toList[m]? = some c ∧ c < 128 ∧ c ≠ 34 := by
  have key : ∀ c ∈ signT.cps.toList, c < 128 ∧ c ≠ 34 := by decide +kernel
  have hl : m < signT.cps.toList.length := by
    have : signT.cps.toList.length = 91 := by decide +kernel
    omega
  exact ⟨_, List.getElem?_eq_getElem hl, key _ (List.getElem_mem hl)⟩
def textsL : List Str := (["", "a", "if", "a = b", "==", "deed f():", "0"] : List String).map Str.ofString ++ [⟨(List.replicate 40 101).toArray⟩]
theorem texts_ok : ∀ s ∈ textsL, s.length ≤ 40 ∧ 34 ∉ s.cps.toList ∧ ∀ c ∈ s.cps.toList, c < 128 := by decide +kernel
section
variable {P : Program} {w : World} {K : PySem.W.Frag} {mg : Str → Option Value} {base : Heap}
def spWordsText : Sp := fun vs H Q _ => ∃ tp : Addr, vs = [.ref tp] ∧ Tap H tp ∧ ∀ (s : Str) H', (Pc.text s).ok → Ex (hide tp H) H' → Tap H' tp → Q (.str s) H'
theorem ok_words_text {f wa : Addr} {fd : FuncData} (F : Fun K "_law_words_text" "_law_words_text" s__law_words_text f fd) (T : Txt K mg wa) (G__law_next : Def P w K mg base 2 "_law_next" ["_law_tap_here", "_law_size"] spDraw) (G__law_signs : Def P w K mg base 1 "_law_signs" [] spSigns) : FnOk P w K mg base CX0 3 f fd ["_law_tap_here"] spWordsText := by
  refine F.ok sc__law_words_text (fun vs H Q E h => ?_) (fun cdv A outer s H vs Q E hr h => ?_)
  · obtain ⟨tp, rfl, _⟩ := h
    rfl
  · obtain ⟨tp, rfl, hT, k⟩ := h
    refine ⟨_, pss_cons (ps_set (i := 1) sc__law_words_text.nd rfl (Or.inl rfl) (pe_def G__law_next (hr.mono (by decide)) (by rfl) (pa_cons (pv 0) (pa_cons (pe_int) pa_nil))))
      (pss_cons (ps_if (pt_cmpR op_eq (pv 1) (pe_int) (nomark _))
        (pss_one (ps_ret (pe_ix (ixL (K := K)) (pe_lst (pa_cons (pe_str) (pa_cons (pe_str) (pa_cons (pe_str) (pa_cons (pe_str) (pa_cons (pe_str) (pa_cons (pe_str) (pa_cons (pe_str) (pa_cons (pe_op op_mulS (pe_str) (pe_int)) pa_nil))))))))) (pe_def G__law_next (hr.mono (by decide)) (by rfl) (pa_cons (pv 0) (pa_cons (pe_int) pa_nil))) (fun _ _ => rfl))))
        (pss_nil))
      (pss_one (ps_ret (pe_join (pe_str) (pe_lc (own := [("_law_k", 2)]) (g := gName 2) (tt := tYes) rfl sc__law_words_text.nd (pi_range1 (by rfl) T.range (pa_cons (pe_def G__law_next (hr.mono (by decide)) (by rfl) (pa_cons (pv 0) (pa_cons (pe_ix (ixL (K := K)) (pe_lst (pa_cons (pe_int) (pa_cons (pe_int) (pa_cons (pe_int) pa_nil)))) (pe_op op_sub (pv 1) (pe_int)) (fun _ _ => rfl)) pa_nil))) pa_nil)) (blkOk_by (N := N__law_words_text) (sc := defScope s__law_words_text) (by decide +kernel)) (fun _ _ _ _ _ => pg_name (i := 2) sc__law_words_text.nd rfl (Or.inl rfl)) (fun _ _ _ _ _ => pts_nil) (fun _ _ _ _ _ => pe_ix ix_str (pe_def0 G__law_signs (hr.mono (by decide)) (by rfl)) (pe_def G__law_next (hr.mono (by decide)) (by rfl) (pa_cons (pv 0) (pa_cons (pe_int) pa_nil))) (fun _ _ => rfl))))))), ?_⟩
    refine q_asgD (tp := tp) (P := fun v => ∃ r : Nat, r < 4 ∧ v = .int (r : Int)) hT ((dr_draw 4 (by decide) rfl hide_at (dr_c.imp fun v hv => ⟨4, hv, by decide, by decide⟩)).imp fun v ⟨r, hv, r0, r1⟩ => ⟨r.toNat, by omega, by rw [hv]; congr 1; omega⟩) ?_
    rintro v H2 e2 t2 ⟨way, hw4, rfl⟩
    refine q_when (b := decide (way = 0)) (et_test (ev_is (ev_op (ev_var rfl) ev_c (rv_eq rfl)) (by
      congr 1
      apply decide_eq_decide.mpr
      exact ⟨fun z => by injection z with z; omega, fun z => by rw [z]; rfl⟩))) (fun hb H3 e3 => ?_) (fun hb H3 e3 => ?_)
    · refine s_retD (tp := tp) (P := fun v => ∃ s, v = .str s ∧ s ∈ textsL) (t2.mono e3) (dr_opL (xs := textsL.map V.str) (P2 := fun v => ∃ r : Int, v = .int r ∧ 0 ≤ r ∧ r < 8) hide_at (el_lst (ea_cons ev_c (ea_cons ev_c (ea_cons ev_c (ea_cons ev_c (ea_cons ev_c (ea_cons ev_c (ea_cons ev_c (ea_cons (ev_op ev_c ev_c (rv_mulS (n := 40) (by decide))) ea_nil)))))))) (by simp [textsL])) (fun B' _ nB' => dr_draw 8 (by decide) rfl nB' (dr_c.imp fun v hv => ⟨8, hv, by decide, by decide⟩)) ?_) ?_
      · rintro p y B' _ hp ⟨r, rfl, r0, r1⟩
        have hrl : r.toNat < textsL.length := by
          have : textsL.length = 8 := by decide +kernel
          omega
        exact ⟨_, ⟨_, rfl, List.getElem_mem hrl⟩, ixAt (K := K) (j := r.toNat) hp (by omega) (by rw [List.getElem?_map, List.getElem?_eq_getElem hrl]; rfl)⟩
      · rintro v H4 e4 t4 ⟨s, rfl, hs⟩
        exact k s H4 (texts_ok s hs) ((ex_hide (e2.trans e3) hide_at).trans e4) t4
    · have hw0 : ¬ way = 0 := of_decide_eq_false hb
      have t3 := t2.mono e3
      have hB : Ex (hide tp H) (hide tp H3) := ex_hide (e2.trans e3) hide_at
      refine ret_raw ⟨⟨_, rfl⟩, ?_⟩
      refine dr_lcR (tp := tp) (B := hide tp H3) (Pe := fun v => ∃ c, v = .str ⟨#[c]⟩ ∧ c < 128 ∧ c ≠ 34) 41 (by decide) hide_at (dr_draw 41 (by decide) rfl hide_at (dr_opL (xs := [.int 3, .int 8, .int 41]) (P2 := fun v => v = .int (((way - 1 : Nat)) : Int)) hide_at (el_lst (ea_cons ev_c (ea_cons ev_c (ea_cons ev_c ea_nil))) (by simp)) (fun B' _ nB' => dr_ev (ev_is (ev_op (ev_var rfl) ev_c rv_I0) (by congr 1; omega))) ?_)) (fun x => rfl) (fun i B' eB nB' => dr_op (P1 := fun v => v = .str signT) (dr_ev (ev_call ea_nil fun H1 e1 Q q E => ⟨rfl, fun H2 e2 => q H2 e2⟩)) (dr_draw 91 (by decide) rfl nB' (dr_c.imp fun v hv => ⟨91, hv, by decide, by decide⟩)) ?_) hide_ex t3 fun p xs H4 e4 t4 hp at4 hxl hPx => ?_
      · rintro p y B' _ hp rfl
        have h3 : way - 1 = 0 ∨ way - 1 = 1 ∨ way - 1 = 2 := by omega
        rcases h3 with h | h | h
        · exact ⟨_, ⟨3, rfl, by decide, by decide⟩, ixAt (K := K) (j := 0) hp (by rw [h]) rfl⟩
        · exact ⟨_, ⟨8, rfl, by decide, by decide⟩, ixAt (K := K) (j := 1) hp (by rw [h]) rfl⟩
        · exact ⟨_, ⟨41, rfl, by decide, by decide⟩, ixAt (K := K) (j := 2) hp (by rw [h]) rfl⟩
      · rintro u y rfl ⟨r, rfl, r0, r1⟩
        obtain ⟨c, hc, h1, h2⟩ := sign_ok r.toNat (by omega)
        exact ⟨_, ⟨c, rfl, h1, h2⟩, ixS (j := r.toNat) (by decide +kernel) (by omega) hc⟩
      · obtain ⟨ys, rfl, hys⟩ := strs_of (P := fun s => ∃ c, s = ⟨#[c]⟩ ∧ c < 128 ∧ c ≠ 34) (vs := xs) fun v hv => by
          obtain ⟨c, rfl, h⟩ := hPx v hv
          exact ⟨_, rfl, c, rfl, h⟩
        rw [List.length_map] at hxl
        have hlen : (ys.map (·.length)).sum = ys.length ∧ ((ys.map fun y => y.cps.toList).flatten).length = ys.length ∧ ∀ c ∈ (ys.map fun y => y.cps.toList).flatten, c < 128 ∧ c ≠ 34 := by
          clear hxl hPx at4
          induction ys with
          | nil => exact ⟨rfl, rfl, fun c hc => nomatch hc⟩
          | cons y ys ih =>
            obtain ⟨a, b, d⟩ := ih fun z hz => hys z (List.mem_cons_of_mem _ hz)
            obtain ⟨c, rfl, h⟩ := hys y List.mem_cons_self
            refine ⟨?_, ?_, fun z hz => ?_⟩
            · rw [List.map_cons, List.sum_cons, a]
              show 1 + ys.length = ys.length + 1
              omega
            · rw [List.map_cons, List.flatten_cons, List.length_append, b]
              show 1 + ys.length = ys.length + 1
              omega
            · rw [List.map_cons, List.flatten_cons] at hz
              rcases List.mem_append.mp hz with q | q
              · rw [List.mem_singleton.mp q]
                exact h
              · exact d z q
        have h0 : (Str.ofString "").length = 0 := by decide +kernel
        refine ⟨_, p, ys, rfl, rfl, .inl (sq_of at4), by rw [h0, hlen.1]; omega, k _ H4 ⟨?_, ?_, ?_⟩ (hB.trans e4) t4⟩
        · rw [len_cps, join_cps, hlen.2.1]
          omega
        · rw [join_cps]
          exact fun z => (hlen.2.2 34 z).2 rfl
        · rw [join_cps]
          exact fun c hc => (hlen.2.2 c hc).1
end
end K

set_option Elab.async false
set_option linter.all false
set_option maxRecDepth 100000
/-! the data layer: values as data (what never changes again), a small store of what changes; readings over these alone -/
namespace DL
open PySem L2 Evl EX
inductive D where
  | non | bl (b : Bool) | int (i : Int) | str (x : Str) | list (ds : List D) | tup (ds : List D) | ref (a : Addr) | ty (n : String) | scr (ds : List D)
mutual
/-- a value that reads as data, by what stands fast -/
inductive RdD (K : PySem.W.Frag) (B : Hp) : V → D → Prop
  | non : RdD K B .non .non
  | bl (b : Bool) : RdD K B (.bl b) (.bl b)
  | int (i : Int) : RdD K B (.int i) (.int i)
  | str (x : Str) : RdD K B (.str x) (.str x)
  | ty (n : String) : RdD K B (.ty n) (.ty n)
  | ref (a : Addr) : RdD K B (.ref a) (.ref a)
  | lst {a : Addr} {xs : List V} {ds : List D} : B a = some (.lst xs) → RdL K B xs ds → RdD K B (.ref a) (.list ds)
  | tup {a : Addr} {xs : List V} {ds : List D} : SqT K B a xs → RdL K B xs ds → RdD K B (.ref a) (.tup ds)
  | scr {a : Addr} {xs : List V} {ds : List D} : SqL K B a xs → RdL K B xs ds → RdD K B (.ref a) (.scr ds)
inductive RdL (K : PySem.W.Frag) (B : Hp) : List V → List D → Prop
  | nil : RdL K B [] []
  | cons {v : V} {vs : List V} {d : D} {ds : List D} : RdD K B v d → RdL K B vs ds → RdL K B (v :: vs) (d :: ds)
end
mutual
theorem RdD.mono {K : PySem.W.Frag} {B B' : Hp} (e : Ex B B') : ∀ {v : V} {d : D}, RdD K B v d → RdD K B' v d
  | _, _, .non => .non
  | _, _, .bl b => .bl b
  | _, _, .int i => .int i
  | _, _, .str x => .str x
  | _, _, .ty n => .ty n
  | _, _, .ref a => .ref a
  | _, _, .lst h r => .lst (e _ _ h) (RdL.mono e r)
  | _, _, .tup h r => .tup (ex_t e h) (RdL.mono e r)
  | _, _, .scr h r => .scr (ex_l e h) (RdL.mono e r)
theorem RdL.mono {K : PySem.W.Frag} {B B' : Hp} (e : Ex B B') : ∀ {vs : List V} {ds : List D}, RdL K B vs ds → RdL K B' vs ds
  | _, _, .nil => .nil
  | _, _, .cons h r => .cons (RdD.mono e h) (RdL.mono e r)
end
section
variable {K : PySem.W.Frag} {B : Hp}
theorem RdL.length : ∀ {vs : List V} {ds : List D}, RdL K B vs ds → vs.length = ds.length
  | _, _, .nil => rfl
  | _, _, .cons _ r => by rw [List.length_cons, List.length_cons, r.length]
theorem RdL.get : ∀ {vs : List V} {ds : List D} {i : Nat} {d : D}, RdL K B vs ds → ds[i]? = some d → ∃ v, vs[i]? = some v ∧ RdD K B v d
  | _, _, _, _, .nil, h => by simp at h
  | _, _, 0, _, .cons h _, e => by simp at e; subst e; exact ⟨_, rfl, h⟩
  | _, _, i + 1, _, .cons _ r, e => by
    obtain ⟨v, a, b⟩ := r.get (i := i) (by simpa using e)
    exact ⟨v, by simpa using a, b⟩
theorem RdL.getV : ∀ {vs : List V} {ds : List D} {i : Nat} {v : V}, RdL K B vs ds → vs[i]? = some v → ∃ d, ds[i]? = some d ∧ RdD K B v d
  | _, _, _, _, .nil, h => by simp at h
  | _, _, 0, _, .cons h _, e => by simp at e; subst e; exact ⟨_, rfl, h⟩
  | _, _, i + 1, _, .cons _ r, e => by
    obtain ⟨v, a, b⟩ := r.getV (i := i) (by simpa using e)
    exact ⟨v, by simpa using a, b⟩
theorem RdL.append : ∀ {vs ws : List V} {ds es : List D}, RdL K B vs ds → RdL K B ws es → RdL K B (vs ++ ws) (ds ++ es)
  | _, _, _, _, .nil, s => s
  | _, _, _, _, .cons h r, s => .cons h (r.append s)
theorem RdL.take : ∀ {vs : List V} {ds : List D} (n : Nat), RdL K B vs ds → RdL K B (vs.take n) (ds.take n)
  | _, _, 0, _ => .nil
  | _, _, _ + 1, .nil => .nil
  | _, _, n + 1, .cons h r => .cons h (r.take n)
theorem RdL.drop : ∀ {vs : List V} {ds : List D} (n : Nat), RdL K B vs ds → RdL K B (vs.drop n) (ds.drop n)
  | _, _, 0, r => r
  | _, _, _ + 1, .nil => .nil
  | _, _, n + 1, .cons _ r => r.drop n
theorem RdL.set {v : V} {d : D} (h : RdD K B v d) : ∀ {vs : List V} {ds : List D} (n : Nat), RdL K B vs ds → RdL K B (vs.set n v) (ds.set n d)
  | _, _, _, .nil => .nil
  | _, _, 0, .cons _ r => .cons h r
  | _, _, n + 1, .cons q r => .cons q (r.set h n)
theorem RdL.rev : ∀ {vs : List V} {ds : List D}, RdL K B vs ds → RdL K B vs.reverse ds.reverse
  | _, _, .nil => .nil
  | _, _, .cons h r => by
    rw [List.reverse_cons, List.reverse_cons]
    exact r.rev.append (.cons h .nil)
theorem RdL.one {v : V} {d : D} (h : RdD K B v d) : RdL K B [v] [d] := .cons h .nil
theorem rd_int {v : V} {i : Int} (h : RdD K B v (.int i)) : v = .int i := by cases h; rfl
theorem rd_bl {v : V} {b : Bool} (h : RdD K B v (.bl b)) : v = .bl b := by cases h; rfl
theorem rd_str {v : V} {x : Str} (h : RdD K B v (.str x)) : v = .str x := by cases h; rfl
theorem rd_non {v : V} (h : RdD K B v .non) : v = .non := by cases h; rfl
theorem rd_ref {v : V} {a : Addr} (h : RdD K B v (.ref a)) : v = .ref a := by cases h; rfl
theorem rd_list {v : V} {ds : List D} (h : RdD K B v (.list ds)) : ∃ a xs, v = .ref a ∧ B a = some (.lst xs) ∧ RdL K B xs ds := by
  cases h with
  | lst h r => exact ⟨_, _, rfl, h, r⟩
theorem rd_tup {v : V} {ds : List D} (h : RdD K B v (.tup ds)) : ∃ a xs, v = .ref a ∧ SqT K B a xs ∧ RdL K B xs ds := by
  cases h with
  | tup h r => exact ⟨_, _, rfl, h, r⟩
theorem rd_scr {v : V} {ds : List D} (h : RdD K B v (.scr ds)) : ∃ a xs, v = .ref a ∧ SqL K B a xs ∧ RdL K B xs ds := by
  cases h with
  | scr h r => exact ⟨_, _, rfl, h, r⟩
theorem rdl_ints : ∀ ns : List Int, RdL K B (ns.map V.int) (ns.map D.int)
  | [] => .nil
  | n :: ns => .cons (.int n) (rdl_ints ns)
theorem rdl_strs : ∀ ns : List Str, RdL K B (ns.map V.str) (ns.map D.str)
  | [] => .nil
  | n :: ns => .cons (.str n) (rdl_strs ns)
end
/-! ### the store -/
inductive O where
  | lst (ds : List D) | dct (kvs : List (Key × D)) | ins (C dx : Addr) (fs : List (Str × D)) | tap | lck (od : Obj) (xs : List (Key × V)) (kvs : List (Key × D)) | xd (fs : List (Str × D))
abbrev Sto := Addr → Option O
/-- a dict that may be read, locked or not -/
def DctAt (S : Sto) (a : Addr) (kvs : List (Key × D)) : Prop := S a = some (.dct kvs) ∨ ∃ od xs, S a = some (.lck od xs kvs)
def put (S : Sto) (a : Addr) (o : O) : Sto := fun b => if b = a then some o else S b
def del (S : Sto) (a : Addr) : Sto := fun b => if b = a then none else S b
theorem put_same {S : Sto} {a : Addr} {o : O} : put S a o a = some o := by unfold put; rw [if_pos rfl]
theorem put_ne {S : Sto} {a b : Addr} {o : O} (h : b ≠ a) : put S a o b = S b := by unfold put; rw [if_neg h]
theorem del_same {S : Sto} {a : Addr} : del S a a = none := by unfold del; rw [if_pos rfl]
theorem del_ne {S : Sto} {a b : Addr} (h : b ≠ a) : del S a b = S b := by unfold del; rw [if_neg h]
theorem put_put {S : Sto} {a : Addr} {o u : O} : put (put S a o) a u = put S a u := by funext b; unfold put; split <;> rfl
theorem del_put {S : Sto} {a : Addr} {o : O} (h : S a = none) : del (put S a o) a = S := by
  funext b; unfold del put
  split
  · rename_i e; rw [e, h]
  · rfl
theorem put_self {S : Sto} {a : Addr} {o : O} (h : S a = some o) : put S a o = S := by
  funext b; unfold put
  split
  · rename_i e; rw [e, h]
  · rfl
theorem put_comm {S : Sto} {a b : Addr} {o u : O} (h : a ≠ b) : put (put S a o) b u = put (put S b u) a o := by
  funext c; unfold put
  by_cases h1 : c = a
  · by_cases h2 : c = b
    · exact absurd (h1.symm.trans h2) h
    · rw [if_neg h2, if_pos h1, if_pos h1]
  · by_cases h2 : c = b
    · rw [if_pos h2, if_neg h1, if_pos h2]
    · rw [if_neg h2, if_neg h1, if_neg h1, if_neg h2]
theorem sto_ne {S : Sto} {a b : Addr} {o : O} (h : S a = some o) (n : S b = none) : a ≠ b := fun e => by rw [e, n] at h; cases h
def RdKV {κ : Type} (K : PySem.W.Frag) (B : Hp) : List (κ × V) → List (κ × D) → Prop := Paired fun p q => p.1 = q.1 ∧ RdD K B p.2 q.2
theorem RdKV.mono {κ : Type} {K : PySem.W.Frag} {B B' : Hp} (e : Ex B B') {l : List (κ × V)} {m : List (κ × D)} (h : RdKV K B l m) : RdKV K B' l m := Paired.mapP h fun _ _ r => ⟨r.1, r.2.mono e⟩
inductive RdO (K : PySem.W.Frag) (B : Hp) : HO → O → Prop
  | lst {xs : List V} {ds : List D} : RdL K B xs ds → RdO K B (.lst xs) (.lst ds)
  | dct {kvs : List (Key × V)} {dvs : List (Key × D)} : RdKV K B kvs dvs → RdO K B (.dK kvs) (.dct dvs)
  | ins {C dx : Addr} {fs : List (Str × V)} {gs : List (Str × D)} : RdKV K B fs gs → RdO K B (.ins C dx fs) (.ins C dx gs)
  | tap (a b c d : Int) : RdO K B (.lst [.int a, .int b, .int c, .int d]) .tap
  | lck {od : Obj} {xs : List (Key × V)} {kvs : List (Key × D)} : RdKV K B xs kvs → RdO K B (.frz od (.dK xs)) (.lck od xs kvs)
  | xd {fs : List (Str × V)} {gs : List (Str × D)} : RdKV K B fs gs → RdO K B (.xd fs) (.xd gs)
theorem RdO.mono {K : PySem.W.Frag} {B B' : Hp} (e : Ex B B') {h : HO} {o : O} (r : RdO K B h o) : RdO K B' h o := by
  cases r with
  | lst r => exact .lst (r.mono e)
  | dct r => exact .dct (r.mono e)
  | ins r => exact .ins (r.mono e)
  | tap a b c d => exact .tap a b c d
  | lck r => exact .lck (r.mono e)
  | xd r => exact .xd (r.mono e)
/-- B stands fast, S is what changes, H is both -/
structure R (K : PySem.W.Frag) (B : Hp) (S : Sto) (H : Hp) : Prop where
  ex : Ex B H
  own : ∀ a o, S a = some o → B a = none ∧ ∃ ho, H a = some ho ∧ RdO K B ho o
section
variable {K : PySem.W.Frag} {B H : Hp} {S : Sto}
theorem R.fresh (r : R K B S H) {p : Addr} (h : H p = none) : B p = none ∧ S p = none := by
  refine ⟨fresh_back r.ex h, ?_⟩
  cases e : S p with
  | none => rfl
  | some o =>
    obtain ⟨_, ho, e2, _⟩ := r.own p o e
    rw [h] at e2
    cases e2
/-- a new thing that stands fast -/
theorem R.new (r : R K B S H) {p : Addr} {o : HO} (h : H p = none) : R K (upd B p o) S (upd H p o) ∧ Ex B (upd B p o) := by
  have hb := (r.fresh h).1
  refine ⟨⟨fun a u e => ?_, fun a u e => ?_⟩, Ex.new hb⟩
  · by_cases z : a = p
    · subst z; rw [upd_same] at e ⊢; exact e
    · rw [upd_ne z] at e ⊢; exact r.ex a u e
  · obtain ⟨n, ho, h1, h2⟩ := r.own a u e
    have z : a ≠ p := fun z => by rw [z, h] at h1; cases h1
    exact ⟨by rw [upd_ne z]; exact n, ho, by rw [upd_ne z]; exact h1, h2.mono (Ex.new hb)⟩
/-- a new thing that may change -/
theorem R.newS (r : R K B S H) {p : Addr} {ho : HO} {o : O} (h : H p = none) (ro : RdO K B ho o) : R K B (put S p o) (upd H p ho) := by
  have hb := (r.fresh h).1
  refine ⟨r.ex.trans (Ex.new h), fun a u e => ?_⟩
  by_cases z : a = p
  · subst z; rw [put_same] at e; cases e; exact ⟨hb, ho, upd_same, ro⟩
  · rw [put_ne z] at e
    obtain ⟨n, ho', h1, h2⟩ := r.own a u e
    exact ⟨n, ho', by rw [upd_ne z]; exact h1, h2⟩
/-- a thing of the store changes -/
theorem R.mut (r : R K B S H) {p : Addr} {ho : HO} {o u : O} (h : S p = some u) (ro : RdO K B ho o) : R K B (put S p o) (upd H p ho) := by
  have hb := (r.own p u h).1
  refine ⟨r.ex.mut hb, fun a v e => ?_⟩
  by_cases z : a = p
  · subst z; rw [put_same] at e; cases e; exact ⟨hb, ho, upd_same, ro⟩
  · rw [put_ne z] at e
    obtain ⟨n, ho', h1, h2⟩ := r.own a v e
    exact ⟨n, ho', by rw [upd_ne z]; exact h1, h2⟩
/-- a list of the store stands fast from now on -/
theorem R.freeze (r : R K B S H) {p : Addr} {ds : List D} (h : S p = some (.lst ds)) : ∃ B', Ex B B' ∧ R K B' (del S p) H ∧ RdD K B' (.ref p) (.list ds) := by
  obtain ⟨hb, ho, h1, h2⟩ := r.own p _ h
  cases h2 with
  | lst rl =>
    rename_i xs
    have e : Ex B (upd B p (.lst xs)) := Ex.new hb
    refine ⟨_, e, ⟨fun a u q => ?_, fun a u q => ?_⟩, .lst upd_same (rl.mono e)⟩
    · by_cases z : a = p
      · subst z; rw [upd_same] at q; cases q; exact h1
      · rw [upd_ne z] at q; exact r.ex a u q
    · by_cases z : a = p
      · subst z; rw [del_same] at q; cases q
      · rw [del_ne z] at q
        obtain ⟨n, ho', h3, h4⟩ := r.own a u q
        exact ⟨by rw [upd_ne z]; exact n, ho', h3, h4.mono e⟩
theorem R.lst (r : R K B S H) {p : Addr} {ds : List D} (h : S p = some (.lst ds)) : ∃ xs, H p = some (.lst xs) ∧ RdL K B xs ds := by
  obtain ⟨_, ho, h1, h2⟩ := r.own p _ h
  cases h2 with
  | lst rl => exact ⟨_, h1, rl⟩
theorem R.dct (r : R K B S H) {p : Addr} {ds : List (Key × D)} (h : S p = some (.dct ds)) : ∃ xs, H p = some (.dK xs) ∧ RdKV K B xs ds := by
  obtain ⟨_, ho, h1, h2⟩ := r.own p _ h
  cases h2 with
  | dct rl => exact ⟨_, h1, rl⟩
theorem R.lck (r : R K B S H) {p : Addr} {od : Obj} {xs : List (Key × V)} {ds : List (Key × D)} (h : S p = some (.lck od xs ds)) : H p = some (.frz od (.dK xs)) ∧ RdKV K B xs ds := by
  obtain ⟨_, ho, h1, h2⟩ := r.own p _ h
  cases h2 with
  | lck rl => exact ⟨h1, rl⟩
theorem R.dctR (r : R K B S H) {p : Addr} {ds : List (Key × D)} (h : DctAt S p ds) : ∃ xs, Rd H p (.dK xs) ∧ RdKV K B xs ds := by
  rcases h with h | ⟨od, xs, h⟩
  · obtain ⟨xs, h1, h2⟩ := r.dct h
    exact ⟨xs, .inl h1, h2⟩
  · obtain ⟨h1, h2⟩ := r.lck h
    exact ⟨xs, .inr ⟨od, h1⟩, h2⟩
theorem R.ins (r : R K B S H) {p C dx : Addr} {ds : List (Str × D)} (h : S p = some (.ins C dx ds)) : ∃ xs, H p = some (.ins C dx xs) ∧ RdKV K B xs ds := by
  obtain ⟨_, ho, h1, h2⟩ := r.own p _ h
  cases h2 with
  | ins rl => exact ⟨_, h1, rl⟩
theorem R.tap (r : R K B S H) {p : Addr} (h : S p = some .tap) : Tap H p := by
  obtain ⟨_, ho, h1, h2⟩ := r.own p _ h
  cases h2 with
  | tap a b c d => exact ⟨a, b, c, d, h1⟩
end
/-! ### slots, wishes, readings -/
abbrev Dst := List (Option D)
abbrev DK := D → Sto → Prop
abbrev DE := Dst → Sto → DK → Prop
abbrev DT := Dst → Sto → (Bool → Sto → Prop) → Prop
abbrev DA := Dst → Sto → (List D → Sto → Prop) → Prop
structure DEnds where
  nx : Dst → Sto → Prop
  rt : DK
  bk : Dst → Sto → Prop := fun _ _ => False
  ct : Dst → Sto → Prop := fun _ _ => False
  xx : Value → Option Addr → Dst → Sto → Prop := fun _ _ _ _ => False
abbrev DS := DEnds → Dst → Sto → Prop
abbrev XDK := Value → Option Addr → Sto → Prop
/-- what is wished of an exception -/
abbrev WXD := Value → Option Addr → L2.St → Hp → Prop
abbrev SpD := List D → Sto → DK → XDK → Prop
structure Sl (K : PySem.W.Frag) (B : Hp) (σ : L2.St) (δ : Dst) : Prop where
  len : σ.length = δ.length
  at_ : ∀ (i : Nat) (d : D), δ[i]? = some (some d) → ∃ v, σ[i]? = some (some v) ∧ RdD K B v d
section
variable {K : PySem.W.Frag} {B B' H : Hp} {S : Sto} {σ : L2.St} {δ : Dst}
theorem Sl.mono (s : Sl K B σ δ) (e : Ex B B') : Sl K B' σ δ := ⟨s.len, fun i d h => let ⟨v, a, b⟩ := s.at_ i d h; ⟨v, a, b.mono e⟩⟩
theorem Sl.set (s : Sl K B σ δ) {v : V} {d : D} (h : RdD K B v d) (i : Nat) : Sl K B (σ.set i (some v)) (δ.set i (some d)) := by
  refine ⟨by simp [s.len], fun j x e => ?_⟩
  by_cases z : i = j
  · subst z
    by_cases hl : i < δ.length
    · rw [List.getElem?_set_self hl] at e
      cases e
      exact ⟨v, List.getElem?_set_self (by rw [s.len]; exact hl), h⟩
    · rw [List.getElem?_eq_none (by simpa using hl)] at e
      cases e
  · rw [List.getElem?_set_ne z] at e ⊢
    exact s.at_ j x e
end
/-- readings over data, as readings of the layer -/
def lE (K : PySem.W.Frag) (d : DE) : TE := fun σ H Q => ∃ B δ S k, Sl K B σ δ ∧ R K B S H ∧ d δ S k ∧ ∀ x S' v B' H', k x S' → Ex B B' → R K B' S' H' → RdD K B' v x → Q v H'
def lT (K : PySem.W.Frag) (d : DT) : TT := fun σ H Q => ∃ B δ S k, Sl K B σ δ ∧ R K B S H ∧ d δ S k ∧ ∀ b S' B' H', k b S' → Ex B B' → R K B' S' H' → Q b H'
def lA (K : PySem.W.Frag) (d : DA) : TA := fun σ H Q => ∃ B δ S k, Sl K B σ δ ∧ R K B S H ∧ d δ S k ∧ ∀ xs S' vs B' H', k xs S' → Ex B B' → R K B' S' H' → RdL K B' vs xs → Q vs H'
structure lD (K : PySem.W.Frag) (W : WXD) (B : Hp) (D : DEnds) (E : Ends) : Prop where
  nx : ∀ δ S σ B' H', D.nx δ S → Ex B B' → Sl K B' σ δ → R K B' S H' → E.nx σ H'
  rt : ∀ x S v B' H', D.rt x S → Ex B B' → R K B' S H' → RdD K B' v x → E.rt v H'
  bk : ∀ δ S σ B' H', D.bk δ S → Ex B B' → Sl K B' σ δ → R K B' S H' → E.bk σ H'
  ct : ∀ δ S σ B' H', D.ct δ S → Ex B B' → Sl K B' σ δ → R K B' S H' → E.ct σ H'
  xx : ∀ c od δ S σ B' H', D.xx c od δ S → Ex B B' → Sl K B' σ δ → R K B' S H' → W c od σ H'
def lS (K : PySem.W.Frag) (W : WXD) (d : DS) : TS := fun E σ H => ∃ B δ S D, Sl K B σ δ ∧ R K B S H ∧ d D δ S ∧ lD K W B D E
theorem lD.mono {K : PySem.W.Frag} {W : WXD} {B B' : Hp} {D : DEnds} {E : Ends} (h : lD K W B D E) (e : Ex B B') : lD K W B' D E :=
  ⟨fun δ S σ B2 H k e2 => h.nx δ S σ B2 H k (e.trans e2), fun x S v B2 H k e2 => h.rt x S v B2 H k (e.trans e2), fun δ S σ B2 H k e2 => h.bk δ S σ B2 H k (e.trans e2), fun δ S σ B2 H k e2 => h.ct δ S σ B2 H k (e.trans e2), fun c od δ S σ B2 H k e2 => h.xx c od δ S σ B2 H k (e.trans e2)⟩
def lSp (K : PySem.W.Frag) (f : SpD) : Sp := fun vs H Q E => ∃ B ds S k kx, RdL K B vs ds ∧ R K B S H ∧ f ds S k kx ∧ (∀ x S' v B' H', k x S' → Ex B B' → R K B' S' H' → RdD K B' v x → Q v H') ∧
  ∀ c od S' B' H', kx c od S' → Ex B B' → R K B' S' H' → E c od H'
/-! ### the judgements, weakened -/
section
variable {X : Cx}
theorem peOf {e : Expr} {t u : TE} (h : PE X e t) (k : ∀ σ H Q, u σ H Q → t σ H Q) : PE X e u := ⟨fun pins s σ H Q I q => h.run pins s σ H Q I (k σ H Q q)⟩
theorem ptOf {e : Expr} {t u : TT} (h : PT X e t) (k : ∀ σ H Q, u σ H Q → t σ H Q) : PT X e u := ⟨fun pins s σ H Q I q => h.run pins s σ H Q I (k σ H Q q)⟩
theorem pwOf {e : Expr} {t u : TT} (h : PW X e t) (k : ∀ σ H Q, u σ H Q → t σ H Q) : PW X e u := ⟨fun wh pins s σ H Q I q => h.run wh pins s σ H Q I (k σ H Q q)⟩
theorem paOf {e : List Expr} {t u : TA} (h : PA X e t) (k : ∀ σ H Q, u σ H Q → t σ H Q) : PA X e u := ⟨fun pos pins s σ H Q I q => h.run pos pins s σ H Q I (k σ H Q q)⟩
theorem psOf {st : Stmt} {t u : TS} (h : PS X st t) (k : ∀ D σ H, u D σ H → t D σ H) : PS X st u := ⟨fun pins s σ H D I q => h.run pins s σ H D I (k D σ H q)⟩
theorem pssOf {st : List Stmt} {t u : TS} (h : PSs X st t) (k : ∀ D σ H, u D σ H → t D σ H) : PSs X st u := ⟨fun pins s σ H D I q => h.run pins s σ H D I (k D σ H q)⟩
theorem pgOf {tg : Expr} {t u : TG} (h : PG X tg t) (k : ∀ v σ H Q, u v σ H Q → t v σ H Q) : PG X tg u := by
  obtain ⟨r⟩ := h
  exact ⟨fun pins s σ H v w Q I rv q => r pins s σ H v w Q I rv (k v σ H Q q)⟩
end
end DL

set_option Elab.async false
set_option linter.all false
set_option maxRecDepth 100000
namespace DL
open PySem L2 Evl EX
/-! ### expressions -/
section
variable {X : Cx} {K : PySem.W.Frag}
def dVar (i : Nat) : DE := fun δ S k => match δ[i]? with
  | some (some d) => k d S
  | _ => False
theorem de_var (i : Nat) {x : Str} {pos : Pos} (hN : X.N[i]? = some x := by rfl) (hv : Vis X.env.scope x := by first | exact Or.inl rfl | exact Or.inr (Or.inl rfl) | exact Or.inr (Or.inr rfl)) (hd : (x == ("__debug__" : Str)) = false := by decide)
    (hcd : (x == ("__classdict__" : Str)) = false := by decide) : PE X (.Name x pos) (lE K (dVar i)) := peOf (pv i hN hv hd hcd) fun σ H Q ⟨B, δ, S, k, s, r, h, q⟩ => by
  unfold dVar at h
  split at h
  · rename_i d e
    obtain ⟨v, hv, rv⟩ := s.at_ i d e
    exact ⟨v, hv, q d S v B H h (Ex.refl B) r rv⟩
  · exact h.elim
/-- a list of the store, read for good -/
def dFrz (i : Nat) : DE := fun δ S k => match δ[i]? with
  | some (some (.ref a)) => ∃ ds, S a = some (.lst ds) ∧ k (.list ds) (del S a)
  | _ => False
theorem de_frz (i : Nat) {x : Str} {pos : Pos} (hN : X.N[i]? = some x := by rfl) (hv : Vis X.env.scope x := by first | exact Or.inl rfl | exact Or.inr (Or.inl rfl) | exact Or.inr (Or.inr rfl)) (hd : (x == ("__debug__" : Str)) = false := by decide)
    (hcd : (x == ("__classdict__" : Str)) = false := by decide) : PE X (.Name x pos) (lE K (dFrz i)) := peOf (pv i hN hv hd hcd) fun σ H Q ⟨B, δ, S, k, s, r, h, q⟩ => by
  unfold dFrz at h
  split at h
  · rename_i a e
    obtain ⟨v, hv, rv⟩ := s.at_ i _ e
    obtain ⟨ds, hs, h⟩ := h
    obtain ⟨B', e', r', rd⟩ := r.freeze hs
    rw [rd_ref rv] at hv
    exact ⟨_, hv, q _ _ _ B' H h e' r' rd⟩
  · exact h.elim
def dC (d : D) : DE := fun _ S k => k d S
theorem de_c {e : Expr} {v : V} {d : D} (h : PE X e (tC v)) (hd : ∀ B, RdD K B v d) : PE X e (lE K (dC d)) := peOf h fun σ H Q ⟨B, δ, S, k, s, r, h, q⟩ => q d S v B H h (Ex.refl B) r (hd B)
theorem de_int {i j pos} : PE X (.Constant (.int i) j pos) (lE K (dC (.int i))) := de_c pe_int fun _ => .int i
theorem de_bl {b j pos} : PE X (.Constant (.bool b) j pos) (lE K (dC (.bl b))) := de_c pe_bl fun _ => .bl b
theorem de_non {j pos} : PE X (.Constant .none j pos) (lE K (dC .non)) := de_c pe_non fun _ => .non
theorem de_str {x j pos} : PE X (.Constant (.str x) j pos) (lE K (dC (.str x))) := de_c pe_str fun _ => .str x
/-- a constant of the module -/
def GlD (K : PySem.W.Frag) (mg : Str → Option Value) (x : Str) (d : D) : Prop := ∃ v u, mg x = some u ∧ RelV v u ∧ ∀ B, RdD K B v d
theorem de_gl {x : Str} {d : D} {pos : Pos} (hg : Gl X x) (h : GlD K X.mg x d) (hd : (x == ("__debug__" : Str)) = false := by decide) : PE X (.Name x pos) (lE K (dC d)) := by
  obtain ⟨v, u, hm, r, hb⟩ := h
  exact de_c (pe_glob hg hm r hd) hb
theorem de_blt {x : Str} {n : String} {pos : Pos} (hg : Gl X x) (hm : X.mg x = none) (hv : bootBuiltins x = some (.type n)) (hn : x ≠ "__name__" := by decide) (hd : (x == ("__debug__" : Str)) = false := by decide) : PE X (.Name x pos) (lE K (dC (.ty n))) :=
  de_c (pe_bltn (v := .ty n) hg hm hv rfl hn hd) fun _ => .ty n
/-! two operands -/
abbrev DR2 := D → D → Sto → DK → Prop
def dOp (rd : DR2) (da db : DE) : DE := fun δ S k => da δ S fun x S1 => db δ S1 fun y S2 => rd x y S2 k
def Sim2 (K : PySem.W.Frag) (r : R2) (rd : DR2) : Prop := ∀ (B : Hp) (S : Sto) (H : Hp) (v w : V) (x y : D) (k : DK) (Q : VK), R K B S H → RdD K B v x → RdD K B w y → rd x y S k →
  (∀ z S' u B' H', k z S' → Ex B B' → R K B' S' H' → RdD K B' u z → Q u H') → r v w H Q
theorem l_op {r : R2} {rd : DR2} {da db : DE} (hs : Sim2 K r rd) (σ : L2.St) (H : Hp) (Q : VK) : lE K (dOp rd da db) σ H Q → tOp r (lE K da) (lE K db) σ H Q := fun ⟨B, δ, S, k, s, r, h, q⟩ =>
  ⟨B, δ, S, _, s, r, h, fun x S1 v B1 H1 h1 e1 r1 d1 => ⟨B1, δ, S1, _, s.mono e1, r1, h1, fun y S2 w B2 H2 h2 e2 r2 d2 => hs B2 S2 H2 v w x y k Q r2 (d1.mono e2) d2 h2 fun z S' u B' H' hk e' r' d' => q z S' u B' H' hk (e1.trans (e2.trans e')) r' d'⟩⟩
theorem de_op {op : Operator} {r : R2} {rd : DR2} {a b : Expr} {da db : DE} {pos : Pos} (ho : OpR X (binaryOp op) r) (hs : Sim2 K r rd) (ha : PE X a (lE K da)) (hb : PE X b (lE K db)) : PE X (.BinOp a op b pos) (lE K (dOp rd da db)) := peOf (pe_op ho ha hb) (l_op hs)
theorem de_cmp {op : CmpOp} {r : R2} {rd : DR2} {a b : Expr} {da db : DE} {pos : Pos} (ho : OpR X (compareOp op) r) (hs : Sim2 K r rd) (ha : PE X a (lE K da)) (hb : PE X b (lE K db)) (hm : behindInMarks op b = false) : PE X (.Compare a [op] [b] pos) (lE K (dOp rd da db)) := peOf (pe_cmpR ho ha hb hm) (l_op hs)
theorem de_ix {r : R2} {rd : DR2} {a b : Expr} {da db : DE} {pos : Pos} (ho : IxR X r) (hs : Sim2 K r rd) (ha : PE X a (lE K da)) (hb : PE X b (lE K db)) (hp : PlainIx b) : PE X (.Subscript a b pos) (lE K (dOp rd da db)) := peOf (pe_ix ho ha hb hp) (l_op hs)
/-! tests -/
def dTest (de : DE) : DT := fun δ S k => de δ S fun x S1 => match x with
  | .bl b => k b S1
  | _ => False
theorem l_test {de : DE} (σ : L2.St) (H : Hp) (Q : Bool → Hp → Prop) : lT K (dTest de) σ H Q → lE K de σ H fun x H' => ∃ b, x = .bl b ∧ Q b H' := fun ⟨B, δ, S, k, s, r, h, q⟩ => ⟨B, δ, S, _, s, r, h, fun x S1 v B1 H1 h1 e1 r1 d1 => by
  split at h1
  · rename_i b
    exact ⟨b, rd_bl d1, q b S1 B1 H1 h1 e1 r1⟩
  · exact h1.elim⟩
theorem dt_cmp {op : CmpOp} {r : R2} {rd : DR2} {a b : Expr} {da db : DE} {pos : Pos} (ho : OpR X (compareOp op) r) (hs : Sim2 K r rd) (ha : PE X a (lE K da)) (hb : PE X b (lE K db)) (hm : behindInMarks op b = false) : PT X (.Compare a [op] [b] pos) (lT K (dTest (dOp rd da db))) :=
  ptOf (pt_cmpR ho ha hb hm) fun σ H Q h => by
    obtain ⟨B, δ, S, k, s, r', h, q⟩ := l_test σ H Q h
    exact l_op hs σ H _ ⟨B, δ, S, k, s, r', h, q⟩
theorem dt_val {e : Expr} {de : DE} (h : PE X e (lE K de)) (he : ∀ whole, isTrue e X.env whole = (do let v ← whole; standAt e.pos; holding [v] (truthy v)) := by intro _; rfl) : PT X e (lT K (dTest de)) := ptOf (pt_val h he) l_test
def dAnd (t u : DT) : DT := fun δ S k => t δ S fun c S1 => if c = true then u δ S1 k else k false S1
def dOr (t u : DT) : DT := fun δ S k => t δ S fun c S1 => if c = true then k true S1 else u δ S1 k
def dNot (t : DT) : DT := fun δ S k => t δ S fun c S1 => k (!c) S1
section
variable {a b : Expr} {rest : List Expr} {pos : Pos} {t u : DT}
theorem dw_and1 (h : PT X a (lT K t)) : PW X (.BoolOp .And [a] pos) (lT K t) := pw_and1 h
theorem dw_or1 (h : PT X a (lT K t)) : PW X (.BoolOp .Or [a] pos) (lT K t) := pw_or1 h
theorem dw_and (ha : PT X a (lT K t)) (hb : PW X (.BoolOp .And (b :: rest) pos) (lT K u)) : PW X (.BoolOp .And (a :: b :: rest) pos) (lT K (dAnd t u)) := pwOf (pw_and ha hb) fun σ H Q ⟨B, δ, S, k, s, r, h, q⟩ =>
  ⟨B, δ, S, _, s, r, h, fun c S1 B1 H1 h1 e1 r1 => by
    cases c with
    | true => exact ⟨B1, δ, S1, k, s.mono e1, r1, h1, fun c S2 B2 H2 h2 e2 r2 => q c S2 B2 H2 h2 (e1.trans e2) r2⟩
    | false => exact q false S1 B1 H1 h1 e1 r1⟩
theorem dw_or (ha : PT X a (lT K t)) (hb : PW X (.BoolOp .Or (b :: rest) pos) (lT K u)) : PW X (.BoolOp .Or (a :: b :: rest) pos) (lT K (dOr t u)) := pwOf (pw_or ha hb) fun σ H Q ⟨B, δ, S, k, s, r, h, q⟩ =>
  ⟨B, δ, S, _, s, r, h, fun c S1 B1 H1 h1 e1 r1 => by
    cases c with
    | true => exact q true S1 B1 H1 h1 e1 r1
    | false => exact ⟨B1, δ, S1, k, s.mono e1, r1, h1, fun c S2 B2 H2 h2 e2 r2 => q c S2 B2 H2 h2 (e1.trans e2) r2⟩⟩
theorem dt_not (ha : PT X a (lT K t)) : PT X (.UnaryOp .Not a pos) (lT K (dNot t)) := ptOf (pt_not ha) fun σ H Q ⟨B, δ, S, k, s, r, h, q⟩ =>
  ⟨B, δ, S, _, s, r, h, fun c S1 B1 H1 h1 e1 r1 => q (!c) S1 B1 H1 h1 e1 r1⟩
def dAndV (da db : DE) : DE := fun δ S k => da δ S fun x S1 => match x with
  | .bl c => if c = true then db δ S1 k else k (.bl false) S1
  | _ => False
def dOrV (da db : DE) : DE := fun δ S k => da δ S fun x S1 => match x with
  | .bl c => if c = true then k (.bl true) S1 else db δ S1 k
  | _ => False
def dNotV (da : DE) : DE := fun δ S k => da δ S fun x S1 => match x with
  | .bl c => k (.bl (!c)) S1
  | _ => False
variable {da db : DE}
theorem de_one {op} {t : DE} (h : PE X a (lE K t)) : PE X (.BoolOp op [a] pos) (lE K t) := pe_one h
theorem de_and (ha : PE X a (lE K da)) (hb : PE X (.BoolOp .And (b :: rest) pos) (lE K db)) : PE X (.BoolOp .And (a :: b :: rest) pos) (lE K (dAndV da db)) := peOf (pe_and ha hb) fun σ H Q ⟨B, δ, S, k, s, r, h, q⟩ =>
  ⟨B, δ, S, _, s, r, h, fun x S1 v B1 H1 h1 e1 r1 d1 => by
    split at h1
    · rename_i c
      refine ⟨c, rd_bl d1, ?_⟩
      cases c with
      | true => exact ⟨B1, δ, S1, k, s.mono e1, r1, h1, fun c S2 w B2 H2 h2 e2 r2 d2 => q c S2 w B2 H2 h2 (e1.trans e2) r2 d2⟩
      | false => exact q _ S1 _ B1 H1 h1 e1 r1 (.bl false)
    · exact h1.elim⟩
theorem de_or (ha : PE X a (lE K da)) (hb : PE X (.BoolOp .Or (b :: rest) pos) (lE K db)) : PE X (.BoolOp .Or (a :: b :: rest) pos) (lE K (dOrV da db)) := peOf (pe_or ha hb) fun σ H Q ⟨B, δ, S, k, s, r, h, q⟩ =>
  ⟨B, δ, S, _, s, r, h, fun x S1 v B1 H1 h1 e1 r1 d1 => by
    split at h1
    · rename_i c
      refine ⟨c, rd_bl d1, ?_⟩
      cases c with
      | true => exact q _ S1 _ B1 H1 h1 e1 r1 (.bl true)
      | false => exact ⟨B1, δ, S1, k, s.mono e1, r1, h1, fun c S2 w B2 H2 h2 e2 r2 d2 => q c S2 w B2 H2 h2 (e1.trans e2) r2 d2⟩
    · exact h1.elim⟩
theorem de_not (ha : PE X a (lE K da)) : PE X (.UnaryOp .Not a pos) (lE K (dNotV da)) := peOf (pe_not ha) fun σ H Q ⟨B, δ, S, k, s, r, h, q⟩ =>
  ⟨B, δ, S, _, s, r, h, fun x S1 v B1 H1 h1 e1 r1 d1 => by
    split at h1
    · rename_i c
      exact ⟨c, rd_bl d1, q _ S1 _ B1 H1 h1 e1 r1 (.bl _)⟩
    · exact h1.elim⟩
def dIf (t : DT) (da db : DE) : DE := fun δ S k => t δ S fun c S1 => if c = true then da δ S1 k else db δ S1 k
theorem de_if {c : Expr} (hc : PT X c (lT K t)) (ha : PE X a (lE K da)) (hb : PE X b (lE K db)) : PE X (.IfExp c a b pos) (lE K (dIf t da db)) := peOf (pe_ifExp hc ha hb) fun σ H Q ⟨B, δ, S, k, s, r, h, q⟩ =>
  ⟨B, δ, S, _, s, r, h, fun c S1 B1 H1 h1 e1 r1 => by
    cases c with
    | true => exact ⟨B1, δ, S1, k, s.mono e1, r1, h1, fun c S2 w B2 H2 h2 e2 r2 d2 => q c S2 w B2 H2 h2 (e1.trans e2) r2 d2⟩
    | false => exact ⟨B1, δ, S1, k, s.mono e1, r1, h1, fun c S2 w B2 H2 h2 e2 r2 d2 => q c S2 w B2 H2 h2 (e1.trans e2) r2 d2⟩⟩
end
/-! rows of expressions; tuples, lists; calls -/
def dNil : DA := fun _ S k => k [] S
def dCons (da : DE) (dr : DA) : DA := fun δ S k => da δ S fun x S1 => dr δ S1 fun xs S2 => k (x :: xs) S2
theorem da_nil : PA X [] (lA K dNil) := paOf pa_nil fun σ H Q ⟨B, δ, S, k, s, r, h, q⟩ => q [] S [] B H h (Ex.refl B) r .nil
theorem da_cons {e : Expr} {es : List Expr} {da : DE} {dr : DA} (ha : PE X e (lE K da)) (hr : PA X es (lA K dr)) (hs : starEach (e :: es) X.env = (false, eval e X.env) :: starEach es X.env := by rfl) : PA X (e :: es) (lA K (dCons da dr)) :=
  paOf (pa_cons ha hr hs) fun σ H Q ⟨B, δ, S, k, s, r, h, q⟩ => ⟨B, δ, S, _, s, r, h, fun x S1 v B1 H1 h1 e1 r1 d1 => ⟨B1, δ, S1, _, s.mono e1, r1, h1, fun xs S2 vs B2 H2 h2 e2 r2 d2 => q _ S2 _ B2 H2 h2 (e1.trans e2) r2 (.cons (d1.mono e2) d2)⟩⟩
def dTup (da : DA) : DE := fun δ S k => da δ S fun xs S1 => xs.length ≤ 100000 ∧ k (.tup xs) S1
theorem de_tup {es : List Expr} {da : DA} {x1 pos} (h : PA X es (lA K da)) : PE X (.Tuple es x1 pos) (lE K (dTup da)) := peOf (pe_tup h) fun σ H Q ⟨B, δ, S, k, s, r, h, q⟩ =>
  ⟨B, δ, S, _, s, r, h, fun xs S1 vs B1 H1 ⟨hl, h1⟩ e1 r1 d1 => ⟨sz_of (by rw [d1.length]; exact hl), fun p hp => q _ S1 _ _ _ h1 (e1.trans (r1.new hp).2) (r1.new hp).1 (.tup (st_of upd_same) (d1.mono (r1.new hp).2))⟩⟩
def dLst (da : DA) : DE := fun δ S k => da δ S fun xs S1 => xs.length ≤ 100000 ∧ k (.list xs) S1
theorem de_lst {es : List Expr} {da : DA} {pos} (h : PA X es (lA K da)) : PE X (.List es pos) (lE K (dLst da)) := peOf (pe_lst h) fun σ H Q ⟨B, δ, S, k, s, r, h, q⟩ =>
  ⟨B, δ, S, _, s, r, h, fun xs S1 vs B1 H1 ⟨hl, h1⟩ e1 r1 d1 => ⟨sz_of (by rw [d1.length]; exact hl), fun p hp => q _ S1 _ _ _ h1 (e1.trans (r1.new hp).2) (r1.new hp).1 (.lst upd_same (d1.mono (r1.new hp).2))⟩⟩
/-- a list that will change -/
def dNew (da : DA) : DE := fun δ S k => da δ S fun xs S1 => xs.length ≤ 100000 ∧ ∀ p, S1 p = none → k (.ref p) (put S1 p (.lst xs))
theorem de_new {es : List Expr} {da : DA} {pos} (h : PA X es (lA K da)) : PE X (.List es pos) (lE K (dNew da)) := peOf (pe_lst h) fun σ H Q ⟨B, δ, S, k, s, r, h, q⟩ =>
  ⟨B, δ, S, _, s, r, h, fun xs S1 vs B1 H1 ⟨hl, h1⟩ e1 r1 d1 => ⟨sz_of (by rw [d1.length]; exact hl), fun p hp => q _ _ _ B1 _ (h1 p (r1.fresh hp).2) e1 (r1.newS hp (.lst d1)) (.ref p)⟩⟩
def dNewD : DE := fun _ S k => ∀ p, S p = none → k (.ref p) (put S p (.dct []))
theorem de_newD {pos} : PE X (.Dict [] [] pos) (lE K dNewD) := peOf pe_dnewK fun σ H Q ⟨B, δ, S, k, s, r, h, q⟩ => fun p hp => q _ _ _ B _ (h p (r.fresh hp).2) (Ex.refl B) (r.newS hp (.dct .nil)) (.ref p)
def dCall (f : SpD) (da : DA) : DE := fun δ S k => da δ S fun xs S1 => f xs S1 k fun _ _ _ => False
theorem l_call {f : SpD} {da : DA} (σ : L2.St) (H : Hp) (Q : VK) : lE K (dCall f da) σ H Q → tCall (lSp K f) [] E0 (lA K da) σ H Q := fun ⟨B, δ, S, k, s, r, h, q⟩ =>
  ⟨B, δ, S, _, s, r, h, fun xs S1 vs B1 H1 h1 e1 r1 d1 => ⟨B1, xs, S1, k, _, by rw [List.append_nil]; exact d1, r1, h1, fun x S' v B' H' hk e' => q x S' v B' H' hk (e1.trans e'), fun _ _ _ _ _ z => z.elim⟩⟩
/-- a def with its promise over data -/
abbrev DefD (P : Program) (w : World) (K : PySem.W.Frag) (mg : Str → Option Value) (base : Heap) (k : Nat) (x : Str) (ps : List Str) (f : SpD) : Prop := Def P w K mg base k x ps (lSp K f)
theorem de_call {k : Nat} {x : Str} {ps : List Str} {f : SpD} {p pos : Pos} {e : Expr} {es : List Expr} {da : DA} (h : Def X.prog X.w X.K X.mg X.base k x ps (lSp K f)) (hr : Room k X.A) (hg : Gl X x) (ha : PA X (e :: es) (lA K da))
    (hdb : (x == ("__debug__" : Str)) = false := by decide) (he : starEach (e :: es) X.env = (false, eval e X.env) :: starEach es X.env := by rfl) (hpl : (backTo pos (starEach es X.env)).any (·.1) = false := by rfl) :
    PE X (.Call (.Name x p) (e :: es) [] pos) (lE K (dCall f da)) := peOf (pe_def h hr hg ha hdb he hpl) l_call
theorem de_call0 {k : Nat} {x : Str} {ps : List Str} {f : SpD} {p pos : Pos} (h : Def X.prog X.w X.K X.mg X.base k x ps (lSp K f)) (hr : Room k X.A) (hg : Gl X x) (hdb : (x == ("__debug__" : Str)) = false := by decide) : PE X (.Call (.Name x p) [] [] pos) (lE K (dCall f dNil)) :=
  peOf (pe_def0 h hr hg hdb) fun σ H Q ⟨B, δ, S, k, s, r, h, q⟩ => ⟨B, [], S, k, _, .nil, r, h, q, fun _ _ _ _ _ z => z.elim⟩
/-! calls of built-ins -/
def SimC (K : PySem.W.Frag) (r : List V → Hp → VK → Prop) (rd : List D → Sto → DK → Prop) : Prop := ∀ (B : Hp) (S : Sto) (H : Hp) (vs : List V) (xs : List D) (k : DK) (Q : VK), R K B S H → RdL K B vs xs → rd xs S k →
  (∀ z S' u B' H', k z S' → Ex B B' → R K B' S' H' → RdD K B' u z → Q u H') → r vs H Q
def dCB (rd : List D → Sto → DK → Prop) (da : DA) : DE := fun δ S k => da δ S fun xs S1 => rd xs S1 k
theorem l_cb {r : List V → Hp → VK → Prop} {rd : List D → Sto → DK → Prop} {da : DA} (hs : SimC K r rd) (σ : L2.St) (H : Hp) (Q : VK) : lE K (dCB rd da) σ H Q → tCB r (lA K da) σ H Q := fun ⟨B, δ, S, k, s, r, h, q⟩ =>
  ⟨B, δ, S, _, s, r, h, fun xs S1 vs B1 H1 h1 e1 r1 d1 => hs B1 S1 H1 vs xs k Q r1 d1 h1 fun z S' u B' H' hk e' r' d' => q z S' u B' H' hk (e1.trans e') r' d'⟩
theorem de_callB {id : String} {x : Str} {p pos : Pos} {e : Expr} {es : List Expr} {da : DA} {r : List V → Hp → VK → Prop} {rd : List D → Sto → DK → Prop} (hc : CallR X (.builtin id) r) (hs : SimC K r rd) (hg : Gl X x) (hm : X.mg x = none) (hv : bootBuiltins x = some (.builtin id)) (ha : PA X (e :: es) (lA K da)) (hn : x ≠ "__name__" := by decide) (hdb : (x == ("__debug__" : Str)) = false := by decide)
    (he : starEach (e :: es) X.env = (false, eval e X.env) :: starEach es X.env := by rfl) (hpl : (backTo pos (starEach es X.env)).any (·.1) = false := by rfl) : PE X (.Call (.Name x p) (e :: es) [] pos) (lE K (dCB rd da)) := peOf (pe_callB hc hg hm hv ha hn hdb he hpl) (l_cb hs)
theorem de_callTy {T : String} {x : Str} {p pos : Pos} {e : Expr} {es : List Expr} {da : DA} {r : List V → Hp → VK → Prop} {rd : List D → Sto → DK → Prop} (hc : CallR X (.type T) r) (hs : SimC K r rd) (hg : Gl X x) (hm : X.mg x = none) (hv : bootBuiltins x = some (.type T)) (ha : PA X (e :: es) (lA K da)) (hn : x ≠ "__name__" := by decide) (hdb : (x == ("__debug__" : Str)) = false := by decide)
    (he : starEach (e :: es) X.env = (false, eval e X.env) :: starEach es X.env := by rfl) (hpl : (backTo pos (starEach es X.env)).any (·.1) = false := by rfl) : PE X (.Call (.Name x p) (e :: es) [] pos) (lE K (dCB rd da)) := peOf (pe_callTy hc hg hm hv ha hn hdb he hpl) (l_cb hs)
end
end DL

set_option Elab.async false
set_option linter.all false
set_option maxRecDepth 100000
namespace DL
open PySem L2 Evl EX
/-! ### statements -/
section
variable {X : Cx} {K : PySem.W.Frag} {W : WXD} {st : Stmt} {rest : List Stmt} {d e : DS} {pos : Pos}
def dNext : DS := fun D δ S => D.nx δ S
def dSeq (d e : DS) : DS := fun D δ S => d { D with nx := e D } δ S
def dCut (d e : DS) : DS := fun D δ S => ∃ M : Dst → Sto → Prop, d { D with nx := M } δ S ∧ ∀ δ' S', M δ' S' → e D δ' S'
theorem dss_nil : PSs X [] (lS K W dNext) := pssOf pss_nil fun E σ H ⟨B, δ, S, D, s, r, h, l⟩ => l.nx δ S σ B H h (Ex.refl B) s r
theorem dss_one (h : PS X st (lS K W d)) : PSs X [st] (lS K W d) := pssOf (pss_one h) fun E σ H h => h
theorem dss_cons (h1 : PS X st (lS K W d)) (h2 : PSs X rest (lS K W e)) : PSs X (st :: rest) (lS K W (dSeq d e)) := pssOf (pss_cons h1 h2) fun E σ H ⟨B, δ, S, D, s, r, h, l⟩ =>
  ⟨B, δ, S, _, s, r, h, fun δ1 S1 σ1 B1 H1 h1 e1 s1 r1 => ⟨B1, δ1, S1, D, s1, r1, h1, l.mono e1⟩, l.rt, l.bk, l.ct, l.xx⟩
theorem dss_cut (h1 : PS X st (lS K W d)) (h2 : PSs X rest (lS K W e)) : PSs X (st :: rest) (lS K W (dCut d e)) := pssOf (pss_cons h1 h2) fun E σ H ⟨B, δ, S, D, s, r, ⟨M, h, hm⟩, l⟩ =>
  ⟨B, δ, S, _, s, r, h, fun δ1 S1 σ1 B1 H1 h1 e1 s1 r1 => ⟨B1, δ1, S1, D, s1, r1, hm δ1 S1 h1, l.mono e1⟩, l.rt, l.bk, l.ct, l.xx⟩
def dDrop (de : DE) : DS := fun D δ S => de δ S fun _ S1 => D.nx δ S1
def dRet (de : DE) : DS := fun D δ S => de δ S D.rt
def dRetN : DS := fun D _ S => D.rt .non S
def dIfS (t : DT) (d e : DS) : DS := fun D δ S => t δ S fun b S1 => if b = true then d D δ S1 else e D δ S1
def dPass : DS := fun D δ S => D.nx δ S
def dBreak : DS := fun D δ S => D.bk δ S
def dCont : DS := fun D δ S => D.ct δ S
def dNever : DS := fun _ _ _ => False
variable {ex : Expr} {de : DE} {t : DT}
theorem ds_expr (h : PE X ex (lE K de)) (hs : swapsWith ex none pos.line X.env = pure false := by rfl) : PS X (.Expr ex pos) (lS K W (dDrop de)) := psOf (ps_expr h hs) fun E σ H ⟨B, δ, S, D, s, r, h, l⟩ =>
  ⟨B, δ, S, _, s, r, h, fun x S1 v B1 H1 h1 e1 r1 _ => l.nx δ S1 σ B1 H1 h1 e1 (s.mono e1) r1⟩
theorem ds_ret (h : PE X ex (lE K de)) : PS X (.Return (some ex) pos) (lS K W (dRet de)) := psOf (ps_ret h) fun E σ H ⟨B, δ, S, D, s, r, h, l⟩ => ⟨B, δ, S, _, s, r, h, l.rt⟩
theorem ds_retN : PS X (.Return none pos) (lS K W dRetN) := psOf ps_retN fun E σ H ⟨B, δ, S, D, s, r, h, l⟩ => l.rt _ S _ B H h (Ex.refl B) r .non
theorem ds_if {c : Expr} {a b : List Stmt} (hc : PT X c (lT K t)) (ha : PSs X a (lS K W d)) (hb : PSs X b (lS K W e)) : PS X (.If c a b pos) (lS K W (dIfS t d e)) := psOf (ps_if hc ha hb) fun E σ H ⟨B, δ, S, D, s, r, h, l⟩ =>
  ⟨B, δ, S, _, s, r, h, fun b S1 B1 H1 h1 e1 r1 => by
    cases b with
    | true => exact ⟨B1, δ, S1, D, s.mono e1, r1, h1, l.mono e1⟩
    | false => exact ⟨B1, δ, S1, D, s.mono e1, r1, h1, l.mono e1⟩⟩
theorem ds_never : PS X st (lS K W dNever) := psOf ps_never fun E σ H ⟨B, δ, S, D, s, r, h, l⟩ => h.elim
theorem ds_pass : PS X (.Pass pos) (lS K W dPass) := psOf ps_pass fun E σ H ⟨B, δ, S, D, s, r, h, l⟩ => l.nx δ S σ B H h (Ex.refl B) s r
theorem ds_break : PS X (.Break pos) (lS K W dBreak) := psOf ps_break fun E σ H ⟨B, δ, S, D, s, r, h, l⟩ => l.bk δ S σ B H h (Ex.refl B) s r
theorem ds_cont : PS X (.Continue pos) (lS K W dCont) := psOf ps_continue fun E σ H ⟨B, δ, S, D, s, r, h, l⟩ => l.ct δ S σ B H h (Ex.refl B) s r
/-! targets -/
abbrev DG := D → Dst → Sto → (Dst → Sto → Prop) → Prop
abbrev DGs := List D → Dst → Sto → (Dst → Sto → Prop) → Prop
def lG (K : PySem.W.Frag) (g : DG) : TG := fun v σ H Q => ∃ B δ S x k, Sl K B σ δ ∧ R K B S H ∧ RdD K B v x ∧ g x δ S k ∧ ∀ δ' S' σ' B' H', k δ' S' → Ex B B' → Sl K B' σ' δ' → R K B' S' H' → Q σ' H'
def lGs (K : PySem.W.Frag) (g : DGs) : TGs := fun v σ H Q => ∃ B δ S x k, Sl K B σ δ ∧ R K B S H ∧ RdL K B v x ∧ g x δ S k ∧ ∀ δ' S' σ' B' H', k δ' S' → Ex B B' → Sl K B' σ' δ' → R K B' S' H' → Q σ' H'
theorem pgsOf {tg : List Expr} {t u : TGs} (h : PGs X tg t) (k : ∀ v σ H Q, u v σ H Q → t v σ H Q) : PGs X tg u := by
  obtain ⟨r⟩ := h
  exact ⟨fun pins s σ H v w Q I rv q => r pins s σ H v w Q I rv (k v σ H Q q)⟩
def gN (i : Nat) : DG := fun x δ S k => k (δ.set i (some x)) S
theorem dg_name {i : Nat} {x : Str} (hN : X.N.Nodup) (hi : X.N[i]? = some x) (hx : Loc X.env.scope x) (hf : X.fn x = true ∨ X.env.scope.names.lookup x = some .local := by first | exact .inl rfl | exact .inr rfl | assumption) : PG X (.Name x pos) (lG K (gN i)) :=
  pgOf (pg_name hN hi hx hf) fun v σ H Q ⟨B, δ, S, x, k, s, r, rd, h, q⟩ => q _ S _ B H h (Ex.refl B) (s.set rd i) r
def gsNil : DGs := fun xs δ S k => match xs with
  | [] => k δ S
  | _ => False
def gsCons (g : DG) (gs : DGs) : DGs := fun xs δ S k => match xs with
  | x :: r => g x δ S fun δ' S' => gs r δ' S' k
  | [] => False
def gT (n : Nat) (gs : DGs) : DG := fun x δ S k => match x with
  | .tup ds => ds.length = n ∧ gs ds δ S k
  | _ => False
theorem dgs_nil : PGs X [] (lGs K gsNil) := pgsOf pgs_nil fun v σ H Q ⟨B, δ, S, x, k, s, r, rd, h, q⟩ => by
  unfold gsNil at h
  split at h
  · cases rd
    exact ⟨rfl, q δ S σ B H h (Ex.refl B) s r⟩
  · exact h.elim
theorem dgs_cons {e : Expr} {es : List Expr} {g : DG} {gs : DGs} (h1 : PG X e (lG K g)) (h2 : PGs X es (lGs K gs)) (hs : (assignEach (e :: es) X.env).map (·.2) = assign e X.env :: (assignEach es X.env).map (·.2) := by rfl) : PGs X (e :: es) (lGs K (gsCons g gs)) :=
  pgsOf (pgs_cons h1 h2 hs) fun v σ H Q ⟨B, δ, S, x, k, s, r, rd, h, q⟩ => by
    unfold gsCons at h
    split at h
    · rename_i d ds
      cases rd with
      | cons rd rds => exact ⟨_, _, rfl, B, δ, S, d, _, s, r, rd, h, fun δ1 S1 σ1 B1 H1 h1 e1 s1 r1 => ⟨B1, δ1, S1, ds, k, s1, r1, rds.mono e1, h1, fun δ' S' σ' B' H' hk e' => q δ' S' σ' B' H' hk (e1.trans e')⟩⟩
    · exact h.elim
theorem dg_tup {n : Nat} {es : List Expr} {k : Nat} {g : DGs} (hc : X.calm = true) (h : PGs X es (lGs K g)) (hn : (assignEach es X.env).length = n := by rfl) (hst : (assignEach es X.env).findIdx? (·.1) = none := by rfl) (hk : X.K = K := by rfl) : PG X (.Tuple es k pos) (lG K (gT n g)) :=
  pgOf (pg_tup hc h hn hst) fun v σ H Q ⟨B, δ, S, x, k, s, r, rd, hz, q⟩ => by
    unfold gT at hz
    split at hz
    · rename_i ds
      obtain ⟨a, xs, hv, hs, hl⟩ := rd_tup rd
      subst hk
      exact ⟨a, xs, hv, ex_t r.ex hs, by rw [hl.length]; exact hz.1, B, δ, S, ds, k, s, r, hl, hz.2, q⟩
    · exact hz.elim
def dAsg (de : DE) (g : DG) : DS := fun D δ S => de δ S fun x S1 => g x δ S1 D.nx
theorem ds_asg {tg : Expr} {g : DG} (h : PE X ex (lE K de)) (hg : PG X tg (lG K g)) (hs : swapsWithSole [tg] ex pos.line X.env = pure false := by rfl) (hw : swappedStores [tg] ex X.env = pure none := by rfl)
    (h1 : (assignEach [tg] X.env).map (·.2) = [assign tg X.env] := by rfl) : PS X (.Assign [tg] ex pos) (lS K W (dAsg de g)) := psOf (ps_asg h hg hs hw h1) fun E σ H ⟨B, δ, S, D, s, r, h, l⟩ =>
  ⟨B, δ, S, _, s, r, h, fun x S1 v B1 H1 h1 e1 r1 d1 => ⟨B1, δ, S1, x, _, s.mono e1, r1, d1, h1, fun δ' S' σ' B' H' hk e' s' r' => l.nx δ' S' σ' B' H' hk (e1.trans e') s' r'⟩⟩
def dSet (de : DE) (i : Nat) : DS := fun D δ S => de δ S fun x S1 => D.nx (δ.set i (some x)) S1
theorem ds_set {i : Nat} {x : Str} {pos' : Pos} (hN : X.N.Nodup) (hi : X.N[i]? = some x) (hx : Loc X.env.scope x) (h : PE X ex (lE K de)) (hs : swapsWith ex (some (.Name x pos')) pos.line X.env = pure false := by rfl) (hf : X.fn x = true ∨ X.env.scope.names.lookup x = some .local := by first | exact .inl rfl | exact .inr rfl | assumption) :
    PS X (.Assign [.Name x pos'] ex pos) (lS K W (dSet de i)) := psOf (ps_set hN hi hx h hs hf) fun E σ H ⟨B, δ, S, D, s, r, h, l⟩ =>
  ⟨B, δ, S, _, s, r, h, fun x S1 v B1 H1 h1 e1 r1 d1 => l.nx _ S1 _ B1 H1 h1 e1 ((s.mono e1).set d1 i) r1⟩
/-! what is walked -/
abbrev DI := Dst → Sto → (List D → Sto → Prop) → Prop
structure ItOk (K : PySem.W.Frag) (B : Hp) (J : It) (ds : List D) : Prop where
  go : ∀ i H, Ex B H → i < ds.length → J.go i H
  stop : ∀ i H, Ex B H → ds.length ≤ i → J.stop i H
  yld : ∀ i H x H' B1 S, Ex B B1 → R K B1 S H → i < ds.length → J.yld i H x H' → ∃ d B2, ds[i]? = some d ∧ Ex B1 B2 ∧ R K B2 S H' ∧ RdD K B2 x d
def lI (K : PySem.W.Frag) (di : DI) : TI := fun σ H Rr => ∃ B δ S k, Sl K B σ δ ∧ R K B S H ∧ di δ S k ∧ ∀ ds S' B' H' J, k ds S' → Ex B B' → R K B' S' H' → ItOk K B' J ds → Rr J H'
theorem piOf {tg it : Expr} {t u : TI} (h : PI X tg it t) (k : ∀ σ H Q, u σ H Q → t σ H Q) : PI X tg it u := ⟨fun pins s σ H Q I q => h.run pins s σ H Q I (k σ H Q q)⟩
section
variable {tg l : Expr} {da : DA}
theorem itok_list {B : Hp} {a : Addr} {xs : List V} {ds : List D} (h : SqL K B a xs) (r : RdL K B xs ds) : ItOk K B (Itl K a) ds := by
  refine ⟨fun i H e hi => ?_, fun i H e hi => ⟨xs, ex_l e h, by rw [r.length]; exact hi⟩, fun i H x H' B1 S e1 r1 hi hy => ?_⟩
  · have : i < xs.length := by rw [r.length]; exact hi
    exact ⟨xs, xs[i], ex_l e h, List.getElem?_eq_getElem this⟩
  · obtain ⟨rfl, hy⟩ := hy
    have hx := hy xs (ex_l (e1.trans r1.ex) h)
    obtain ⟨d, hd, rd⟩ := r.getV hx
    exact ⟨d, B1, hd, Ex.refl B1, r1, rd.mono e1⟩
theorem itok_tup {B : Hp} {a : Addr} {xs : List V} {ds : List D} (h : SqT K B a xs) (r : RdL K B xs ds) : ItOk K B (Itt K a) ds := by
  refine ⟨fun i H e hi => ?_, fun i H e hi => ⟨xs, ex_t e h, by rw [r.length]; exact hi⟩, fun i H x H' B1 S e1 r1 hi hy => ?_⟩
  · have : i < xs.length := by rw [r.length]; exact hi
    exact ⟨xs, xs[i], ex_t e h, List.getElem?_eq_getElem this⟩
  · obtain ⟨rfl, hy⟩ := hy
    have hx := hy xs (ex_t (e1.trans r1.ex) h)
    obtain ⟨d, hd, rd⟩ := r.getV hx
    exact ⟨d, B1, hd, Ex.refl B1, r1, rd.mono e1⟩
def diL (de : DE) : DI := fun δ S k => de δ S fun x S1 => match x with
  | .list ds => k ds S1
  | .scr ds => k ds S1
  | _ => False
theorem di_list (h : PE X l (lE K de)) (hk : X.K = K := by rfl) : PI X tg l (lI K (diL de)) := piOf (piL h hk) fun σ H Q ⟨B, δ, S, k, s, r, h, q⟩ =>
  ⟨B, δ, S, _, s, r, h, fun x S1 v B1 H1 h1 e1 r1 d1 => by
    split at h1
    · obtain ⟨a, xs, rfl, ha, rl⟩ := rd_list d1
      exact ⟨a, rfl, ⟨xs, sq_of (r1.ex _ _ ha)⟩, q _ S1 B1 H1 _ h1 e1 r1 (itok_list (sq_of ha) rl)⟩
    · obtain ⟨a, xs, rfl, ha, rl⟩ := rd_scr d1
      exact ⟨a, rfl, ⟨xs, ex_l r1.ex ha⟩, q _ S1 B1 H1 _ h1 e1 r1 (itok_list ha rl)⟩
    · exact h1.elim⟩
def diT (de : DE) : DI := fun δ S k => de δ S fun x S1 => match x with
  | .tup ds => k ds S1
  | _ => False
theorem di_tup (h : PE X l (lE K de)) (hk : X.K = K := by rfl) : PI X tg l (lI K (diT de)) := piOf (piT h hk) fun σ H Q ⟨B, δ, S, k, s, r, h, q⟩ =>
  ⟨B, δ, S, _, s, r, h, fun x S1 v B1 H1 h1 e1 r1 d1 => by
    split at h1
    · obtain ⟨a, xs, rfl, ha, rl⟩ := rd_tup d1
      exact ⟨a, rfl, ⟨xs, ex_t r1.ex ha⟩, q _ S1 B1 H1 _ h1 e1 r1 (itok_tup ha rl)⟩
    · exact h1.elim⟩
def rngD (lo : Int) (n : Nat) : List D := (List.range n).map fun (i : Nat) => .int (lo + (i : Int))
theorem rngD_len (lo : Int) (n : Nat) : (rngD lo n).length = n := by simp [rngD]
theorem rngD_get {lo : Int} {n i : Nat} {d : D} (h : (rngD lo n)[i]? = some d) : d = .int (lo + (i : Int)) ∧ i < n := by
  unfold rngD at h
  rw [List.getElem?_map] at h
  by_cases hi : i < n
  · rw [List.getElem?_range hi] at h
    cases h
    exact ⟨rfl, hi⟩
  · rw [List.getElem?_eq_none (by simpa using hi)] at h
    cases h
theorem itok_rng {B : Hp} (lo : Int) (n : Nat) : ItOk K B (Itr lo n) (rngD lo n) := by
  refine ⟨fun i H e hi => by rw [rngD_len] at hi; exact hi, fun i H e hi => by rw [rngD_len] at hi; exact hi, fun i H x H' B1 S e1 r1 hi hy => ?_⟩
  obtain ⟨rfl, rfl⟩ := hy
  rw [rngD_len] at hi
  exact ⟨.int (lo + i), B1, by unfold rngD; rw [List.getElem?_map, List.getElem?_range hi]; rfl, Ex.refl B1, r1, .int _⟩
def diR1 (da : DA) : DI := fun δ S k => da δ S fun xs S1 => match xs with
  | [.int j] => -(2 ^ 62) ≤ j ∧ j < 2 ^ 62 ∧ k (rngD 0 j.toNat) S1
  | _ => False
theorem di_range1 {a : Expr} {p pos : Pos} (hg : Gl X "range") (hm : X.mg "range" = none) (ha : PA X [a] (lA K da)) (hs : starEach [a] X.env = [(false, eval a X.env)] := by rfl) : PI X tg (.Call (.Name "range" p) [a] [] pos) (lI K (diR1 da)) :=
  piOf (pi_range1 hg hm ha hs) fun σ H Q ⟨B, δ, S, k, s, r, h, q⟩ => ⟨B, δ, S, _, s, r, h, fun xs S1 vs B1 H1 h1 e1 r1 d1 => by
    split at h1
    · rename_i j
      cases d1 with
      | cons d1 dr =>
        cases dr
        rw [rd_int d1]
        exact ⟨j, rfl, h1.1, h1.2.1, q _ S1 B1 H1 _ h1.2.2 e1 r1 (itok_rng 0 _)⟩
    · exact h1.elim⟩
def diR2 (da : DA) : DI := fun δ S k => da δ S fun xs S1 => match xs with
  | [.int i, .int j] => (-(2 ^ 62) ≤ i ∧ i < 2 ^ 62 ∧ -(2 ^ 62) ≤ j ∧ j < 2 ^ 62) ∧ k (rngD i (j - i).toNat) S1
  | _ => False
theorem di_range2 {a b : Expr} {p pos : Pos} (hg : Gl X "range") (hm : X.mg "range" = none) (ha : PA X [a, b] (lA K da)) (hs : starEach [a, b] X.env = [(false, eval a X.env), (false, eval b X.env)] := by rfl) (hs2 : starEach [b] X.env = [(false, eval b X.env)] := by rfl) : PI X tg (.Call (.Name "range" p) [a, b] [] pos) (lI K (diR2 da)) :=
  piOf (pi_range2 hg hm ha hs hs2) fun σ H Q ⟨B, δ, S, k, s, r, h, q⟩ => ⟨B, δ, S, _, s, r, h, fun xs S1 vs B1 H1 h1 e1 r1 d1 => by
    split at h1
    · rename_i i j
      cases d1 with
      | cons d1 dr =>
        cases dr with
        | cons d2 dr =>
          cases dr
          rw [rd_int d1, rd_int d2]
          exact ⟨i, j, rfl, h1.1, q _ S1 B1 H1 _ h1.2 e1 r1 (itok_rng i _)⟩
    · exact h1.elim⟩
def diStr (de : DE) : DI := fun δ S k => de δ S fun x S1 => match x with
  | .str z => k (z.cps.toList.map fun c => .str ⟨#[c]⟩) S1
  | _ => False
theorem di_str (h : PE X l (lE K de)) : PI X tg l (lI K (diStr de)) := piOf (pi_str h) fun σ H Q ⟨B, δ, S, k, s, r, h, q⟩ =>
  ⟨B, δ, S, _, s, r, h, fun x S1 v B1 H1 h1 e1 r1 d1 => by
    split at h1
    · rename_i z
      refine ⟨z, rd_str d1, q _ S1 B1 H1 _ h1 e1 r1 ⟨fun i H e hi => by show i < z.cps.size; simpa using hi, fun i H e hi => by show z.cps.size ≤ i; simpa using hi, fun i H x H' B1 S e1 r1 hi hy => ?_⟩⟩
      obtain ⟨rfl, c, hc, rfl⟩ := hy
      have hc' : z.cps.toList[i]? = some c := by rw [Array.getElem?_toList]; exact hc
      exact ⟨_, B1, by rw [List.getElem?_map, hc']; rfl, Ex.refl B1, r1, .str _⟩
    · exact h1.elim⟩
def enumD (ds : List D) : List D := (List.range ds.length).map fun (i : Nat) => .tup [.int (i : Int), ds.getD i .non]
theorem enumD_len (ds : List D) : (enumD ds).length = ds.length := by simp [enumD]
theorem enumD_get {ds : List D} {i : Nat} {x : D} (h : ds[i]? = some x) : (enumD ds)[i]? = some (.tup [.int i, x]) := by
  have hi := (List.getElem?_eq_some_iff.mp h).1
  unfold enumD
  rw [List.getElem?_map, List.getElem?_range hi]
  show some (D.tup [.int i, ds.getD i .non]) = _
  rw [getD_of h]
def diEnum (da : DA) : DI := fun δ S k => da δ S fun xs S1 => match xs with
  | [.list ds] => k (enumD ds) S1
  | [.scr ds] => k (enumD ds) S1
  | _ => False
theorem itok_enum {B : Hp} {a : Addr} {xs : List V} {ds : List D} (h : SqL K B a xs) (r : RdL K B xs ds) : ItOk K B (Ite K a) (enumD ds) := by
  refine ⟨fun i H e hi => ?_, fun i H e hi => ⟨xs, ex_l e h, by rw [enumD_len] at hi; rw [r.length]; exact hi⟩, fun i H x H' B1 S e1 r1 hi hy => ?_⟩
  · rw [enumD_len] at hi
    have : i < xs.length := by rw [r.length]; exact hi
    exact ⟨xs, xs[i], ex_l e h, List.getElem?_eq_getElem this⟩
  · obtain ⟨T, y, rfl, nT, rfl, hy⟩ := hy
    have hx := hy xs (ex_l (e1.trans r1.ex) h)
    obtain ⟨d, hd, rd⟩ := r.getV hx
    have n := r1.new (o := .tup [.int (i : Nat), y]) nT
    exact ⟨_, _, enumD_get hd, n.2, n.1, .tup (st_of upd_same) (.cons (.int _) (.cons (rd.mono (e1.trans n.2)) .nil))⟩
theorem di_enum {e : Expr} {p pos tpos : Pos} {elts : List Expr} {kk : Nat} (hg : Gl X "enumerate") (hm : X.mg "enumerate" = none) (ha : PA X [e] (lA K da)) (hs : starEach [e] X.env = [(false, eval e X.env)] := by rfl) (hk : X.K = K := by rfl) :
    PI X (.Tuple elts kk tpos) (.Call (.Name "enumerate" p) [e] [] pos) (lI K (diEnum da)) := piOf (piEnum hg hm ha hs hk) fun σ H Q ⟨B, δ, S, k, s, r, h, q⟩ =>
  ⟨B, δ, S, _, s, r, h, fun xs S1 vs B1 H1 h1 e1 r1 d1 => by
    split at h1
    · rename_i ds
      cases d1 with
      | cons d1 dr =>
        cases dr
        obtain ⟨a, xs, rfl, ha, rl⟩ := rd_list d1
        exact ⟨a, xs, rfl, sq_of (r1.ex _ _ ha), q _ S1 B1 H1 _ h1 e1 r1 (itok_enum (sq_of ha) rl)⟩
    · rename_i ds
      cases d1 with
      | cons d1 dr =>
        cases dr
        obtain ⟨a, xs, rfl, ha, rl⟩ := rd_scr d1
        exact ⟨a, xs, rfl, ex_l r1.ex ha, q _ S1 B1 H1 _ h1 e1 r1 (itok_enum ha rl)⟩
    · exact h1.elim⟩
end
/-! loops -/
def dFor (di : DI) (g : DG) (b : DS) : DS := fun D δ S => di δ S fun ds S1 => ∃ I : Nat → Dst → Sto → Prop, I 0 δ S1 ∧
  (∀ n d δ' S', ds[n]? = some d → I n δ' S' → g d δ' S' fun δ2 S2 => b { D with nx := I (n + 1), ct := I (n + 1), bk := D.nx } δ2 S2) ∧ ∀ δ' S', I ds.length δ' S' → D.nx δ' S'
theorem ds_for {iter tg : Expr} {body : List Stmt} {di : DI} {g : DG} (hp : PassesOwn (model X.prog X.w) X.A X.env X.xe) (hc : X.calm = true) (hi : PI X tg iter (lI K di)) (hg : PG X tg (lG K g)) (hb : PSs X body (lS K W d)) (hs : ∀ x, foldedSetIterable iter X.env x = pure x := by intro _; rfl)
    : PS X (.For tg iter body [] pos) (lS K W (dFor di g d)) := psOf (ps_for hp hc hi hg hb hs) fun E σ H ⟨B, δ, S, D, s, r, h, l⟩ =>
  ⟨B, δ, S, _, s, r, h, fun ds S1 B1 H1 J ⟨I, h0, hs, hd⟩ e1 r1 it => by
    refine ⟨fun i m σ' H' => m = ds.length - i ∧ i ≤ ds.length ∧ ∃ B2 δ2 S2, Ex B1 B2 ∧ Sl K B2 σ' δ2 ∧ R K B2 S2 H' ∧ I i δ2 S2, ⟨ds.length, rfl, Nat.zero_le _, B1, δ, S1, Ex.refl B1, s.mono e1, r1, h0⟩, ?_⟩
    rintro i m σ' H' ⟨rfl, hi, B2, δ2, S2, e2, s2, r2, hI⟩
    by_cases hlt : i < ds.length
    · refine .inr ⟨it.go i H' (e2.trans r2.ex) hlt, fun σ3 H3 => ∃ B3 δ3 S3, Ex B1 B3 ∧ Sl K B3 σ3 δ3 ∧ R K B3 S3 H3 ∧ I (i + 1) δ3 S3, fun σ3 H3 hn => ⟨ds.length - (i + 1), by omega, rfl, by omega, hn⟩, fun x H3 hy => ?_⟩
      obtain ⟨d', B3, hd', e3, r3, rd⟩ := it.yld i H' x H3 B2 S2 e2 r2 hlt hy
      refine ⟨B3, δ2, S2, d', _, s2.mono e3, r3, rd, hs i d' δ2 S2 hd' hI, fun δ4 S4 σ4 B4 H4 h4 e4 s4 r4 => ⟨B4, δ4, S4, _, s4, r4, h4, ?_⟩⟩
      have e14 : Ex B1 B4 := e2.trans (e3.trans e4)
      exact ⟨fun δ5 S5 σ5 B5 H5 h5 e5 s5 r5 => ⟨B5, δ5, S5, e14.trans e5, s5, r5, h5⟩, fun x S v B' H' hk e' => l.rt x S v B' H' hk (e1.trans (e14.trans e')), fun δ5 S5 σ5 B5 H5 h5 e5 s5 r5 => l.nx δ5 S5 σ5 B5 H5 h5 (e1.trans (e14.trans e5)) s5 r5,
        fun δ5 S5 σ5 B5 H5 h5 e5 s5 r5 => ⟨B5, δ5, S5, e14.trans e5, s5, r5, h5⟩, fun c od δ5 S5 σ5 B5 H5 h5 e5 => l.xx c od δ5 S5 σ5 B5 H5 h5 (e1.trans (e14.trans e5))⟩
    · have ei : i = ds.length := by omega
      subst ei
      exact .inl ⟨it.stop _ H' (e2.trans r2.ex) (Nat.le_refl _), l.nx δ2 S2 σ' B2 H' (hd δ2 S2 hI) (e1.trans e2) s2 r2⟩⟩
def dWhile (t : DT) (b : DS) : DS := fun D δ S => ∃ W : Nat → Dst → Sto → Prop, (∃ m, W m δ S) ∧ ∀ m δ' S', W m δ' S' → t δ' S' fun c S1 => if c = true then b { D with nx := fun δ2 S2 => ∃ m', m' < m ∧ W m' δ2 S2, ct := fun δ2 S2 => ∃ m', m' < m ∧ W m' δ2 S2, bk := D.nx } δ' S1 else D.nx δ' S1
theorem ds_while {c : Expr} {body : List Stmt} (hp : PassesOwn (model X.prog X.w) X.A X.env X.xe) (hc : PT X c (lT K t)) (hb : PSs X body (lS K W d)) : PS X (.While c body [] pos) (lS K W (dWhile t d)) := psOf (ps_while hp hc hb) fun E σ H ⟨B, δ, S, D, s, r, ⟨Wm, ⟨m0, w0⟩, h⟩, l⟩ => by
  refine ⟨fun m σ' H' => ∃ B2 δ2 S2, Ex B B2 ∧ Sl K B2 σ' δ2 ∧ R K B2 S2 H' ∧ Wm m δ2 S2, ⟨m0, B, δ, S, Ex.refl B, s, r, w0⟩, ?_⟩
  rintro m σ' H' ⟨B2, δ2, S2, e2, s2, r2, hW⟩
  refine ⟨B2, δ2, S2, _, s2, r2, h m δ2 S2 hW, fun c S3 B3 H3 h3 e3 r3 => ?_⟩
  cases c with
  | true =>
    refine ⟨fun σ4 H4 => ∃ m', m' < m ∧ ∃ B2 δ2 S2, Ex B B2 ∧ Sl K B2 σ4 δ2 ∧ R K B2 S2 H4 ∧ Wm m' δ2 S2, fun σ4 H4 h4 => h4, B3, δ2, S3, _, s2.mono e3, r3, h3, ?_⟩
    have e13 := e2.trans e3
    exact ⟨fun δ5 S5 σ5 B5 H5 ⟨m', hm, h5⟩ e5 s5 r5 => ⟨m', hm, B5, δ5, S5, e13.trans e5, s5, r5, h5⟩, fun x S v B' H' hk e' => l.rt x S v B' H' hk (e13.trans e'), fun δ5 S5 σ5 B5 H5 h5 e5 s5 r5 => l.nx δ5 S5 σ5 B5 H5 h5 (e13.trans e5) s5 r5,
      fun δ5 S5 σ5 B5 H5 ⟨m', hm, h5⟩ e5 s5 r5 => ⟨m', hm, B5, δ5, S5, e13.trans e5, s5, r5, h5⟩, fun c od δ5 S5 σ5 B5 H5 h5 e5 => l.xx c od δ5 S5 σ5 B5 H5 h5 (e13.trans e5)⟩
  | false => exact l.nx δ2 S3 σ' B3 H3 h3 (e2.trans e3) (s2.mono e3) r3
end
/-! ### a def -/
def startD (N : List Str) (ds : List D) : Dst := ds.map some ++ List.replicate (N.length - ds.length) none
theorem sl_start {K : PySem.W.Frag} {B : Hp} {N : List Str} {vs : List V} {ds : List D} (h : RdL K B vs ds) : Sl K B (L2.start N vs) (startD N ds) := by
  have hl := h.length
  refine ⟨by simp [L2.start, startD, hl], fun i d e => ?_⟩
  unfold startD at e
  by_cases hi : i < ds.length
  · rw [List.getElem?_append_left (by simpa using hi), List.getElem?_map] at e
    obtain ⟨d', h1, h2⟩ := Option.map_eq_some_iff.mp e
    cases h2
    obtain ⟨v, hv, rd⟩ := h.get h1
    refine ⟨v, ?_, rd⟩
    unfold L2.start
    rw [List.getElem?_append_left (by rw [List.length_map]; omega), List.getElem?_map, hv]
    rfl
  · rw [List.getElem?_append_right (by simpa using hi)] at e
    have := List.mem_of_getElem? e
    simp at this
section
variable {P : Program} {w : World} {K : PySem.W.Frag} {mg : Str → Option Value} {base : Heap}
theorem dok {x qual : Str} {st : Stmt} {f : Addr} {fd : FuncData} {N ps : List Str} {k : Nat} {sp : SpD} (F : Fun K x qual st f fd) (Sc : FnScope N ps (defScope st)) (len : ∀ ds S q qx, sp ds S q qx → ds.length = ps.length)
    (h : ∃ d : DS, (∀ (cdv : Value) (A : Around) (outer : List Env) (s : Shared) (H : Hp) (E : XK), Room k (A.deeper (PyProof.Rows.envOfC qual (defScope st) s.heap.objs.size f cdv)) → PSs (cxOf CX0 P w K mg base N qual (defScope st) f cdv A outer s H E).nox (defBody st) (lS K (fun _ _ _ _ => False) d)) ∧
      ∀ ds S q qx, sp ds S q qx → d { nx := fun _ S' => q .non S', rt := q } (startD N ds) S) : FnOk P w K mg base CX0 (k + 1) f fd ps (lSp K sp) := by
  obtain ⟨d, hd, hs⟩ := h
  refine F.ok Sc (fun vs H Q E ⟨B, ds, S, q, qx, rd, r, h, _⟩ => by rw [rd.length]; exact len ds S q qx h) (fun cdv A outer s H vs Q E hr ⟨B, ds, S, q, qx, rd, r, h, hq, _⟩ => ?_)
  refine ⟨_, hd cdv A outer s H E hr, B, startD N ds, S, _, sl_start rd, r, hs ds S q qx h, ?_⟩
  exact ⟨fun δ S' σ B' H' hk e' _ r' => hq .non S' .non B' H' hk e' r' .non, fun x S' v B' H' hk e' r' rd' => hq x S' v B' H' hk e' r' rd', fun _ _ _ _ _ z => z.elim, fun _ _ _ _ _ z => z.elim, fun _ _ _ _ _ _ _ z => z.elim⟩
end
end DL

set_option Elab.async false
set_option linter.all false
set_option maxRecDepth 100000
namespace DL
open PySem L2 Evl EX
/-! ### comprehensions -/
def wipeD (δ : Dst) : List Nat → Dst
  | [] => δ
  | v :: vs => (wipeD δ vs).set v none
theorem wipe_at (σ : L2.St) (i : Nat) : ∀ vs : List Nat, (wipe σ vs)[i]? = if i ∈ vs ∧ i < σ.length then some none else σ[i]?
  | [] => by simp [wipe]
  | v :: vs => by
    unfold wipe
    by_cases h : v = i
    · subst h
      by_cases hl : v < σ.length
      · rw [List.getElem?_set_self (by rw [wipe_length]; exact hl), if_pos ⟨List.mem_cons_self, hl⟩]
      · rw [List.getElem?_eq_none (by rw [List.length_set, wipe_length]; omega), if_neg (fun z => hl z.2), List.getElem?_eq_none (by omega)]
    · rw [List.getElem?_set_ne h, wipe_at σ i vs]
      have : (i ∈ v :: vs) ↔ i ∈ vs := by simp [List.mem_cons, Ne.symm h]
      simp [this]
theorem wipe_same {σ τ : L2.St} {vs : List Nat} (hl : σ.length = τ.length) (h : ∀ i, i ∉ vs → σ[i]? = τ[i]?) : wipe σ vs = wipe τ vs := by
  apply List.ext_getElem?
  intro i
  rw [wipe_at, wipe_at, hl]
  by_cases hi : i ∈ vs
  · by_cases h2 : i < τ.length
    · rw [if_pos ⟨hi, h2⟩, if_pos ⟨hi, h2⟩]
    · rw [if_neg (fun z => h2 z.2), if_neg (fun z => h2 z.2), List.getElem?_eq_none (by omega), List.getElem?_eq_none (by omega)]
  · rw [if_neg (fun z => hi z.1), if_neg (fun z => hi z.1)]
    exact h i hi
theorem Sl.setN {K : PySem.W.Frag} {B : Hp} {σ : L2.St} {δ : Dst} (s : Sl K B σ δ) (j : Nat) : Sl K B (σ.set j none) (δ.set j none) := by
  refine ⟨by simp [s.len], fun i d e => ?_⟩
  by_cases h : j = i
  · subst h
    by_cases hl : j < δ.length
    · rw [List.getElem?_set_self hl] at e; cases e
    · rw [List.getElem?_eq_none (by simpa using hl)] at e; cases e
  · rw [List.getElem?_set_ne h] at e ⊢
    exact s.at_ i d e
theorem Sl.wipe {K : PySem.W.Frag} {B : Hp} {σ : L2.St} {δ : Dst} (s : Sl K B σ δ) : ∀ vs, Sl K B (L2.wipe σ vs) (wipeD δ vs)
  | [] => s
  | v :: vs => (Sl.wipe s vs).setN v
abbrev DGc := D → Dst → (Dst → Prop) → Prop
/-- a comprehension's target: it sets slots of its own alone -/
def GcOk (K : PySem.W.Frag) (vs : List Nat) (g : TG) (gd : DGc) : Prop := ∀ (B H : Hp) (σ : L2.St) (δ : Dst) (v : V) (d : D) (k : Dst → Prop) (Q : L2.St → Hp → Prop), Sl K B (wipe σ vs) δ → Ex B H → RdD K B v d → gd d δ k →
  (∀ σ2 δ2, k δ2 → Sl K B σ2 δ2 → wipe σ2 vs = wipe σ vs → Q σ2 H) → g v (wipe σ vs) H Q
def gcN (j : Nat) : DGc := fun d δ k => k (δ.set j (some d))
theorem gc_name {K : PySem.W.Frag} {vs : List Nat} {j : Nat} (hj : j ∈ vs) : GcOk K vs (gName j) (gcN j) := fun B H σ δ v d k Q s e rd h q => by
  refine q _ _ h (s.set rd j) (wipe_same (by rw [List.length_set, wipe_length]) fun i hi => ?_)
  rw [List.getElem?_set_ne (show j ≠ i from fun z => hi (z ▸ hj)), wipe_at, if_neg (fun z => hi z.1)]
def gNames : List Nat → TGs
  | [] => gNil
  | j :: js => gCons (gName j) (gNames js)
def setV (σ : L2.St) : List Nat → List V → L2.St
  | j :: js, v :: vs => setV (σ.set j (some v)) js vs
  | _, _ => σ
def setD (δ : Dst) : List Nat → List D → Dst
  | j :: js, d :: ds => setD (δ.set j (some d)) js ds
  | _, _ => δ
theorem gNames_of {H : Hp} {Q : L2.St → Hp → Prop} : ∀ {js : List Nat} {vs : List V} {σ : L2.St}, vs.length = js.length → Q (setV σ js vs) H → gNames js vs σ H Q
  | [], [], _, _, q => ⟨rfl, q⟩
  | j :: js, v :: vs, σ, hl, q => ⟨v, vs, rfl, gNames_of (js := js) (by simpa using hl) q⟩
  | [], _ :: _, _, hl, _ => by simp at hl
  | _ :: _, [], _, hl, _ => by simp at hl
theorem sl_setV {K : PySem.W.Frag} {B : Hp} : ∀ {js : List Nat} {vs : List V} {ds : List D} {σ : L2.St} {δ : Dst}, Sl K B σ δ → RdL K B vs ds → Sl K B (setV σ js vs) (setD δ js ds)
  | [], _, _, _, _, s, r => by cases r <;> exact s
  | j :: js, _, _, _, _, s, .nil => s
  | j :: js, _, _, _, _, s, .cons h r => sl_setV (js := js) (s.set h j) r
theorem setV_len : ∀ (js : List Nat) (vs : List V) (σ : L2.St), (setV σ js vs).length = σ.length
  | [], vs, σ => by cases vs <;> rfl
  | j :: js, [], σ => rfl
  | j :: js, v :: vs, σ => by
    show (setV (σ.set j (some v)) js vs).length = _
    rw [setV_len js vs, List.length_set]
theorem setV_at : ∀ (js : List Nat) (vs : List V) (σ : L2.St) {i : Nat}, i ∉ js → (setV σ js vs)[i]? = σ[i]?
  | [], vs, σ, i, _ => by cases vs <;> rfl
  | j :: js, [], σ, i, _ => rfl
  | j :: js, v :: vs, σ, i, h => by
    show (setV (σ.set j (some v)) js vs)[i]? = _
    rw [setV_at js vs _ (fun z => h (List.mem_cons_of_mem _ z)), List.getElem?_set_ne (show j ≠ i from fun z => h (z ▸ List.mem_cons_self))]
def gcT (js : List Nat) : DGc := fun d δ k => match d with
  | .tup ds => ds.length = js.length ∧ k (setD δ js ds)
  | _ => False
theorem gc_tup {K : PySem.W.Frag} {vs js : List Nat} (hj : ∀ j ∈ js, j ∈ vs) : GcOk K vs (gTup K js.length (gNames js)) (gcT js) := fun B H σ δ v d k Q s e rd h q => by
  unfold gcT at h
  split at h
  · rename_i ds
    obtain ⟨a, xs, rfl, hs, hl⟩ := rd_tup rd
    refine ⟨a, xs, rfl, ex_t e hs, by rw [hl.length]; exact h.1, gNames_of (by rw [hl.length]; exact h.1) (q _ _ h.2 (sl_setV s hl) (wipe_same (by rw [setV_len, wipe_length]) fun i hi => ?_))⟩
    rw [setV_at js xs _ (fun z => hi (hj i z)), wipe_at, if_neg (fun z => hi z.1)]
  · exact h.elim
def dLc (di : DI) (g : DGc) (t : DT) (de : DE) (vs : List Nat) : DE := fun δ S k => di δ S fun ds S1 => ds.length < 100000 ∧ ∀ p, S1 p = none → ∃ I : Nat → List D → Sto → Prop, I 0 [] S1 ∧
  (∀ n d acc S', ds[n]? = some d → S' p = none → I n acc S' → g d (wipeD δ vs) fun δ2 => t δ2 (put S' p (.lst acc)) fun b S2 => if b = true then de δ2 S2 (fun y S3 => ∃ S4, S4 p = none ∧ S3 = put S4 p (.lst acc) ∧ I (n + 1) (acc ++ [y]) S4) else ∃ S4, S4 p = none ∧ S2 = put S4 p (.lst acc) ∧ I (n + 1) acc S4) ∧
  ∀ acc S', S' p = none → I ds.length acc S' → k (.list acc) S'
def dYes : DT := fun _ S k => k true S
section
variable {X : Cx} {K : PySem.W.Frag} {W : WXD}
theorem ptsOf {es : List Expr} {t u : TT} (h : PTs X es t) (k : ∀ σ H Q, u σ H Q → t σ H Q) : PTs X es u := ⟨fun pins s σ H Q I q => h.run pins s σ H Q I (k σ H Q q)⟩
theorem dts_nil : PTs X [] (lT K dYes) := ptsOf pts_nil fun σ H Q ⟨B, δ, S, k, s, r, h, q⟩ => q true S B H h (Ex.refl B) r
theorem dts_one {c : Expr} {t : DT} (h : PT X c (lT K t)) : PTs X [c] (lT K t) := pts_one h
theorem l_lc {di : DI} {g : TG} {gd : DGc} {t : DT} {de : DE} {vs : List Nat} (hg : GcOk K vs g gd) (σ : L2.St) (H : Hp) (Q : VK) : lE K (dLc di gd t de vs) σ H Q → tLc (lI K di) g (lT K t) (lE K de) vs σ H Q := fun ⟨B, δ, S, k, s, r, h, q⟩ =>
  ⟨B, δ, S, _, s, r, h, fun ds S1 B1 H1 J ⟨hlen, hp⟩ e1 r1 it => fun Dl hD => by
    have fr := (r1.fresh hD).2
    obtain ⟨I, h0, hs, hd⟩ := hp Dl fr
    refine ⟨fun i m H' => m = ds.length - i ∧ i ≤ ds.length ∧ ∃ B2 S2 acc, acc.length ≤ i ∧ S2 Dl = none ∧ Ex B1 B2 ∧ R K B2 (put S2 Dl (.lst acc)) H' ∧ I i acc S2, ⟨ds.length, rfl, Nat.zero_le _, B1, S1, [], Nat.le_refl _, fr, Ex.refl B1, r1.newS hD (.lst .nil), h0⟩, ?_⟩
    rintro i m H' ⟨rfl, hi, B2, S2, acc, hal, n2, e2, r2, hI⟩
    by_cases hlt : i < ds.length
    · refine .inr ⟨it.go i H' (e2.trans r2.ex) hlt, fun H3 => ∃ B3 S3 acc, acc.length ≤ i + 1 ∧ S3 Dl = none ∧ Ex B1 B3 ∧ R K B3 (put S3 Dl (.lst acc)) H3 ∧ I (i + 1) acc S3, fun H3 hn => ⟨ds.length - (i + 1), by omega, rfl, by omega, hn⟩, fun x H3 hy => ?_⟩
      obtain ⟨d, B3, hd', e3, r3, rd⟩ := it.yld i H' x H3 B2 _ e2 r2 hlt hy
      refine hg B3 H3 σ (wipeD δ vs) x d _ _ ((s.mono (e1.trans (e2.trans e3))).wipe vs) r3.ex rd (hs i d acc S2 hd' n2 hI) fun σ2 δ2 hk s2 hw => ⟨hw, ?_⟩
      refine ⟨B3, δ2, _, _, s2, r3, hk, fun b S4 B4 H4 h4 e4 r4 => ?_⟩
      have e14 : Ex B1 B4 := e2.trans (e3.trans e4)
      cases b with
      | false =>
        obtain ⟨S5, n5, rfl, hI5⟩ := h4
        exact ⟨B4, S5, acc, by omega, n5, e14, r4, hI5⟩
      | true =>
        refine ⟨B4, δ2, S4, _, s2.mono e4, r4, h4, fun y S5 v B5 H5 ⟨S6, n6, h6, hI6⟩ e5 r5 d5 => ?_⟩
        subst h6
        obtain ⟨xs, hx, rl⟩ := r5.lst put_same
        have r6 := r5.mut put_same (.lst (rl.append (.one d5)))
        rw [put_put] at r6
        exact ⟨xs, hx, sz_lt (by rw [rl.length]; omega), B5, S6, acc ++ [y], by simp; omega, n6, e14.trans e5, r6, hI6⟩
    · have ei : i = ds.length := by omega
      subst ei
      obtain ⟨B', e', r', rd⟩ := r2.freeze put_same
      rw [del_put n2] at r'
      exact .inl ⟨it.stop _ H' (e2.trans r2.ex) (Nat.le_refl _), q _ _ _ B' H' (hd acc S2 n2 hI) (e1.trans (e2.trans e')) r' rd⟩⟩
theorem de_lc {elt tg iter : Expr} {ifs : List Expr} {scope : Scope} {own : List (Str × Nat)} {pos : Pos} {di : DI} {g : TG} {gd : DGc} {t : DT} {de : DE} (hgc : GcOk K (own.map (·.2)) g gd) (hc : X.calm = true) (hN : X.N.Nodup) (hi : PI X tg iter (lI K di)) (ok : BlkOk X.N X.env.scope scope own)
    (hg : ∀ (s : Shared) (H : Hp) (C : Addr) (cl : List (Str × Addr)) (fp : List Addr), PG (X.blk s H scope (compEnvC scope cl C X.env) fp) tg g) (ht : ∀ (s : Shared) (H : Hp) (C : Addr) (cl : List (Str × Addr)) (fp : List Addr), PTs (X.blk s H scope (compEnvC scope cl C X.env) fp) ifs (lT K t))
    (he : ∀ (s : Shared) (H : Hp) (C : Addr) (cl : List (Str × Addr)) (fp : List Addr), PE (X.blk s H scope (compEnvC scope cl C X.env) fp) elt (lE K de)) (hs : ∀ x, foldedSetIterable iter X.env x = pure x := by intro _; rfl) :
    PE X (.ListComp elt [⟨tg, iter, ifs, 0⟩] scope pos) (lE K (dLc di gd t de (own.map (·.2)))) := peOf (pe_lc hc hN hi ok hg ht he hs) (l_lc hgc)
theorem ds_setLc {i : Nat} {y : Str} {py : Pos} {elt tg iter : Expr} {ifs : List Expr} {scope : Scope} {own : List (Str × Nat)} {pos spos : Pos} {di : DI} {g : TG} {gd : DGc} {t : DT} {de : DE} (hgc : GcOk K (own.map (·.2)) g gd) (hc : X.calm = true) (hN : X.N.Nodup) (hy : X.N[i]? = some y) (hyl : X.env.scope.names.lookup y = some .local)
    (hsw : swapsWith (.ListComp elt [⟨tg, iter, ifs, 0⟩] scope pos) (some (.Name y py)) spos.line X.env = pure true) (hi : PI X tg iter (lI K di)) (ok : BlkOk X.N X.env.scope scope own)
    (hg : ∀ (s : Shared) (H : Hp) (C : Addr) (cl : List (Str × Addr)) (fp : List Addr), PG (X.blk s H scope (compEnvC scope cl C X.env) fp) tg g) (ht : ∀ (s : Shared) (H : Hp) (C : Addr) (cl : List (Str × Addr)) (fp : List Addr), PTs (X.blk s H scope (compEnvC scope cl C X.env) fp) ifs (lT K t))
    (he : ∀ (s : Shared) (H : Hp) (C : Addr) (cl : List (Str × Addr)) (fp : List Addr), PE (X.blk s H scope (compEnvC scope cl C X.env) fp) elt (lE K de)) (hs : ∀ x, foldedSetIterable iter X.env x = pure x := by intro _; rfl) :
    PS X (.Assign [.Name y py] (.ListComp elt [⟨tg, iter, ifs, 0⟩] scope pos) spos) (lS K W (dSet (dLc di gd t de (own.map (·.2))) i)) := psOf (ps_setLc hc hN hy hyl hsw hi ok hg ht he hs) fun E σ H ⟨B, δ, S, D, s, r, h, l⟩ =>
  l_lc hgc σ H _ ⟨B, δ, S, _, s, r, h, fun x S1 v B1 H1 h1 e1 r1 d1 => l.nx _ S1 _ B1 H1 h1 e1 ((s.mono e1).set d1 i) r1⟩
end
/-- a comprehension that leaves the store: the list so far by what holds of it -/
def LcO (S : Sto) (p : Addr) (acc : List D) (Q : Prop) (S3 : Sto) : Prop := ∃ S4, S4 p = none ∧ S3 = put S4 p (.lst acc) ∧ S4 = S ∧ Q
theorem LcO.of {S : Sto} {p : Addr} {acc : List D} {Q : Prop} (hp : S p = none) (h : Q) : LcO S p acc Q (put S p (.lst acc)) := ⟨S, hp, rfl, rfl, h⟩
theorem lc_go {g : DGc} {t : DT} {de : DE} {vs : List Nat} {δ : Dst} {S : Sto} {k : DK} {ds : List D} (P : Nat → List D → Prop) (hl : ds.length < 100000) (h0 : P 0 [])
    (hs : ∀ p, S p = none → ∀ n d acc, ds[n]? = some d → P n acc → g d (wipeD δ vs) fun δ2 => t δ2 (put S p (.lst acc)) fun b S2 => if b = true then de δ2 S2 (fun y S3 => LcO S p acc (P (n + 1) (acc ++ [y])) S3) else LcO S p acc (P (n + 1) acc) S2) (hd : ∀ acc, P ds.length acc → k (.list acc) S) :
    ds.length < 100000 ∧ ∀ p, S p = none → ∃ I : Nat → List D → Sto → Prop, I 0 [] S ∧
  (∀ n d acc S', ds[n]? = some d → S' p = none → I n acc S' → g d (wipeD δ vs) fun δ2 => t δ2 (put S' p (.lst acc)) fun b S2 => if b = true then de δ2 S2 (fun y S3 => ∃ S4, S4 p = none ∧ S3 = put S4 p (.lst acc) ∧ I (n + 1) (acc ++ [y]) S4) else ∃ S4, S4 p = none ∧ S2 = put S4 p (.lst acc) ∧ I (n + 1) acc S4) ∧
  ∀ acc S', S' p = none → I ds.length acc S' → k (.list acc) S' := by
  refine ⟨hl, fun p hp => ⟨fun n acc S' => S' = S ∧ P n acc, ⟨rfl, h0⟩, ?_, ?_⟩⟩
  · rintro n d acc S' hd' _ ⟨rfl, hP⟩
    exact hs p hp n d acc hd' hP
  · rintro acc S' _ ⟨rfl, hP⟩
    exact hd acc hP
end DL

set_option Elab.async false
set_option linter.all false
set_option maxRecDepth 100000
namespace DL
open PySem L2 Evl EX
/-! ### operators -/
def oI (f : Int → Int → D) : DR2 := fun x y S k => match x, y with
  | .int i, .int j => k (f i j) S
  | _, _ => False
def oIc (C : Int → Int → Prop) (f : Int → Int → D) : DR2 := fun x y S k => match x, y with
  | .int i, .int j => C i j ∧ k (f i j) S
  | _, _ => False
def oS (f : Str → Str → D) : DR2 := fun x y S k => match x, y with
  | .str i, .str j => k (f i j) S
  | _, _ => False
section
variable {K : PySem.W.Frag}
theorem si_I {g : Int → Int → V} {f : Int → Int → D} (h : ∀ i j B, RdD K B (g i j) (f i j)) : Sim2 K (rI0 g) (oI f) := fun B S H v w x y k Q r rx ry h1 q => by
  unfold oI at h1
  split at h1
  · rename_i i j
    exact ⟨i, j, rd_int rx, rd_int ry, q _ S _ B H h1 (Ex.refl B) r (h i j B)⟩
  · exact h1.elim
theorem si_Ic {C : Int → Int → Prop} {g : Int → Int → V} {f : Int → Int → D} (h : ∀ i j B, RdD K B (g i j) (f i j)) : Sim2 K (rI C g) (oIc C f) := fun B S H v w x y k Q r rx ry h1 q => by
  unfold oIc at h1
  split at h1
  · rename_i i j
    exact ⟨i, j, rd_int rx, rd_int ry, h1.1, q _ S _ B H h1.2 (Ex.refl B) r (h i j B)⟩
  · exact h1.elim
theorem si_add : Sim2 K (rI0 fun i j => .int (i + j)) (oI fun i j => .int (i + j)) := si_I fun _ _ _ => .int _
theorem si_sub : Sim2 K (rI0 fun i j => .int (i - j)) (oI fun i j => .int (i - j)) := si_I fun _ _ _ => .int _
theorem si_mul : Sim2 K (rI CMul fun i j => .int (i * j)) (oIc CMul fun i j => .int (i * j)) := si_Ic fun _ _ _ => .int _
theorem si_fdiv : Sim2 K (rI CDiv fun i j => .int (i / j)) (oIc CDiv fun i j => .int (i / j)) := si_Ic fun _ _ _ => .int _
theorem si_mod : Sim2 K (rI (fun _ j => 0 < j) fun i j => .int (i % j)) (oIc (fun _ j => 0 < j) fun i j => .int (i % j)) := si_Ic fun _ _ _ => .int _
theorem si_pow : Sim2 K (rI CPow fun i j => .int (i ^ j.toNat)) (oIc CPow fun i j => .int (i ^ j.toNat)) := si_Ic fun _ _ _ => .int _
theorem si_lt : Sim2 K (rI0 fun i j => .bl (decide (i < j))) (oI fun i j => .bl (decide (i < j))) := si_I fun _ _ _ => .bl _
theorem si_le : Sim2 K (rI0 fun i j => .bl (decide (i ≤ j))) (oI fun i j => .bl (decide (i ≤ j))) := si_I fun _ _ _ => .bl _
theorem si_gt : Sim2 K (rI0 fun i j => .bl (decide (j < i))) (oI fun i j => .bl (decide (j < i))) := si_I fun _ _ _ => .bl _
theorem si_ge : Sim2 K (rI0 fun i j => .bl (decide (j ≤ i))) (oI fun i j => .bl (decide (j ≤ i))) := si_I fun _ _ _ => .bl _
def oAddS : DR2 := fun x y S k => match x, y with
  | .str i, .str j => i.length + j.length ≤ 100000 ∧ k (.str (i ++ j)) S
  | _, _ => False
theorem si_addS : Sim2 K (fun x y H Q => ∃ i j, x = .str i ∧ y = .str j ∧ i.length + j.length ≤ sizeLine ∧ Q (.str (i ++ j)) H) oAddS := fun B S H v w x y k Q r rx ry h1 q => by
  unfold oAddS at h1
  split at h1
  · rename_i i j
    exact ⟨i, j, rd_str rx, rd_str ry, sz_of h1.1, q _ S _ B H h1.2 (Ex.refl B) r (.str _)⟩
  · exact h1.elim
theorem si_ltS : Sim2 K (fun x y H Q => ∃ i j, x = .str i ∧ y = .str j ∧ Q (.bl (decide (i.cps.toList < j.cps.toList))) H) (oS fun i j => .bl (decide (i.cps.toList < j.cps.toList))) := fun B S H v w x y k Q r rx ry h1 q => by
  unfold oS at h1
  split at h1
  · rename_i i j
    exact ⟨i, j, rd_str rx, rd_str ry, q _ S _ B H h1 (Ex.refl B) r (.bl _)⟩
  · exact h1.elim
def oMulS : DR2 := fun x y S k => match x, y with
  | .str i, .int n => i.length ≤ 16 ∧ -(2 ^ 63 : Int) ≤ n ∧ n ≤ 1048576 ∧ k (.str (Txt.mul i n)) S
  | _, _ => False
theorem si_mulS : Sim2 K rMulS oMulS := fun B S H v w x y k Q r rx ry h1 q => by
  unfold oMulS at h1
  split at h1
  · rename_i i n
    exact ⟨i, n, rd_str rx, rd_int ry, h1.1, h1.2.1, h1.2.2.1, q _ S _ B H h1.2.2.2 (Ex.refl B) r (.str _)⟩
  · exact h1.elim
/-- one sign in a text -/
def oSg (neg : Bool) : DR2 := fun x y S k => match y with
  | .str z => ∃ c : Nat, x = .str ⟨#[c]⟩ ∧ k (.bl (if neg then !decide (c ∈ z.cps.toList) else decide (c ∈ z.cps.toList))) S
  | _ => False
theorem si_sg : Sim2 K (fun x y H Q => ∃ (c : Nat) (z : Str), x = .str ⟨#[c]⟩ ∧ y = .str z ∧ Q (.bl (decide (c ∈ z.cps.toList))) H) (oSg false) := fun B S H v w x y k Q r rx ry h1 q => by
  unfold oSg at h1
  split at h1
  · obtain ⟨c, rfl, h1⟩ := h1
    exact ⟨c, _, rd_str rx, rd_str ry, q _ S _ B H h1 (Ex.refl B) r (.bl _)⟩
  · exact h1.elim
theorem si_nsg : Sim2 K (fun x y H Q => ∃ (c : Nat) (z : Str), x = .str ⟨#[c]⟩ ∧ y = .str z ∧ Q (.bl (!decide (c ∈ z.cps.toList))) H) (oSg true) := fun B S H v w x y k Q r rx ry h1 q => by
  unfold oSg at h1
  split at h1
  · obtain ⟨c, rfl, h1⟩ := h1
    exact ⟨c, _, rd_str rx, rd_str ry, q _ S _ B H h1 (Ex.refl B) r (.bl _)⟩
  · exact h1.elim
/-- is None -/
def isNon : D → Bool
  | .non => true
  | _ => false
def oIsN (neg : Bool) : DR2 := fun x y S k => match y with
  | .non => k (.bl (if neg then !isNon x else isNon x)) S
  | _ => False
theorem isNon_iff {B : Hp} {v : V} {x : D} (h : RdD K B v x) : decide (v = .non) = isNon x := by
  cases h <;> simp [isNon]
theorem si_isN : Sim2 K (fun x y H Q => y = .non ∧ Q (.bl (decide (x = .non))) H) (oIsN false) := fun B S H v w x y k Q r rx ry h1 q => by
  unfold oIsN at h1
  split at h1
  · exact ⟨rd_non ry, by rw [isNon_iff rx]; exact q _ S _ B H h1 (Ex.refl B) r (.bl _)⟩
  · exact h1.elim
theorem si_notN : Sim2 K (fun x y H Q => y = .non ∧ Q (.bl (!decide (x = .non))) H) (oIsN true) := fun B S H v w x y k Q r rx ry h1 q => by
  unfold oIsN at h1
  split at h1
  · exact ⟨rd_non ry, by rw [isNon_iff rx]; exact q _ S _ B H h1 (Ex.refl B) r (.bl _)⟩
  · exact h1.elim
/-- == of scalars -/
def sEq : D → D → Option Bool
  | .int i, .int j => some (decide (i = j))
  | .str a, .str b => some (decide (a = b))
  | .bl a, .bl b => some (decide (a = b))
  | .non, .non => some true
  | .non, .int _ => some false
  | .non, .str _ => some false
  | .non, .bl _ => some false
  | .int _, .non => some false
  | .str _, .non => some false
  | .bl _, .non => some false
  | .int _, .str _ => some false
  | .str _, .int _ => some false
  | .bl _, .str _ => some false
  | .str _, .bl _ => some false
  | _, _ => none
theorem sEq_ok {B : Hp} {v w : V} {x y : D} {b : Bool} (h : sEq x y = some b) (rx : RdD K B v x) (ry : RdD K B w y) : scal v w = true ∧ decide (v = w) = b := by
  cases rx <;> cases ry <;> first | (simp [sEq] at h; done) | (simp only [sEq, Option.some.injEq] at h; subst h; exact ⟨rfl, by simp⟩)
def oEq (neg : Bool) : DR2 := fun x y S k => match sEq x y with
  | some b => k (.bl (if neg then !b else b)) S
  | none => False
theorem si_eq : Sim2 K rEq (oEq false) := fun B S H v w x y k Q r rx ry h1 q => by
  unfold oEq at h1
  split at h1
  · rename_i b e
    obtain ⟨h2, h3⟩ := sEq_ok e rx ry
    exact ⟨h2, by rw [h3]; exact q _ S _ B H h1 (Ex.refl B) r (.bl _)⟩
  · exact h1.elim
theorem si_ne : Sim2 K rNe (oEq true) := fun B S H v w x y k Q r rx ry h1 q => by
  unfold oEq at h1
  split at h1
  · rename_i b e
    obtain ⟨h2, h3⟩ := sEq_ok e rx ry
    exact ⟨h2, by rw [h3]; exact q _ S _ B H h1 (Ex.refl B) r (.bl _)⟩
  · exact h1.elim
/-! what a sequence is -/
def SeqD (S : Sto) (x : D) (ds : List D) : Prop := match x with
  | .list es => es = ds
  | .scr es => es = ds
  | .tup es => es = ds
  | .ref a => S a = some (.lst ds)
  | _ => False
theorem seqD_ok {B H : Hp} {S : Sto} {v : V} {x : D} {ds : List D} (h : SeqD S x ds) (r : R K B S H) (rx : RdD K B v x) : ∃ p xs, v = .ref p ∧ (SqL K H p xs ∨ SqT K H p xs) ∧ RdL K B xs ds := by
  unfold SeqD at h
  split at h
  · subst h
    obtain ⟨a, xs, rfl, ha, rl⟩ := rd_list rx
    exact ⟨a, xs, rfl, .inl (sq_of (r.ex _ _ ha)), rl⟩
  · subst h
    obtain ⟨a, xs, rfl, ha, rl⟩ := rd_scr rx
    exact ⟨a, xs, rfl, .inl (ex_l r.ex ha), rl⟩
  · subst h
    obtain ⟨a, xs, rfl, ha, rl⟩ := rd_tup rx
    exact ⟨a, xs, rfl, .inr (ex_t r.ex ha), rl⟩
  · obtain ⟨xs, ha, rl⟩ := r.lst h
    exact ⟨_, xs, rd_ref rx, .inl (sq_of ha), rl⟩
  · exact h.elim
theorem rdl_atI {B : Hp} {xs : List V} {ds : List D} {i : Int} {d : D} (h : RdL K B xs ds) (e : atI ds i = some d) : ∃ v, atI xs i = some v ∧ RdD K B v d := by
  unfold atI at e ⊢
  rw [h.length]
  obtain ⟨j, hj, e⟩ := Option.bind_eq_some_iff.mp e
  obtain ⟨v, hv, rd⟩ := h.get e
  exact ⟨v, by rw [hj]; exact hv, rd⟩
/-- x[i] -/
def oIx : DR2 := fun x y S k => match y with
  | .int i => match x with
    | .str z => ∃ c, z.length ≤ 100000 ∧ atI z.cps.toList i = some c ∧ k (.str ⟨#[c]⟩) S
    | x => ∃ ds d, SeqD S x ds ∧ atI ds i = some d ∧ k d S
  | _ => False
theorem si_ix {X : Cx} (hk : X.K = K) : Sim2 K (L2.rIx X.K) oIx := fun B S H v w x y k Q r rx ry h1 q => by
  subst hk
  unfold oIx at h1
  split at h1
  · rename_i i
    rw [rd_int ry]
    split at h1
    · rename_i z
      obtain ⟨c, hz, hc, h1⟩ := h1
      rw [rd_str rx]
      exact .inr (.inr ⟨z, i, c, rfl, rfl, sz_of hz, hc, q _ S _ B H h1 (Ex.refl B) r (.str _)⟩)
    · obtain ⟨ds, d, hs, hd, h1⟩ := h1
      obtain ⟨p, xs, rfl, hp, rl⟩ := seqD_ok hs r rx
      obtain ⟨v, hv, rd⟩ := rdl_atI rl hd
      rcases hp with hp | hp
      · exact .inl ⟨p, xs, i, v, rfl, rfl, hp, hv, q _ S _ B H h1 (Ex.refl B) r rd⟩
      · exact .inr (.inl ⟨p, xs, i, v, rfl, rfl, hp, hv, q _ S _ B H h1 (Ex.refl B) r rd⟩)
  · exact h1.elim
/-- flat things -/
def toV : D → V
  | .non => .non
  | .bl b => .bl b
  | .int i => .int i
  | .str x => .str x
  | _ => .ty ""
def flatD : D → Bool
  | .non => true
  | .bl _ => true
  | .int _ => true
  | .str _ => true
  | _ => false
theorem toV_ok {B : Hp} {v : V} {x : D} (h : RdD K B v x) (f : flatD x = true) : v = toV x ∧ flatV v = true := by
  cases h <;> first | exact ⟨rfl, rfl⟩ | cases f
theorem toV_all {B : Hp} : ∀ {vs : List V} {ds : List D}, RdL K B vs ds → ds.all flatD = true → vs = ds.map toV ∧ vs.all flatV = true
  | _, _, .nil, _ => ⟨rfl, rfl⟩
  | _, _, .cons h r, f => by
    rw [List.all_cons, Bool.and_eq_true] at f
    obtain ⟨h1, h2⟩ := toV_ok h f.1
    obtain ⟨h3, h4⟩ := toV_all r f.2
    exact ⟨by rw [h1, h3]; rfl, by rw [List.all_cons, h2, h4]; rfl⟩
def inD (x : D) (ds : List D) : Bool := inV (toV x) (ds.map toV)
def oIn (neg : Bool) : DR2 := fun x y S k => ∃ ds, SeqD S y ds ∧ flatD x = true ∧ ds.all flatD = true ∧ k (.bl (if neg then !inD x ds else inD x ds)) S
theorem si_in (neg : Bool) : Sim2 K (rIn K neg) (oIn neg) := fun B S H v w x y k Q r rx ry h1 q => by
  obtain ⟨ds, hs, f1, f2, h1⟩ := h1
  obtain ⟨p, xs, rfl, hp, rl⟩ := seqD_ok hs r ry
  obtain ⟨h2, h3⟩ := toV_ok rx f1
  obtain ⟨h4, h5⟩ := toV_all rl f2
  refine ⟨p, xs, rfl, hp, h3, h5, ?_⟩
  rw [h2, h4]
  exact q _ S _ B H h1 (Ex.refl B) r (.bl _)
/-- list + list, tuple + tuple -/
def oCat : DR2 := fun x y S k => match x, y with
  | .list a, .list b => a.length + b.length ≤ 100000 ∧ k (.list (a ++ b)) S
  | _, _ => False
theorem si_cat : Sim2 K rCat oCat := fun B S H v w x y k Q r rx ry h1 q => by
  unfold oCat at h1
  split at h1
  · obtain ⟨p, xs, rfl, hp, rl⟩ := rd_list rx
    obtain ⟨p2, ys, rfl, hp2, rl2⟩ := rd_list ry
    refine ⟨p, p2, xs, ys, rfl, rfl, r.ex _ _ hp, r.ex _ _ hp2, sz_of (by rw [rl.length, rl2.length]; exact h1.1), fun z hz => ?_⟩
    have n := r.new (o := .lst (xs ++ ys)) hz
    exact q _ S _ _ _ h1.2 n.2 n.1 (.lst upd_same ((rl.append rl2).mono n.2))
  · exact h1.elim
def oCatT : DR2 := fun x y S k => match x, y with
  | .tup a, .tup b => a ≠ [] ∧ a.length + b.length ≤ 100000 ∧ k (.tup (a ++ b)) S
  | _, _ => False
theorem si_catT : Sim2 K (rCatT K) oCatT := fun B S H v w x y k Q r rx ry h1 q => by
  unfold oCatT at h1
  split at h1
  · rename_i a b
    obtain ⟨p, xs, rfl, hp, rl⟩ := rd_tup rx
    obtain ⟨p2, ys, rfl, hp2, rl2⟩ := rd_tup ry
    refine ⟨p, p2, xs, ys, rfl, rfl, ex_t r.ex hp, ex_t r.ex hp2, fun z => h1.1 (List.eq_nil_of_length_eq_zero (by rw [← rl.length, z]; rfl)), sz_of (by rw [rl.length, rl2.length]; exact h1.2.1), fun z => ?_, fun _ z hz => ?_⟩
    · have : b = [] := List.eq_nil_of_length_eq_zero (by rw [← rl2.length, z]; rfl)
      subst this
      have h2 := h1.2.2
      rw [List.append_nil] at h2
      exact q _ S _ B H h2 (Ex.refl B) r rx
    · have n := r.new (o := .tup (xs ++ ys)) hz
      exact q _ S _ _ _ h1.2.2 n.2 n.1 (.tup (st_of upd_same) ((rl.append rl2).mono n.2))
  · exact h1.elim
theorem opCatT {X : Cx} (h : X.K = K := by rfl) : OpR X (binaryOp .Add) (rCatT K) := h ▸ op_catT
/-! slices -/
def cutD (xs : List D) (lo hi : Option Int) : List D := (xs.drop (HT.sIx xs.length 0 lo)).take (HT.sIx xs.length xs.length hi - HT.sIx xs.length 0 lo)
theorem rdl_cut {B : Hp} {xs : List V} {ds : List D} (h : RdL K B xs ds) (lo hi : Option Int) : RdL K B (cutV xs lo hi) (cutD ds lo hi) := by
  unfold cutV cutD
  rw [h.length]
  exact (h.drop _).take _
end
abbrev DO := Dst → Sto → (Option Int → Sto → Prop) → Prop
def lO (K : PySem.W.Frag) (d : DO) : TO := fun σ H Q => ∃ B δ S k, Sl K B σ δ ∧ R K B S H ∧ d δ S k ∧ ∀ o S' B' H', k o S' → Ex B B' → R K B' S' H' → Q o H'
def dNoP : DO := fun _ S k => k none S
def dPart (de : DE) : DO := fun δ S k => de δ S fun x S1 => match x with
  | .int i => k (some i) S1
  | _ => False
section
variable {X : Cx} {K : PySem.W.Frag} {e : Expr} {de : DE} {lo hi : Option Expr} {dl dh : DO}
theorem poOf {t u : TO} {lo : Option Expr} (h : PO X lo t) (k : ∀ σ H Q, u σ H Q → t σ H Q) : PO X lo u := by
  obtain ⟨r⟩ := h
  exact ⟨fun pins s σ H Q I q => r pins s σ H Q I (k σ H Q q)⟩
theorem do_none : PO X none (lO K dNoP) := poOf po_none fun σ H Q ⟨B, δ, S, k, s, r, h, q⟩ => q none S B H h (Ex.refl B) r
theorem do_some (h : PE X e (lE K de)) : PO X (some e) (lO K (dPart de)) := poOf (po_some h) fun σ H Q ⟨B, δ, S, k, s, r, h, q⟩ => ⟨B, δ, S, _, s, r, h, fun x S1 v B1 H1 h1 e1 r1 d1 => by
  split at h1
  · exact ⟨_, rd_int d1, q _ S1 B1 H1 h1 e1 r1⟩
  · exact h1.elim⟩
def dSl (rd : D → Option Int → Option Int → Sto → DK → Prop) (de : DE) (dl dh : DO) : DE := fun δ S k => de δ S fun x S1 => dl δ S1 fun l S2 => dh δ S2 fun u S3 => rd x l u S3 k
def SimS (K : PySem.W.Frag) (r : V → Option Int → Option Int → Hp → VK → Prop) (rd : D → Option Int → Option Int → Sto → DK → Prop) : Prop := ∀ (B : Hp) (S : Sto) (H : Hp) (v : V) (x : D) (l u : Option Int) (k : DK) (Q : VK), R K B S H → RdD K B v x → rd x l u S k →
  (∀ z S' u B' H', k z S' → Ex B B' → R K B' S' H' → RdD K B' u z → Q u H') → r v l u H Q
theorem de_slice {r : V → Option Int → Option Int → Hp → VK → Prop} {rd : D → Option Int → Option Int → Sto → DK → Prop} {p2 pos : Pos} (hr : SlR X r) (hs : SimS K r rd) (he : PE X e (lE K de)) (hl : PO X lo (lO K dl)) (hu : PO X hi (lO K dh)) : PE X (.Subscript e (.Slice lo hi none p2) pos) (lE K (dSl rd de dl dh)) :=
  peOf (pe_slice hr he hl hu) fun σ H Q ⟨B, δ, S, k, s, r, h, q⟩ => ⟨B, δ, S, _, s, r, h, fun x S1 v B1 H1 h1 e1 r1 d1 => ⟨B1, δ, S1, _, s.mono e1, r1, h1, fun l S2 B2 H2 h2 e2 r2 => ⟨B2, δ, S2, _, s.mono (e1.trans e2), r2, h2, fun u S3 B3 H3 h3 e3 r3 =>
    hs B3 S3 H3 v x l u k Q r3 (d1.mono (e2.trans e3)) h3 fun z S' w B' H' hk e' r' d' => q z S' w B' H' hk (e1.trans (e2.trans (e3.trans e'))) r' d'⟩⟩⟩
def oSlL : D → Option Int → Option Int → Sto → DK → Prop := fun x l u S k => match x with
  | .list ds => k (.list (cutD ds l u)) S
  | .scr ds => k (.list (cutD ds l u)) S
  | .ref a => ∃ ds, S a = some (.lst ds) ∧ k (.list (cutD ds l u)) S
  | _ => False
theorem si_slL : SimS K (rSlL K) oSlL := fun B S H v x l u k Q r rx h1 q => by
  have main : ∀ ds, SeqD S x ds → (∃ p xs, v = .ref p ∧ SqL K H p xs ∧ RdL K B xs ds) → k (.list (cutD ds l u)) S → rSlL K v l u H Q := fun ds hs ⟨p, xs, hv, hp, rl⟩ h1 =>
    ⟨p, xs, hv, hp, fun z hz => by
      have n := r.new (o := .lst (cutV xs l u)) hz
      exact q _ S _ _ _ h1 n.2 n.1 (.lst upd_same ((rdl_cut rl l u).mono n.2))⟩
  unfold oSlL at h1
  split at h1
  · obtain ⟨a, xs, rfl, ha, rl⟩ := rd_list rx
    exact main _ rfl ⟨a, xs, rfl, sq_of (r.ex _ _ ha), rl⟩ h1
  · obtain ⟨a, xs, rfl, ha, rl⟩ := rd_scr rx
    exact main _ rfl ⟨a, xs, rfl, ex_l r.ex ha, rl⟩ h1
  · obtain ⟨ds, hs, h1⟩ := h1
    obtain ⟨xs, ha, rl⟩ := r.lst hs
    exact main ds hs ⟨_, xs, rd_ref rx, sq_of ha, rl⟩ h1
  · exact h1.elim
/-- t[lo:hi], not the whole -/
def oSlT : D → Option Int → Option Int → Sto → DK → Prop := fun x l u S k => match x with
  | .tup ds => ¬ (HT.sIx ds.length 0 l = 0 ∧ HT.sIx ds.length ds.length u = ds.length) ∧ k (.tup (cutD ds l u)) S
  | _ => False
theorem si_slT : SimS K (rSlT K) oSlT := fun B S H v x l u k Q r rx h1 q => by
  unfold oSlT at h1
  split at h1
  · obtain ⟨a, xs, rfl, ha, rl⟩ := rd_tup rx
    refine ⟨a, xs, rfl, ex_t r.ex ha, by rw [rl.length]; exact h1.1, fun z hz => ?_⟩
    have n := r.new (o := .tup (cutV xs l u)) hz
    exact q _ S _ _ _ h1.2 n.2 n.1 (.tup (st_of upd_same) ((rdl_cut rl l u).mono n.2))
  · exact h1.elim
def oSlS : D → Option Int → Option Int → Sto → DK → Prop := fun x l u S k => match x with
  | .str z => z.length ≤ 100000 ∧ k (.str (cutS z l u)) S
  | _ => False
theorem si_slS : SimS K rSlS oSlS := fun B S H v x l u k Q r rx h1 q => by
  unfold oSlS at h1
  split at h1
  · exact ⟨_, rd_str rx, sz_of h1.1, q _ S _ B H h1.2 (Ex.refl B) r (.str _)⟩
  · exact h1.elim
end
end DL

set_option Elab.async false
set_option linter.all false
set_option maxRecDepth 100000
namespace DL
open PySem L2 Evl EX
/-! ### calls of built-ins -/
section
variable {K : PySem.W.Frag}
theorem rdl1 {B : Hp} {vs : List V} {x : D} (h : RdL K B vs [x]) : ∃ v, vs = [v] ∧ RdD K B v x := by
  cases h with
  | cons h r => cases r; exact ⟨_, rfl, h⟩
theorem rdl2 {B : Hp} {vs : List V} {x y : D} (h : RdL K B vs [x, y]) : ∃ v w, vs = [v, w] ∧ RdD K B v x ∧ RdD K B w y := by
  cases h with
  | cons h r =>
    obtain ⟨w, rfl, hw⟩ := rdl1 r
    exact ⟨_, w, rfl, h, hw⟩
/-- len -/
def oLen : List D → Sto → DK → Prop := fun xs S k => match xs with
  | [.str z] => z.length ≤ 100000 ∧ k (.int z.length) S
  | [x] => ∃ ds, SeqD S x ds ∧ k (.int ds.length) S
  | _ => False
theorem si_len {X : Cx} (hk : X.K = K) : SimC K (fun xs H Q => ∃ x n, xs = [x] ∧ LenV X.K x H n ∧ Q (.int n) H) oLen := fun B S H vs xs k Q r rx h1 q => by
  subst hk
  unfold oLen at h1
  split at h1
  · rename_i z
    obtain ⟨v, rfl, rv⟩ := rdl1 rx
    cases rd_str rv
    exact ⟨_, z.length, rfl, ⟨sz_of h1.1, rfl⟩, q _ S _ B H h1.2 (Ex.refl B) r (.int _)⟩
  · rename_i x hx
    obtain ⟨v, rfl, rv⟩ := rdl1 rx
    obtain ⟨ds, hs, h1⟩ := h1
    obtain ⟨p, xs, rfl, hp, rl⟩ := seqD_ok hs r rv
    refine ⟨_, xs.length, rfl, ?_, by rw [rl.length]; exact q _ S _ B H h1 (Ex.refl B) r (.int _)⟩
    rcases hp with hp | hp
    · exact .inl ⟨xs, hp, rfl⟩
    · exact .inr ⟨xs, hp, rfl⟩
  · exact h1.elim
def oLenD : List D → Sto → DK → Prop := fun xs S k => match xs with
  | [.ref a] => ∃ kvs, S a = some (.dct kvs) ∧ k (.int kvs.length) S
  | _ => False
theorem rdkv_len {κ : Type} {B : Hp} : ∀ {l : List (κ × V)} {m : List (κ × D)}, RdKV K B l m → l.length = m.length := fun h => Paired.length h
theorem si_lenD : SimC K (fun xs H Q => ∃ a kvs, xs = [V.ref a] ∧ H a = some (.dK kvs) ∧ Q (.int kvs.length) H) oLenD := fun B S H vs xs k Q r rx h1 q => by
  unfold oLenD at h1
  split at h1
  · obtain ⟨v, rfl, rv⟩ := rdl1 rx
    cases rd_ref rv
    obtain ⟨kvs, hs, h1⟩ := h1
    obtain ⟨us, hu, rl⟩ := r.dct hs
    exact ⟨_, us, rfl, hu, by rw [rdkv_len rl]; exact q _ S _ B H h1 (Ex.refl B) r (.int _)⟩
  · exact h1.elim
def oI1 (f : Int → D) : List D → Sto → DK → Prop := fun xs S k => match xs with
  | [.int i] => k (f i) S
  | _ => False
def oI2 (f : Int → Int → D) : List D → Sto → DK → Prop := fun xs S k => match xs with
  | [.int i, .int j] => k (f i j) S
  | _ => False
theorem si_abs : SimC K (fun xs H Q => ∃ i, xs = [.int i] ∧ Q (.int (if i < 0 then -i else i)) H) (oI1 fun i => .int (if i < 0 then -i else i)) := fun B S H vs xs k Q r rx h1 q => by
  unfold oI1 at h1
  split at h1
  · obtain ⟨v, rfl, rv⟩ := rdl1 rx
    cases rd_int rv
    exact ⟨_, rfl, q _ S _ B H h1 (Ex.refl B) r (.int _)⟩
  · exact h1.elim
theorem si_max2 : SimC K (fun xs H Q => ∃ i j, xs = [.int i, .int j] ∧ Q (.int (if j > i then j else i)) H) (oI2 fun i j => .int (if j > i then j else i)) := fun B S H vs xs k Q r rx h1 q => by
  unfold oI2 at h1
  split at h1
  · obtain ⟨v, w, rfl, rv, rw'⟩ := rdl2 rx
    cases rd_int rv
    cases rd_int rw'
    exact ⟨_, _, rfl, q _ S _ B H h1 (Ex.refl B) r (.int _)⟩
  · exact h1.elim
theorem si_min2 : SimC K (fun xs H Q => ∃ i j, xs = [.int i, .int j] ∧ Q (.int (if j < i then j else i)) H) (oI2 fun i j => .int (if j < i then j else i)) := fun B S H vs xs k Q r rx h1 q => by
  unfold oI2 at h1
  split at h1
  · obtain ⟨v, w, rfl, rv, rw'⟩ := rdl2 rx
    cases rd_int rv
    cases rd_int rw'
    exact ⟨_, _, rfl, q _ S _ B H h1 (Ex.refl B) r (.int _)⟩
  · exact h1.elim
def oInt1 : List D → Sto → DK → Prop := fun xs S k => match xs with
  | [.int i] => k (.int i) S
  | [.bl b] => k (.int (if b then 1 else 0)) S
  | _ => False
theorem si_int1 : SimC K (fun xs H Q => (∃ i, xs = [.int i] ∧ Q (.int i) H) ∨ ∃ k, xs = [.bl k] ∧ Q (.int (if k then 1 else 0)) H) oInt1 := fun B S H vs xs k Q r rx h1 q => by
  unfold oInt1 at h1
  split at h1
  · obtain ⟨v, rfl, rv⟩ := rdl1 rx
    cases rd_int rv
    exact .inl ⟨_, rfl, q _ S _ B H h1 (Ex.refl B) r (.int _)⟩
  · obtain ⟨v, rfl, rv⟩ := rdl1 rx
    cases rd_bl rv
    exact .inr ⟨_, rfl, q _ S _ B H h1 (Ex.refl B) r (.int _)⟩
  · exact h1.elim
def oIntS : List D → Sto → DK → Prop := fun xs S k => match xs with
  | [.str a] => ∃ n, PySem.intText? a = some n ∧ a.length ≤ 640 ∧ k (.int n) S
  | _ => False
theorem si_intS : SimC K (fun xs H Q => ∃ a n, xs = [.str a] ∧ PySem.intText? a = some n ∧ a.length ≤ 640 ∧ Q (.int n) H) oIntS := fun B S H vs xs k Q r rx h1 q => by
  unfold oIntS at h1
  split at h1
  · obtain ⟨v, rfl, rv⟩ := rdl1 rx
    cases rd_str rv
    obtain ⟨n, a, b, h1⟩ := h1
    exact ⟨_, n, rfl, a, b, q _ S _ B H h1 (Ex.refl B) r (.int _)⟩
  · exact h1.elim
def oStr : List D → Sto → DK → Prop := fun xs S k => match xs with
  | [.int i] => i.natAbs.log2 < 1920 ∧ k (.str (toString i)) S
  | [.str a] => k (.str a) S
  | _ => False
theorem callStr {X : Cx} : CallR X (.type "str") (fun xs H Q => (∃ i : Int, xs = [.int i] ∧ i.natAbs.log2 < 1920 ∧ Q (.str (toString i)) H) ∨ ∃ a, xs = [.str a] ∧ Q (.str a) H) := fun pins s σ H xs us Q I r h =>
  h.elim (fun h => call_str_int pins s σ H xs us Q I r h) (fun h => SkE.call_str_str pins s σ H xs us Q I r h)
theorem si_str : SimC K (fun xs H Q => (∃ i : Int, xs = [.int i] ∧ i.natAbs.log2 < 1920 ∧ Q (.str (toString i)) H) ∨ ∃ a, xs = [.str a] ∧ Q (.str a) H) oStr := fun B S H vs xs k Q r rx h1 q => by
  unfold oStr at h1
  split at h1
  · obtain ⟨v, rfl, rv⟩ := rdl1 rx
    cases rd_int rv
    exact .inl ⟨_, rfl, h1.1, q _ S _ B H h1.2 (Ex.refl B) r (.str _)⟩
  · obtain ⟨v, rfl, rv⟩ := rdl1 rx
    cases rd_str rv
    exact .inr ⟨_, rfl, q _ S _ B H h1 (Ex.refl B) r (.str _)⟩
  · exact h1.elim
/-- list(xs): a new list, told once for all; list(xs) that will change -/
def oList : List D → Sto → DK → Prop := fun xs S k => match xs with
  | [x] => ∃ ds, SeqD S x ds ∧ k (.list ds) S
  | _ => False
theorem si_list : SimC K (rListS K) oList := fun B S H vs xs k Q r rx h1 q => by
  unfold oList at h1
  split at h1
  · obtain ⟨v, rfl, rv⟩ := rdl1 rx
    obtain ⟨ds, hs, h1⟩ := h1
    obtain ⟨p, ys, rfl, hp, rl⟩ := seqD_ok hs r rv
    refine ⟨p, ys, rfl, hp, fun l hl => ?_⟩
    have n := r.new (o := .lst ys) hl
    exact q _ S _ _ _ h1 n.2 n.1 (.lst upd_same (rl.mono n.2))
  · exact h1.elim
def oListN : List D → Sto → DK → Prop := fun xs S k => match xs with
  | [x] => ∃ ds, SeqD S x ds ∧ ∀ p, S p = none → k (.ref p) (put S p (.lst ds))
  | _ => False
theorem si_listN : SimC K (rListS K) oListN := fun B S H vs xs k Q r rx h1 q => by
  unfold oListN at h1
  split at h1
  · obtain ⟨v, rfl, rv⟩ := rdl1 rx
    obtain ⟨ds, hs, h1⟩ := h1
    obtain ⟨p, ys, rfl, hp, rl⟩ := seqD_ok hs r rv
    exact ⟨p, ys, rfl, hp, fun l hl => q _ _ _ B _ (h1 l (r.fresh hl).2) (Ex.refl B) (r.newS hl (.lst rl)) (.ref l)⟩
  · exact h1.elim
def rTupleS (K : PySem.W.Frag) : List V → Hp → VK → Prop := fun xs H Q => ∃ p ys, xs = [.ref p] ∧ ((SqL K H p ys ∧ ∀ l, H l = none → Q (.ref l) (upd H l (.tup ys))) ∨ (SqT K H p ys ∧ Q (.ref p) H))
theorem clTuple {X : Cx} (h : X.K = K := by rfl) : CallR X (.type "tuple") (rTupleS K) := h ▸ call_tuple_of
def oTuple : List D → Sto → DK → Prop := fun xs S k => match xs with
  | [x] => ∃ ds, SeqD S x ds ∧ k (.tup ds) S
  | _ => False
theorem si_tuple : SimC K (rTupleS K) oTuple := fun B S H vs xs k Q r rx h1 q => by
  unfold oTuple at h1
  split at h1
  · obtain ⟨v, rfl, rv⟩ := rdl1 rx
    obtain ⟨ds, hs, h1⟩ := h1
    have fromL : ∀ p ys, v = .ref p → SqL K H p ys → RdL K B ys ds → rTupleS K [v] H Q := fun p ys hv hp rl => ⟨p, ys, by rw [hv], .inl ⟨hp, fun l hl => by
      have n := r.new (o := .tup ys) hl
      exact q _ S _ _ _ h1 n.2 n.1 (.tup (st_of upd_same) (rl.mono n.2))⟩⟩
    unfold SeqD at hs
    split at hs
    · subst hs
      obtain ⟨a, xs, hv, ha, rl⟩ := rd_list rv
      exact fromL a xs hv (sq_of (r.ex _ _ ha)) rl
    · subst hs
      obtain ⟨a, xs, hv, ha, rl⟩ := rd_scr rv
      exact fromL a xs hv (ex_l r.ex ha) rl
    · subst hs
      obtain ⟨a, xs, hv, ha, rl⟩ := rd_tup rv
      exact ⟨a, xs, by rw [hv], .inr ⟨ex_t r.ex ha, by rw [← hv]; exact q _ S _ B H h1 (Ex.refl B) r rv⟩⟩
    · obtain ⟨xs, ha, rl⟩ := r.lst hs
      exact fromL _ xs (rd_ref rv) (sq_of ha) rl
    · exact hs.elim
  · exact h1.elim
/-! any, all, sum over lists -/
theorem rdl_of_map {α : Type} {B : Hp} {f : α → D} {g : α → V} (h : ∀ v a, RdD K B v (f a) → v = g a) : ∀ {vs : List V} (as : List α), RdL K B vs (as.map f) → vs = as.map g
  | _, [], .nil => rfl
  | _, a :: as, .cons hd r => by rw [h _ a hd, rdl_of_map h as r]; rfl
def oAny : List D → Sto → DK → Prop := fun xs S k => match xs with
  | [.list ds] => ∃ bs : List Bool, ds = bs.map D.bl ∧ k (.bl (bs.any id)) S
  | _ => False
def oAll : List D → Sto → DK → Prop := fun xs S k => match xs with
  | [.list ds] => ∃ bs : List Bool, ds = bs.map D.bl ∧ k (.bl (bs.all id)) S
  | _ => False
theorem si_any : SimC K (rAny K) oAny := fun B S H vs xs k Q r rx h1 q => by
  unfold oAny at h1
  split at h1
  · obtain ⟨v, rfl, rv⟩ := rdl1 rx
    obtain ⟨bs, rfl, h1⟩ := h1
    obtain ⟨a, xs, rfl, ha, rl⟩ := rd_list rv
    have e := rdl_of_map (g := V.bl) (fun v b h => rd_bl h) bs rl
    subst e
    exact ⟨a, bs, rfl, sq_of (r.ex _ _ ha), q _ S _ B H h1 (Ex.refl B) r (.bl _)⟩
  · exact h1.elim
theorem si_all : SimC K (rAll K) oAll := fun B S H vs xs k Q r rx h1 q => by
  unfold oAll at h1
  split at h1
  · obtain ⟨v, rfl, rv⟩ := rdl1 rx
    obtain ⟨bs, rfl, h1⟩ := h1
    obtain ⟨a, xs, rfl, ha, rl⟩ := rd_list rv
    have e := rdl_of_map (g := V.bl) (fun v b h => rd_bl h) bs rl
    subst e
    exact ⟨a, bs, rfl, sq_of (r.ex _ _ ha), q _ S _ B H h1 (Ex.refl B) r (.bl _)⟩
  · exact h1.elim
def oSum : List D → Sto → DK → Prop := fun xs S k => match xs with
  | [.list ds] => ∃ ns : List Int, ds = ns.map D.int ∧ k (.int ns.sum) S
  | _ => False
theorem crSum {X : Cx} (hc : X.calm = true) (h : X.K = K := by rfl) : CallR X (.builtin "sum") (rSum K) := h ▸ cr_sum hc
theorem si_sum : SimC K (rSum K) oSum := fun B S H vs xs k Q r rx h1 q => by
  unfold oSum at h1
  split at h1
  · obtain ⟨v, rfl, rv⟩ := rdl1 rx
    obtain ⟨bs, rfl, h1⟩ := h1
    obtain ⟨a, xs, rfl, ha, rl⟩ := rd_list rv
    have e := rdl_of_map (g := V.int) (fun v b h => rd_int h) bs rl
    subst e
    exact ⟨a, bs, rfl, sq_of (r.ex _ _ ha), q _ S _ B H h1 (Ex.refl B) r (.int _)⟩
  · exact h1.elim
/-! sorted -/
def oSortI : List D → Sto → DK → Prop := fun xs S k => match xs with
  | [x] => ∃ ns : List Int, SeqD S x (ns.map D.int) ∧ (∀ ds, x ≠ .tup ds) ∧ ∀ ms : List Int, ms.Perm ns → ms.Pairwise (· ≤ ·) → k (.list (ms.map D.int)) S
  | _ => False
theorem crSortI {X : Cx} (h : X.K = K := by rfl) : CallR X (.builtin "sorted") (rSortedI K) := h ▸ cr_sortedI
theorem seqL_ok {B H : Hp} {S : Sto} {v : V} {x : D} {ds : List D} (h : SeqD S x ds) (ht : ∀ ds, x ≠ .tup ds) (r : R K B S H) (rx : RdD K B v x) : ∃ p xs, v = .ref p ∧ SqL K H p xs ∧ RdL K B xs ds := by
  unfold SeqD at h
  split at h
  · subst h
    obtain ⟨a, xs, rfl, ha, rl⟩ := rd_list rx
    exact ⟨a, xs, rfl, sq_of (r.ex _ _ ha), rl⟩
  · subst h
    obtain ⟨a, xs, rfl, ha, rl⟩ := rd_scr rx
    exact ⟨a, xs, rfl, ex_l r.ex ha, rl⟩
  · exact absurd rfl (ht _)
  · obtain ⟨xs, ha, rl⟩ := r.lst h
    exact ⟨_, xs, rd_ref rx, sq_of ha, rl⟩
  · exact h.elim
theorem si_sortI : SimC K (rSortedI K) oSortI := fun B S H vs xs k Q r rx h1 q => by
  unfold oSortI at h1
  split at h1
  · obtain ⟨v, rfl, rv⟩ := rdl1 rx
    obtain ⟨ns, hs, ht, h1⟩ := h1
    obtain ⟨p, ys, rfl, hp, rl⟩ := seqL_ok hs ht r rv
    have e := rdl_of_map (g := V.int) (fun v b h => rd_int h) ns rl
    subst e
    refine ⟨p, ns, rfl, hp, fun ms l pm pw hl => ?_⟩
    have n := r.new (o := .lst (ms.map V.int)) hl
    exact q _ S _ _ _ (h1 ms pm pw) n.2 n.1 (.lst upd_same (rdl_ints ms))
  · exact h1.elim
def oSortS : List D → Sto → DK → Prop := fun xs S k => match xs with
  | [x] => ∃ ns : List Str, SeqD S x (ns.map D.str) ∧ ns.length < 64 ∧ (∀ ds, x ≠ .tup ds) ∧ ∀ ms : List Str, ms.Perm ns → PyProof.Rows.sortedS ms = true → k (.list (ms.map D.str)) S
  | _ => False
theorem crSortS {X : Cx} (h : X.K = K := by rfl) : CallR X (.builtin "sorted") (rSortedS K) := h ▸ cr_sortedS
theorem si_sortS : SimC K (rSortedS K) oSortS := fun B S H vs xs k Q r rx h1 q => by
  unfold oSortS at h1
  split at h1
  · obtain ⟨v, rfl, rv⟩ := rdl1 rx
    obtain ⟨ns, hs, hl, ht, h1⟩ := h1
    obtain ⟨p, ys, rfl, hp, rl⟩ := seqL_ok hs ht r rv
    have e := rdl_of_map (g := V.str) (fun v b h => rd_str h) ns rl
    subst e
    refine ⟨p, ns, rfl, hp, hl, fun ms l pm pw hl => ?_⟩
    have n := r.new (o := .lst (ms.map V.str)) hl
    exact q _ S _ _ _ (h1 ms pm pw) n.2 n.1 (.lst upd_same (rdl_strs ms))
  · exact h1.elim
/-! isinstance -/
def tyD (S : Sto) : D → Option String
  | .non => some "NoneType"
  | .bl _ => some "bool"
  | .int _ => some "int"
  | .str _ => some "str"
  | .list _ => some "list"
  | .scr _ => some "list"
  | .tup _ => some "tuple"
  | .ref a => match S a with
    | some (.lst _) => some "list"
    | some (.dct _) => some "dict"
    | _ => none
  | .ty _ => none
def isB (t c : String) : Bool := t == c || (t == "bool" && c == "int")
def Ts : List String := ["NoneType", "bool", "int", "str", "list", "tuple", "dict"]
def Cs : List String := ["bool", "int", "str", "list", "tuple", "dict"]
theorem isB_ok : ∀ t ∈ Ts, ∀ c ∈ Cs, kitB t c = some (isB t c) := by decide +kernel
theorem tyD_mem {S : Sto} {x : D} {t : String} (h : tyD S x = some t) : t ∈ Ts := by
  unfold tyD at h
  split at h <;> first | (cases h; decide) | (split at h <;> first | (cases h; decide) | cases h) | cases h
theorem tyD_ok {B H : Hp} {S : Sto} {v : V} {x : D} {t : String} (h : tyD S x = some t) (r : R K B S H) (rx : RdD K B v x) : TyX K H v (.type t) := by
  cases rx with
  | non => cases h; exact .base .non
  | bl b => cases h; exact .base (.bl b)
  | int i => cases h; exact .base (.int i)
  | str z => cases h; exact .base (.str z)
  | ty n => cases h
  | lst ha rl => cases h; exact .base (.lst (r.ex _ _ ha))
  | tup ha rl =>
    cases h
    rcases ex_t r.ex ha with (ha | ⟨o, ha⟩) | ⟨o, its, n, h1, h2, _⟩
    · exact .base (.tup ha)
    · exact .fTuple ha
    · exact .kTuple h1 h2
  | scr ha rl =>
    cases h
    rcases ex_l r.ex ha with (ha | ⟨o, ha⟩) | ⟨o, its, n, h1, h2, _⟩
    · exact .base (.lst ha)
    · exact .base (.frz ha)
    · exact .kList h1 h2
  | ref a =>
    simp only [tyD] at h
    split at h
    · rename_i ds e
      cases h
      obtain ⟨xs, ha, _⟩ := r.lst e
      exact .base (.lst ha)
    · rename_i ds e
      cases h
      obtain ⟨xs, ha, _⟩ := r.dct e
      exact .base (.dK ha)
    · cases h
def oIsi : List D → Sto → DK → Prop := fun xs S k => match xs with
  | [x, .ty c] => ∃ t, tyD S x = some t ∧ c ∈ Cs ∧ k (.bl (isB t c)) S
  | _ => False
theorem clIsi' {X : Cx} (h : X.K = K := by rfl) : CallR X (.builtin "isinstance") (rIsi K) := h ▸ call_isi
theorem si_isi : SimC K (rIsi K) oIsi := fun B S H vs xs k Q r rx h1 q => by
  unfold oIsi at h1
  split at h1
  · rename_i x c
    obtain ⟨v, w, rfl, rv, rw'⟩ := rdl2 rx
    obtain ⟨t, ht, hc, h1⟩ := h1
    have hw : w = .ty c := by cases rw'; rfl
    subst hw
    exact ⟨v, .ty c, .type t, .type c, isB t c, rfl, .ty c, tyD_ok ht r rv, kit_ty (isB_ok t (tyD_mem ht) c hc), q _ S _ B H h1 (Ex.refl B) r (.bl _)⟩
  · exact h1.elim
/-- isinstance(x, (c1, c2)) -/
theorem clIsiT {X : Cx} (h : X.K = K := by rfl) : CallR X (.builtin "isinstance") (rIsiT K) := h ▸ call_isiT
def dIsiT (c1 c2 : String) (de : DE) : DE := fun δ S k => de δ S fun x S1 => ∃ t, tyD S1 x = some t ∧ c1 ∈ Cs ∧ c2 ∈ Cs ∧ k (.bl (isB t c1 || isB t c2)) S1
theorem de_isiT {X : Cx} {e n1 n2 : Expr} {c1 c2 : String} {de : DE} {p q p2 : Pos} {ct : Nat} (he : PE X e (lE K de)) (h1 : PE X n1 (tC (.ty c1))) (h2 : PE X n2 (tC (.ty c2))) (hg : Gl X "isinstance") (hm : X.mg "isinstance" = none)
    (hs1 : starEach (e :: [.Tuple [n1, n2] ct p2]) X.env = (false, eval e X.env) :: starEach [.Tuple [n1, n2] ct p2] X.env := by rfl) (hs2 : starEach (n1 :: [n2]) X.env = (false, eval n1 X.env) :: starEach [n2] X.env := by rfl) (hs3 : starEach (n2 :: []) X.env = (false, eval n2 X.env) :: starEach [] X.env := by rfl)
    (hs4 : starEach (Expr.Tuple [n1, n2] ct p2 :: []) X.env = (false, eval (.Tuple [n1, n2] ct p2) X.env) :: starEach [] X.env := by rfl) (hpl : (backTo q (starEach [.Tuple [n1, n2] ct p2] X.env)).any (·.1) = false := by rfl) (hk : X.K = K := by rfl) :
    PE X (.Call (.Name "isinstance" p) (e :: [.Tuple [n1, n2] ct p2]) [] q) (lE K (dIsiT c1 c2 de)) := by
  refine peOf (pe_callB (clIsiT hk) hg hm (by decide +kernel) (pa_cons he (pa_cons (pe_tup (pa_cons h1 (pa_cons h2 pa_nil hs3) hs2)) pa_nil hs4) hs1) (by decide) (by decide) hs1 hpl) ?_
  rintro σ H Q ⟨B, δ, S, k, s, r, h, qq⟩
  refine ⟨B, δ, S, _, s, r, h, fun x S1 v B1 H1 ⟨t, ht, hc1, hc2, h1⟩ e1 r1 d1 => ⟨sz_of (by show 2 ≤ 100000; decide), fun tp htp => ?_⟩⟩
  have n := r1.new (o := .tup [.ty c1, .ty c2]) htp
  refine ⟨v, tp, [.ty c1, .ty c2], .type t, [.type c1, .type c2], isB t c1 || isB t c2, rfl, upd_same, .cons (.ty c1) (.cons (.ty c2) .nil), tyD_ok ht n.1 (d1.mono n.2), ?_, qq _ S1 _ _ _ h1 (e1.trans n.2) n.1 (.bl _)⟩
  refine kitAny_cons (b := isB t c1) (kit_ty (isB_ok t (tyD_mem ht) c1 hc1)) (fun e => ?_) (fun e => by rw [e]; rfl)
  rw [e, Bool.false_or]
  refine kitAny_cons (b := isB t c2) (kit_ty (isB_ok t (tyD_mem ht) c2 hc2)) (fun e => by rw [e]; rfl) (fun e => e)
end
end DL

set_option Elab.async false
set_option linter.all false
set_option maxRecDepth 100000
namespace DL
open PySem L2 Evl EX
/-! ### methods of lists and texts -/
abbrev DM := D → List D → Sto → DK → Prop
def SimM (K : PySem.W.Frag) (r : V → List V → Hp → VK → Prop) (rd : DM) : Prop := ∀ (B : Hp) (S : Sto) (H : Hp) (v : V) (x : D) (vs : List V) (xs : List D) (k : DK) (Q : VK), R K B S H → RdD K B v x → RdL K B vs xs → rd x xs S k →
  (∀ z S' u B' H', k z S' → Ex B B' → R K B' S' H' → RdD K B' u z → Q u H') → r v vs H Q
/-- a method of a list -/
def IsL (S : Sto) : D → Prop
  | .ref a => ∃ ds, S a = some (.lst ds)
  | .list _ => True
  | .scr _ => True
  | _ => False
theorem isL_ok {K : PySem.W.Frag} {B H : Hp} {S : Sto} {v : V} {x : D} (h : IsL S x) (r : R K B S H) (rx : RdD K B v x) : tyV K "list" v H := by
  cases rx with
  | ref a =>
    obtain ⟨ds, h⟩ := h
    obtain ⟨xs, ha, _⟩ := r.lst h
    exact .inl ⟨rfl, xs, sq_of ha⟩
  | lst ha rl => exact .inl ⟨rfl, _, sq_of (r.ex _ _ ha)⟩
  | scr ha rl => exact .inl ⟨rfl, _, ex_l r.ex ha⟩
  | _ => exact h.elim
def dML (rd : DM) (do' : DE) (da : DA) : DE := fun δ S k => do' δ S fun x S1 => IsL S1 x ∧ da δ S1 fun xs S2 => rd x xs S2 k
def dMS (rd : DM) (do' : DE) (da : DA) : DE := fun δ S k => do' δ S fun x S1 => match x with
  | .str z => da δ S1 fun xs S2 => rd (.str z) xs S2 k
  | _ => False
section
variable {X : Cx} {K : PySem.W.Frag} {W : WXD} {o e : Expr} {es : List Expr} {dO : DE} {da : DA} {name : Str} {apos cpos : Pos} {id : String} {r : V → List V → Hp → VK → Prop} {rd : DM}
theorem de_ml (slot : Slot "list" name id) (hty : typeOf (.builtin id) = pure (.type "method_descriptor")) (hm : MtR X id r) (hs' : SimM K r rd) (ho : PE X o (lE K dO)) (ha : PA X (e :: es) (lA K da))
    (hbase : attributeBase o name X.env (eval o X.env) = eval o X.env := by rfl)
    (hfew : ((backTo cpos (starEach (e :: es) X.env)).all (fun x => !x.1) && (backToKw cpos (keywordEach [] X.env)).all (fun x => x.1.isSome)
      && decide ((e :: es).length + ([] : List Keyword).length + (if ([] : List Keyword).isEmpty then 0 else 1) < 30)) = true := by rfl)
    (hline : (apos.endLine == cpos.line) = true := by rfl) (hs : starEach (e :: es) X.env = (false, eval e X.env) :: starEach es X.env := by rfl) (hplain : (backTo cpos (starEach es X.env)).any (·.1) = false := by rfl) (h : X.K = K := by rfl) :
    PE X (.Call (.Attribute o name apos) (e :: es) [] cpos) (lE K (dML rd dO da)) := peOf (peBm (K := K) PySem.F.plainAttrs_list slot hty hm ho ha hbase hfew hline hs hplain h) fun σ H Q ⟨B, δ, S, k, s, r, h, q⟩ =>
  ⟨B, δ, S, _, s, r, h, fun x S1 v B1 H1 ⟨hl, h1⟩ e1 r1 d1 => ⟨isL_ok hl r1 d1, B1, δ, S1, _, s.mono e1, r1, h1, fun xs S2 vs B2 H2 h2 e2 r2 d2 => hs' B2 S2 H2 v x vs xs k Q r2 (d1.mono e2) d2 h2 fun z S' u B' H' hk e' r' d' => q z S' u B' H' hk (e1.trans (e2.trans e')) r' d'⟩⟩
theorem de_ml0 (slot : Slot "list" name id) (hty : typeOf (.builtin id) = pure (.type "method_descriptor")) (hm : MtR X id r) (hs' : SimM K r rd) (ho : PE X o (lE K dO))
    (hbase : attributeBase o name X.env (eval o X.env) = eval o X.env := by rfl) (hline : (apos.endLine == cpos.line) = true := by rfl) (h : X.K = K := by rfl) :
    PE X (.Call (.Attribute o name apos) [] [] cpos) (lE K (dML rd dO dNil)) := peOf (pe_bm0 PySem.F.plainAttrs_list slot hty hm ho hbase hline) fun σ H Q ⟨B, δ, S, k, s, r, hh, q⟩ =>
  ⟨B, δ, S, _, s, r, hh, fun x S1 v B1 H1 ⟨hl, h1⟩ e1 r1 d1 => ⟨by subst h; exact isL_ok hl r1 d1, hs' B1 S1 H1 v x [] [] k Q r1 d1 .nil h1 fun z S' u B' H' hk e' r' d' => q z S' u B' H' hk (e1.trans e') r' d'⟩⟩
theorem de_ms (slot : Slot "str" name id) (hty : typeOf (.builtin id) = pure (.type "method_descriptor")) (hm : MtR X id r) (hs' : SimM K r rd) (ho : PE X o (lE K dO)) (ha : PA X (e :: es) (lA K da))
    (hbase : attributeBase o name X.env (eval o X.env) = eval o X.env := by rfl)
    (hfew : ((backTo cpos (starEach (e :: es) X.env)).all (fun x => !x.1) && (backToKw cpos (keywordEach [] X.env)).all (fun x => x.1.isSome)
      && decide ((e :: es).length + ([] : List Keyword).length + (if ([] : List Keyword).isEmpty then 0 else 1) < 30)) = true := by rfl)
    (hline : (apos.endLine == cpos.line) = true := by rfl) (hs : starEach (e :: es) X.env = (false, eval e X.env) :: starEach es X.env := by rfl) (hplain : (backTo cpos (starEach es X.env)).any (·.1) = false := by rfl) (h : X.K = K := by rfl) :
    PE X (.Call (.Attribute o name apos) (e :: es) [] cpos) (lE K (dMS rd dO da)) := peOf (peBm (K := K) PySem.F.plainAttrs_str slot hty hm ho ha hbase hfew hline hs hplain h) fun σ H Q ⟨B, δ, S, k, s, r, h, q⟩ =>
  ⟨B, δ, S, _, s, r, h, fun x S1 v B1 H1 h1 e1 r1 d1 => by
    split at h1
    · rename_i z
      refine ⟨by cases rd_str d1; rfl, B1, δ, S1, _, s.mono e1, r1, h1, fun xs S2 vs B2 H2 h2 e2 r2 d2 => hs' B2 S2 H2 v _ vs xs k Q r2 (d1.mono e2) d2 h2 fun z S' u B' H' hk e' r' d' => q z S' u B' H' hk (e1.trans (e2.trans e')) r' d'⟩
    · exact h1.elim⟩
end
section
variable {K : PySem.W.Frag}
def oApp : DM := fun x xs S k => match x, xs with
  | .ref a, [y] => ∃ ds, S a = some (.lst ds) ∧ ds.length < 100000 ∧ k .non (put S a (.lst (ds ++ [y])))
  | _, _ => False
theorem si_app : SimM K rAppend oApp := fun B S H v x vs xs k Q r rx rl h1 q => by
  unfold oApp at h1
  split at h1
  · obtain ⟨w, rfl, rw'⟩ := rdl1 rl
    obtain ⟨ds, hs, hl, h1⟩ := h1
    obtain ⟨ys, ha, rr⟩ := r.lst hs
    cases rd_ref rx
    exact ⟨_, ys, w, rfl, rfl, ha, sz_lt (by rw [rr.length]; exact hl), q _ _ _ B _ h1 (Ex.refl B) (r.mut hs (.lst (rr.append (.one rw')))) .non⟩
  · exact h1.elim
def oExt : DM := fun x xs S k => match x, xs with
  | .ref a, [.list es] => ∃ ds, S a = some (.lst ds) ∧ ds.length + es.length ≤ 100000 ∧ k .non (put S a (.lst (ds ++ es)))
  | _, _ => False
theorem si_ext : SimM K rExtend oExt := fun B S H v x vs xs k Q r rx rl h1 q => by
  unfold oExt at h1
  split at h1
  · obtain ⟨w, rfl, rw'⟩ := rdl1 rl
    obtain ⟨ds, hs, hl, h1⟩ := h1
    obtain ⟨ys, ha, rr⟩ := r.lst hs
    obtain ⟨b, zs, rfl, hb, rz⟩ := rd_list rw'
    cases rd_ref rx
    exact ⟨_, b, ys, zs, rfl, rfl, ha, r.ex _ _ hb, sz_of (by rw [rr.length, rz.length]; exact hl), q _ _ _ B _ h1 (Ex.refl B) (r.mut hs (.lst (rr.append rz))) .non⟩
  · exact h1.elim
def oPop : DM := fun x xs S k => match x, xs with
  | .ref a, [] => ∃ ds y, S a = some (.lst (ds ++ [y])) ∧ k y (put S a (.lst ds))
  | _, _ => False
theorem RdL.snoc {B : Hp} {xs : List V} {ds : List D} {d : D} (h : RdL K B xs (ds ++ [d])) : ∃ ys v, xs = ys ++ [v] ∧ RdL K B ys ds ∧ RdD K B v d := by
  have hl := h.length
  have h1 := h.take ds.length
  have h2 := h.drop ds.length
  rw [List.take_left'] at h1
  · rw [List.drop_left'] at h2
    · cases hx : xs.drop ds.length with
      | nil => rw [hx] at h2; cases h2
      | cons v r =>
        rw [hx] at h2
        cases h2 with
        | cons hd hr =>
          cases hr
          refine ⟨xs.take ds.length, v, ?_, h1, hd⟩
          rw [← hx, List.take_append_drop]
    · rfl
  · rfl
theorem si_pop : SimM K rPop oPop := fun B S H v x vs xs k Q r rx rl h1 q => by
  unfold oPop at h1
  split at h1
  · cases rl
    obtain ⟨ds, y, hs, h1⟩ := h1
    obtain ⟨ys, ha, rr⟩ := r.lst hs
    obtain ⟨zs, w, rfl, rz, rw'⟩ := rr.snoc
    cases rd_ref rx
    refine ⟨_, zs ++ [w], w, rfl, rfl, ha, by simp, ?_⟩
    rw [List.dropLast_concat]
    exact q _ _ _ B _ h1 (Ex.refl B) (r.mut hs (.lst rz)) rw'
  · exact h1.elim
/-- xs.pop(0) -/
def oPop0 : DM := fun x xs S k => match x, xs with
  | .ref a, [.int 0] => ∃ ds y, S a = some (.lst (y :: ds)) ∧ k y (put S a (.lst ds))
  | _, _ => False
theorem si_pop0 : SimM K rPopAt oPop0 := fun B S H v x vs xs k Q r rx rl h1 q => by
  unfold oPop0 at h1
  split at h1
  · obtain ⟨w, rfl, rw'⟩ := rdl1 rl
    obtain ⟨ds, y, hs, h1⟩ := h1
    obtain ⟨ys, ha, rr⟩ := r.lst hs
    cases rr with
    | cons hy rr =>
      cases rd_ref rx
      cases rd_int rw'
      exact ⟨_, _, 0, 0, _, rfl, rfl, ha, by decide, by decide, by simp [seqIndex?], rfl, q _ _ _ B _ h1 (Ex.refl B) (r.mut hs (.lst rr)) hy⟩
  · exact h1.elim
def oRev : DM := fun x xs S k => match x, xs with
  | .ref a, [] => ∃ ds, S a = some (.lst ds) ∧ k .non (put S a (.lst ds.reverse))
  | _, _ => False
theorem si_rev : SimM K rReverse oRev := fun B S H v x vs xs k Q r rx rl h1 q => by
  unfold oRev at h1
  split at h1
  · cases rl
    obtain ⟨ds, hs, h1⟩ := h1
    obtain ⟨ys, ha, rr⟩ := r.lst hs
    cases rd_ref rx
    exact ⟨_, ys, rfl, rfl, ha, q _ _ _ B _ h1 (Ex.refl B) (r.mut hs (.lst rr.rev)) .non⟩
  · exact h1.elim
/-! texts -/
def oSS (f : Str → Str → D) : DM := fun x xs S k => match x, xs with
  | .str a, [.str b] => k (f a b) S
  | _, _ => False
def oSSc (C : Str → Str → Prop) (f : Str → Str → D) : DM := fun x xs S k => match x, xs with
  | .str a, [.str b] => C a b ∧ k (f a b) S
  | _, _ => False
def oSSI (f : Str → Str → Int → D) : DM := fun x xs S k => match x, xs with
  | .str a, [.str b, .int i] => k (f a b i) S
  | _, _ => False
theorem si_ssB {f : Str → Str → Bool} : SimM K (fun x xs H Q => ∃ a b, x = .str a ∧ xs = [.str b] ∧ Q (.bl (f a b)) H) (oSS fun a b => .bl (f a b)) := fun B S H v x vs xs k Q r rx rl h1 q => by
  unfold oSS at h1
  split at h1
  · obtain ⟨w, rfl, rw'⟩ := rdl1 rl
    cases rd_str rx
    cases rd_str rw'
    exact ⟨_, _, rfl, rfl, q _ _ _ B _ h1 (Ex.refl B) r (.bl _)⟩
  · exact h1.elim
theorem si_ssiB {f : Str → Str → Int → Bool} : SimM K (fun x xs H Q => ∃ (a b : Str) (i : Int), x = .str a ∧ xs = [.str b, .int i] ∧ Q (.bl (f a b i)) H) (oSSI fun a b i => .bl (f a b i)) := fun B S H v x vs xs k Q r rx rl h1 q => by
  unfold oSSI at h1
  split at h1
  · obtain ⟨w, w2, rfl, rw', rw2⟩ := rdl2 rl
    cases rd_str rx
    cases rd_str rw'
    cases rd_int rw2
    exact ⟨_, _, _, rfl, rfl, q _ _ _ B _ h1 (Ex.refl B) r (.bl _)⟩
  · exact h1.elim
theorem si_ssiI {f : Str → Str → Int → Int} : SimM K (fun x xs H Q => ∃ (a b : Str) (i : Int), x = .str a ∧ xs = [.str b, .int i] ∧ Q (.int (f a b i)) H) (oSSI fun a b i => .int (f a b i)) := fun B S H v x vs xs k Q r rx rl h1 q => by
  unfold oSSI at h1
  split at h1
  · obtain ⟨w, w2, rfl, rw', rw2⟩ := rdl2 rl
    cases rd_str rx
    cases rd_str rw'
    cases rd_int rw2
    exact ⟨_, _, _, rfl, rfl, q _ _ _ B _ h1 (Ex.refl B) r (.int _)⟩
  · exact h1.elim
theorem si_sscS {f : Str → Str → Str} : SimM K (fun x xs H Q => ∃ a b, x = .str a ∧ xs = [.str b] ∧ a.length ≤ sizeLine ∧ Q (.str (f a b)) H) (oSSc (fun a _ => a.length ≤ 100000) fun a b => .str (f a b)) := fun B S H v x vs xs k Q r rx rl h1 q => by
  unfold oSSc at h1
  split at h1
  · obtain ⟨w, rfl, rw'⟩ := rdl1 rl
    cases rd_str rx
    cases rd_str rw'
    exact ⟨_, _, rfl, rfl, sz_of h1.1, q _ _ _ B _ h1.2 (Ex.refl B) r (.str _)⟩
  · exact h1.elim
/-- a.split(b) -/
def dSplit (da db : DE) : DE := fun δ S k => da δ S fun x S1 => match x with
  | .str a => db δ S1 fun y S2 => match y with
    | .str b => (b.length == 0) = false ∧ a.length + 2 ≤ 100000 ∧ k (.list ((Txt.split a b).map D.str)) S2
    | _ => False
  | _ => False
/-- a.join(xs) -/
def dJoin (da db : DE) : DE := fun δ S k => da δ S fun x S1 => match x with
  | .str a => db δ S1 fun y S2 => ∃ ys : List Str, SeqD S2 y (ys.map D.str) ∧ (ys.map (·.length)).sum + ys.length * a.length ≤ 16777216 ∧ k (.str (Txt.join a ys)) S2
  | _ => False
end
section
variable {X : Cx} {K : PySem.W.Frag} {W : WXD} {o e : Expr} {dO de : DE} {apos pos : Pos}
theorem de_split (ho : PE X o (lE K dO)) (he : PE X e (lE K de)) (hs : starEach [e] X.env = [(false, eval e X.env)] := by rfl) (hbase : attributeBase o "split" X.env (eval o X.env) = eval o X.env := by rfl) (hline : (apos.endLine == pos.line) = true := by rfl) :
    PE X (.Call (.Attribute o "split" apos) [e] [] pos) (lE K (dSplit dO de)) := peOf (pe_split ho he hs hbase hline) fun σ H Q ⟨B, δ, S, k, s, r, h, q⟩ => ⟨B, δ, S, _, s, r, h, fun x S1 v B1 H1 h1 e1 r1 d1 => by
  split at h1
  · rename_i a
    cases rd_str d1
    refine ⟨⟨a, rfl⟩, B1, δ, S1, _, s.mono e1, r1, h1, fun y S2 w B2 H2 h2 e2 r2 d2 => ?_⟩
    split at h2
    · rename_i b
      cases rd_str d2
      refine ⟨a, b, rfl, rfl, h2.1, sz_of h2.2.1, fun p hp => ?_⟩
      have n := r2.new (o := .lst ((Txt.split a b).map V.str)) hp
      exact q _ S2 _ _ _ h2.2.2 (e1.trans (e2.trans n.2)) n.1 (.lst upd_same (rdl_strs _))
    · exact h2.elim
  · exact h1.elim⟩
theorem de_join (ho : PE X o (lE K dO)) (he : PE X e (lE K de)) (hs : starEach [e] X.env = [(false, eval e X.env)] := by rfl) (hbase : attributeBase o "join" X.env (eval o X.env) = eval o X.env := by rfl) (hline : (apos.endLine == pos.line) = true := by rfl) (hk : X.K = K := by rfl) :
    PE X (.Call (.Attribute o "join" apos) [e] [] pos) (lE K (dJoin dO de)) := peOf (pe_join ho he hs hbase hline) fun σ H Q ⟨B, δ, S, k, s, r, h, q⟩ => ⟨B, δ, S, _, s, r, h, fun x S1 v B1 H1 h1 e1 r1 d1 => by
  split at h1
  · rename_i a
    cases rd_str d1
    refine ⟨⟨a, rfl⟩, B1, δ, S1, _, s.mono e1, r1, h1, fun y S2 w B2 H2 ⟨ys, hs, hz, h2⟩ e2 r2 d2 => ?_⟩
    obtain ⟨p, xs, rfl, hp, rl⟩ := seqD_ok hs r2 d2
    have e := rdl_of_map (g := V.str) (fun v b h => rd_str h) ys rl
    subst e
    subst hk
    exact ⟨a, p, ys, rfl, rfl, hp, hz, q _ S2 _ _ _ h2 (e1.trans e2) r2 (.str _)⟩
  · exact h1.elim⟩
/-! x op= e -/
def dAug (i : Nat) (f : Int → Int → Int) (de : DE) : DS := fun D δ S => match δ[i]? with
  | some (some (.int a)) => de δ S fun y S1 => match y with
    | .int b => D.nx (δ.set i (some (.int (f a b)))) S1
    | _ => False
  | _ => False
theorem ds_aug {i : Nat} {x : Str} {op : Operator} {f : Int → Int → Int} {pos' : Pos} (hN : X.N.Nodup) (hi : X.N[i]? = some x) (hx : Loc X.env.scope x) (he : PE X e (lE K de)) (ho : PIp X op (ipI f)) (hf : X.fn x = true ∨ X.env.scope.names.lookup x = some .local := by first | exact .inl rfl | exact .inr rfl | assumption) :
    PS X (.AugAssign (.Name x pos') op e pos) (lS K W (dAug i f de)) := psOf (ps_aug hN hi hx he ho hf) fun E σ H ⟨B, δ, S, D, s, r, h, l⟩ => by
  unfold dAug at h
  split at h
  · rename_i a ea
    obtain ⟨v, hv, rv⟩ := s.at_ i _ ea
    cases rd_int rv
    refine ⟨_, hv, B, δ, S, _, s, r, h, fun y S1 w B1 H1 h1 e1 r1 d1 => ?_⟩
    split at h1
    · rename_i b
      cases rd_int d1
      exact ⟨a, b, rfl, rfl, l.nx _ S1 _ B1 H1 h1 e1 ((s.mono e1).set (.int _) i) r1⟩
    · exact h1.elim
  · exact h.elim
end
end DL

set_option Elab.async false
set_option linter.all false
set_option maxRecDepth 100000
namespace DL
open PySem L2 Evl EX
/-! ### == at any depth -/
mutual
def D.py : D → PyData
  | .bl b => .bool b
  | .int i => .int i
  | .str x => .str x
  | .list ds => .list (pyL ds)
  | .scr ds => .list (pyL ds)
  | .tup ds => .tuple (pyL ds)
  | _ => .none
def pyL : List D → List PyData
  | [] => []
  | d :: ds => d.py :: pyL ds
end
mutual
/-- data of numbers (or, f: of truth values), texts (well made), None, lists, tuples -/
def D.nbG (f : Bool) : D → Bool
  | .non => true
  | .int _ => !f
  | .bl _ => f
  | .str x => PyData.strOk x
  | .list ds => nbGL f ds
  | .tup ds => nbGL f ds
  | _ => false
def nbGL (f : Bool) : List D → Bool
  | [] => true
  | d :: ds => d.nbG f && nbGL f ds
end
abbrev D.nb (d : D) : Bool := d.nbG false
abbrev nbL (ds : List D) : Bool := nbGL false ds
mutual
def D.deep : D → Nat
  | .list ds => deepL ds + 1
  | .tup ds => deepL ds + 1
  | _ => 0
def deepL : List D → Nat
  | [] => 0
  | d :: ds => max d.deep (deepL ds)
end
theorem nbGL_iff {f : Bool} : ∀ ds : List D, nbGL f ds = true ↔ ∀ d ∈ ds, d.nbG f = true
  | [] => by simp [nbGL]
  | d :: ds => by simp [nbGL, nbGL_iff ds]
theorem nbL_iff (ds : List D) : nbL ds = true ↔ ∀ d ∈ ds, d.nb = true := nbGL_iff ds
theorem deepL_le {n : Nat} : ∀ ds : List D, deepL ds ≤ n ↔ ∀ d ∈ ds, d.deep ≤ n
  | [] => by simp [deepL]
  | d :: ds => by simp [deepL, deepL_le ds, Nat.max_le]
mutual
theorem py_lay {f : Bool} : ∀ d : D, d.nbG f = true → d.py.canLay0 = true
  | .non, _ => rfl
  | .int _, _ => rfl
  | .str x, h => by simpa [D.nbG, D.py, PyData.canLay0] using h
  | .list ds, h => by
    rw [D.nbG] at h
    rw [D.py, PyData.canLay0]
    exact pyL_lay ds h
  | .tup ds, h => by
    rw [D.nbG] at h
    rw [D.py, PyData.canLay0]
    exact pyL_lay ds h
  | .bl _, h => rfl
  | .ref _, h => by cases h
  | .ty _, h => by cases h
  | .scr _, h => by simp [D.nbG] at h
theorem pyL_lay {f : Bool} : ∀ ds : List D, nbGL f ds = true → PyData.canLayAll0 (pyL ds) = true
  | [], _ => rfl
  | d :: ds, h => by
    rw [nbGL, Bool.and_eq_true] at h
    rw [pyL, PyData.canLayAll0, py_lay d h.1, pyL_lay ds h.2]
    rfl
end
mutual
theorem py_deep {f : Bool} : ∀ d : D, d.nbG f = true → d.py.depth = d.deep
  | .non, _ => rfl
  | .int _, _ => rfl
  | .str x, h => rfl
  | .list ds, h => by
    rw [D.nbG] at h
    rw [D.py, PyData.depth, D.deep, pyL_deep ds h]
  | .tup ds, h => by
    rw [D.nbG] at h
    rw [D.py, PyData.depth, D.deep, pyL_deep ds h]
  | .bl _, h => rfl
  | .ref _, h => by cases h
  | .ty _, h => by cases h
  | .scr _, h => by simp [D.nbG] at h
theorem pyL_deep {f : Bool} : ∀ ds : List D, nbGL f ds = true → PyData.depthAll (pyL ds) = deepL ds
  | [], _ => rfl
  | d :: ds, h => by
    rw [nbGL, Bool.and_eq_true] at h
    rw [pyL, PyData.depthAll, deepL, py_deep d h.1, pyL_deep ds h.2]
end
mutual
theorem py_inj {f : Bool} : ∀ d e : D, d.nbG f = true → e.nbG f = true → PyData.eqv d.py e.py = true → d = e
  | .non, e, _, he, h => by cases e <;> first | rfl | (simp [D.py, PyData.eqv] at h; done) | (simp [D.nbG] at he; done)
  | .int i, e, hd, he, h => by
    cases e with
    | int j => simp [D.py, PyData.eqv] at h; rw [h]
    | bl b => simp [D.nbG] at hd he; rw [hd] at he; cases he
    | _ => first | (simp [D.py, PyData.eqv] at h; done) | (simp [D.nbG] at he; done)
  | .str x, e, _, he, h => by
    cases e with
    | str y => simp [D.py, PyData.eqv] at h; rw [h]
    | _ => first | (simp [D.py, PyData.eqv] at h; done) | (simp [D.nbG] at he; done)
  | .list ds, e, hd, he, h => by
    cases e with
    | list es =>
      rw [D.nbG] at hd he
      rw [D.py, D.py, PyData.eqv] at h
      rw [pyL_inj ds es hd he h]
    | _ => first | (simp [D.py, PyData.eqv] at h; done) | (simp [D.nbG] at he; done)
  | .tup ds, e, hd, he, h => by
    cases e with
    | tup es =>
      rw [D.nbG] at hd he
      rw [D.py, D.py, PyData.eqv] at h
      rw [pyL_inj ds es hd he h]
    | _ => first | (simp [D.py, PyData.eqv] at h; done) | (simp [D.nbG] at he; done)
  | .bl b, e, hd, he, h => by
    cases e with
    | bl c => simp [D.py, PyData.eqv] at h; rw [h]
    | int i => simp [D.nbG] at hd he; rw [hd] at he; cases he
    | _ => first | (simp [D.py, PyData.eqv] at h; done) | (simp [D.nbG] at he; done)
  | .ref _, _, hd, _, _ => by cases hd
  | .ty _, _, hd, _, _ => by cases hd
  | .scr _, _, hd, _, _ => by simp [D.nbG] at hd
theorem pyL_inj {f : Bool} : ∀ ds es : List D, nbGL f ds = true → nbGL f es = true → PyData.eqvAll (pyL ds) (pyL es) = true → ds = es
  | [], [], _, _, _ => rfl
  | [], _ :: _, _, _, h => by simp [pyL, PyData.eqvAll] at h
  | _ :: _, [], _, _, h => by simp [pyL, PyData.eqvAll] at h
  | d :: ds, e :: es, hd, he, h => by
    rw [nbGL, Bool.and_eq_true] at hd he
    rw [pyL, pyL, PyData.eqvAll, Bool.and_eq_true] at h
    rw [py_inj d e hd.1 he.1 h.1, pyL_inj ds es hd.2 he.2 h.2]
end
open Classical in
theorem eqv_dec {f : Bool} {d e : D} (hd : d.nbG f = true) (he : e.nbG f = true) : PyData.eqv d.py e.py = decide (d = e) := by
  by_cases h : d = e
  · subst h
    rw [decide_eq_true rfl]
    exact SeqAt.eqv_refl d.py (py_lay d hd)
  · rw [decide_eq_false h]
    cases q : PyData.eqv d.py e.py with
    | false => rfl
    | true => exact absurd (py_inj d e hd he q) h
section
variable {K : PySem.W.Frag} {B H : Hp}
mutual
theorem dp_of {f : Bool} (e : Ex B H) : ∀ {v : V} {d : D}, RdD K B v d → d.nbG f = true → Dp K H v d.py
  | _, _, .non, _ => .non
  | _, _, .int i, _ => .int i
  | _, _, .str x, _ => .str x
  | _, _, .lst ha r, h => by
    rw [D.nbG] at h
    rw [D.py]
    exact .lst (sq_of (e _ _ ha)) (dpL_of e r h)
  | _, _, .tup ha r, h => by
    rw [D.nbG] at h
    rw [D.py]
    exact .tup (ex_t e ha) (dpL_of e r h)
  | _, _, .bl b, h => .bl b
  | _, _, .ref _, h => by cases h
  | _, _, .ty _, h => by cases h
  | _, _, .scr _ _, h => by simp [D.nbG] at h
theorem dpL_of {f : Bool} (e : Ex B H) : ∀ {vs : List V} {ds : List D}, RdL K B vs ds → nbGL f ds = true → DpAll K H vs (pyL ds)
  | _, _, .nil, _ => .nil
  | _, _, .cons h r, hn => by
    rw [nbGL, Bool.and_eq_true] at hn
    rw [pyL]
    exact .cons (dp_of e h hn.1) (dpL_of e r hn.2)
end
/-- a list of the store told by what it holds -/
def res (S : Sto) : D → D
  | .ref a => match S a with
    | some (.lst ds) => .list ds
    | _ => .ref a
  | x => x
theorem dp_res {f : Bool} {S : Sto} {v : V} {x : D} (r : R K B S H) (rx : RdD K B v x) (h : (res S x).nbG f = true) : Dp K H v (res S x).py := by
  cases x with
  | ref a =>
    simp only [res] at h ⊢
    cases e : S a with
    | none => rw [e] at h; cases h
    | some o =>
      cases o with
      | lst ds =>
        rw [e] at h
        simp only [D.nbG] at h
        obtain ⟨xs, ha, rl⟩ := r.lst e
        cases rd_ref rx
        simp only [D.py]
        exact .lst (sq_of ha) (dpL_of r.ex rl h)
      | _ => rw [e] at h; cases h
  | _ => exact dp_of r.ex rx h
end
section
variable {X : Cx} {K : PySem.W.Frag}
def rEqM (K : PySem.W.Frag) (neg : Bool) : R2 := fun x y H Q => ∃ d e, Dp K H x d ∧ Dp K H y e ∧ d.canLay0 = true ∧ e.canLay0 = true ∧ min d.depth e.depth ≤ 64 ∧ Q (.bl (if neg then !PyData.eqv d e else PyData.eqv d e)) H
theorem op_eqM (hu : X.A.units + 64 < cLine) (hk : X.K = K := by rfl) : OpR X (compareOp .Eq) (rEqM K false) := by
  intro pins s σ H x y v u Q I rx ry h
  subst hk
  obtain ⟨d, e, hd, he, sd, se, hm, q⟩ := h
  obtain ⟨as, r1⟩ := Dp.reads I d x v hd rx
  obtain ⟨bs, r2⟩ := Dp.reads I e y u he ry
  exact SeqAt.compareEq_reads r1 r2 sd se (by omega) ⟨.bl _, H, I, rfl, q⟩
theorem op_neM (hu : X.A.units + 64 < cLine) (hk : X.K = K := by rfl) : OpR X (compareOp .NotEq) (rEqM K true) := by
  intro pins s σ H x y v u Q I rx ry h
  subst hk
  obtain ⟨d, e, hd, he, sd, se, hm, q⟩ := h
  obtain ⟨as, r1⟩ := Dp.reads I d x v hd rx
  obtain ⟨bs, r2⟩ := Dp.reads I e y u he ry
  exact SeqAt.compareNe_reads r1 r2 sd se (by omega) ⟨.bl _, H, I, rfl, q⟩
open Classical in
def oEqD (neg : Bool) : DR2 := fun x y S k => ∃ f, (res S x).nbG f = true ∧ (res S y).nbG f = true ∧ min (res S x).deep (res S y).deep ≤ 64 ∧ k (.bl (if neg then !decide (res S x = res S y) else decide (res S x = res S y))) S
theorem si_eqM (neg : Bool) : Sim2 K (rEqM K neg) (oEqD neg) := fun B S H v w x y k Q r rx ry h1 q => by
  obtain ⟨f, hx, hy, hm, h1⟩ := h1
  refine ⟨_, _, dp_res r rx hx, dp_res r ry hy, py_lay _ hx, py_lay _ hy, by rw [py_deep _ hx, py_deep _ hy]; exact hm, ?_⟩
  rw [eqv_dec hx hy]
  exact q _ S _ B H h1 (Ex.refl B) r (.bl _)
/-! x in xs, a list of data -/
open Classical in
def oInD (neg : Bool) : DR2 := fun x y S k => ∃ ds, y = .list ds ∧ x.nb = true ∧ nbL ds = true ∧ x.deep ≤ 64 ∧ deepL ds ≤ 60 ∧ k (.bl (if neg then !decide (x ∈ ds) else decide (x ∈ ds))) S
open Classical in
theorem any_mem {x : D} (hx : x.nb = true) : ∀ ds : List D, nbL ds = true → ((pyL ds).any fun z => PyData.eqv z x.py) = decide (x ∈ ds)
  | [], _ => by simp [pyL]
  | d :: ds, h => by
    have h : (d.nbG false && nbGL false ds) = true := h
    rw [Bool.and_eq_true] at h
    rw [pyL, List.any_cons, any_mem hx ds h.2, eqv_dec h.1 hx]
    by_cases q : d = x
    · subst q; simp
    · have q' : ¬ x = d := fun z => q z.symm
      simp [q, q']
theorem si_inD : Sim2 K (rInD K) (oInD false) := fun B S H v w x y k Q r rx ry h1 q => by
  obtain ⟨ds, rfl, hx, hds, h64, h60, h1⟩ := h1
  have hl : (D.list ds).nb = true := by rw [D.nb, D.nbG]; exact hds
  have dl := dp_of r.ex ry hl
  rw [D.py] at dl
  refine ⟨_, _, dp_of r.ex rx hx, dl, ?_, ?_, ?_⟩
  · unfold SeqAt.shaped
    rw [py_lay _ hx, py_deep _ hx, decide_eq_true h64]
    rfl
  · unfold SeqAt.shaped
    have := py_lay _ hl
    have h2 := py_deep _ hl
    rw [D.py] at this h2
    rw [this, h2, D.deep, decide_eq_true (by omega)]
    rfl
  · rw [any_mem hx ds hds]
    exact q _ S _ B H h1 (Ex.refl B) r (.bl _)
end
end DL

set_option Elab.async false
set_option linter.all false
set_option maxRecDepth 100000
/-! ### draws, told over data -/
namespace DL
open PySem L2 Evl EX
def dDraw : SpD := fun ds S k _ => ∃ (tp : Addr) (n : Int), ds = [.ref tp, .int n] ∧ S tp = some .tap ∧ 0 < n ∧ n < 1073741824 ∧ ∀ r : Int, 0 ≤ r → r < n → k (.int r) S
def dTap : SpD := fun ds S k _ => ∃ c : Int, ds = [.int c] ∧ ∀ p, S p = none → k (.ref p) (put S p .tap)
section
variable {K : PySem.W.Frag} {B H H' : Hp} {S : Sto}
theorem R.drawn (r : R K B S H) {tp : Addr} (ht : S tp = some .tap) (e : Ex (hide tp H) H') (t : Tap H' tp) : R K B S H' := by
  have hb := (r.own tp _ ht).1
  refine ⟨(ex_hide r.ex hb).trans e, fun a o h => ?_⟩
  obtain ⟨n, ho, h1, h2⟩ := r.own a o h
  by_cases z : a = tp
  · subst z
    rw [ht] at h
    cases h
    obtain ⟨x, y, u, v, h3⟩ := t
    exact ⟨n, _, h3, .tap x y u v⟩
  · exact ⟨n, ho, e a ho (hide_get h1 z), h2⟩
/-- all that is new stands fast -/
theorem R.grow (r : R K B S H) (e : Ex H H') : ∃ B', Ex B B' ∧ R K B' S H' ∧ ∀ a o, H' a = some o → S a = none → B' a = some o := by
  refine ⟨fun a => if (S a).isSome then none else H' a, fun a o h => ?_, ⟨fun a o h => ?_, fun a o h => ?_⟩, fun a o h n => ?_⟩
  · have hs : S a = none := by
      cases q : S a with
      | none => rfl
      | some u => rw [(r.own a u q).1] at h; cases h
    show (if (S a).isSome = true then none else H' a) = some o
    rw [hs]
    exact e a o (r.ex a o h)
  · have h' : (if (S a).isSome = true then none else H' a) = some o := h
    split at h'
    · cases h'
    · exact h'
  · obtain ⟨n, ho, h1, h2⟩ := r.own a o h
    refine ⟨?_, ho, e a ho h1, h2.mono fun b u hb => ?_⟩
    · show (if (S a).isSome = true then none else H' a) = none
      rw [h]
      rfl
    · have hs : S b = none := by
        cases q : S b with
        | none => rfl
        | some u => rw [(r.own b u q).1] at hb; cases hb
      show (if (S b).isSome = true then none else H' b) = some u
      rw [hs]
      exact e b u (r.ex b u hb)
  · show (if (S a).isSome = true then none else H' a) = some o
    rw [n]
    exact h
end
section
variable {P : Program} {w : World} {K : PySem.W.Frag} {mg : Str → Option Value} {base : Heap} {k : Nat} {f : Addr} {fd : FuncData} {ps : List Str}
theorem draw_of (F : FnOk P w K mg base CX0 k f fd ps spDraw) : FnOk P w K mg base CX0 k f fd ps (lSp K dDraw) := F.imp fun vs H Q E ⟨B, ds, S, q, qx, rd, r, ⟨tp, n, hds, ht, n0, n1, h⟩, hq, _⟩ => by
  subst hds
  obtain ⟨v, w, rfl, rv, rw'⟩ := rdl2 rd
  cases rd_ref rv
  cases rd_int rw'
  exact ⟨tp, n, rfl, r.tap ht, n0, n1, fun x H' x0 x1 e t => hq _ S _ B H' (h x x0 x1) (Ex.refl B) (r.drawn ht e t) (.int x)⟩
end
end DL

set_option Elab.async false
set_option linter.all false
set_option maxRecDepth 100000
/-! ### stepping: readings over data, rewritten from the head on -/
namespace DL
open PySem L2 Evl EX
/-- what is marked is not rewritten within -/
structure Tag {α : Sort _} (a : α) : Type where
/-- an open choice -/
def branch (b : Bool) (A B : Prop) (_ : Tag (fun x : Bool => if x = true then A else B)) : Prop := if b = true then A else B
/-- a slot that is read -/
def rdv (o : Option (Option D)) (S : Sto) (k : DK) (_ : Tag k) : Prop := match o with
  | some (some d) => k d S
  | _ => False
def tst (x : D) (S : Sto) (k : Bool → Sto → Prop) (_ : Tag k) : Prop := match x with
  | .bl b => k b S
  | _ => False
def tstV (x : D) (k : Bool → Prop) (_ : Tag k) : Prop := match x with
  | .bl b => k b
  | _ => False
/-- a call by a promise -/
def ask (f : SpD) (xs : List D) (S : Sto) (k : DK) (_ : Tag k) : Prop := f xs S k fun _ _ _ => False
/-- a new place -/
def fresh (S : Sto) (k : Addr → Prop) (_ : Tag k) : Prop := ∀ p, S p = none → k p
def few (n : Nat) (A : Prop) (_ : Tag A) : Prop := n ≤ 100000 ∧ A
/-- what is asked, then the rest -/
def need (C A : Prop) (_ : Tag A) : Prop := C ∧ A
def ixq (x : D) (i : Int) (S : Sto) (k : DK) (_ : Tag k) : Prop := oIx x (.int i) S k
def lenq (x : D) (S : Sto) (k : DK) (_ : Tag k) : Prop := oLen [x] S k
theorem x_few {n : Nat} {A : Prop} (h : n ≤ 100000) : few n A ⟨⟩ = A := propext ⟨fun z => z.2, fun z => ⟨h, z⟩⟩
theorem x_need {C A : Prop} (h : C) : need C A ⟨⟩ = A := propext ⟨fun z => z.2, fun z => ⟨h, z⟩⟩
section
variable {δ : Dst} {S : Sto} {k : DK} {kt : Bool → Sto → Prop} {ka : List D → Sto → Prop} {E : DEnds} {da db de : DE} {dA : DA} {t u : DT} {d e : DS} {i j : Nat} {x y : D}
theorem x_seq : dSeq d e E δ S = d { E with nx := e E } δ S := propext Iff.rfl
theorem x_nx : dNext E δ S = E.nx δ S := propext Iff.rfl
theorem x_pass : dPass E δ S = E.nx δ S := propext Iff.rfl
theorem x_brk : dBreak E δ S = E.bk δ S := propext Iff.rfl
theorem x_cnt : dCont E δ S = E.ct δ S := propext Iff.rfl
theorem x_drop : dDrop de E δ S = de δ S fun _ S1 => E.nx δ S1 := propext Iff.rfl
theorem x_ret : dRet de E δ S = de δ S E.rt := propext Iff.rfl
theorem x_retN : dRetN E δ S = E.rt .non S := propext Iff.rfl
theorem x_ifS : dIfS t d e E δ S = t δ S fun b S1 => branch b (d E δ S1) (e E δ S1) ⟨⟩ := propext Iff.rfl
theorem x_set : dSet de i E δ S = de δ S fun x S1 => E.nx (δ.set i (some x)) S1 := propext Iff.rfl
theorem x_asg {g : DG} : dAsg de g E δ S = de δ S fun x S1 => g x δ S1 E.nx := propext Iff.rfl
theorem x_gN {kg : Dst → Sto → Prop} : gN i x δ S kg = kg (δ.set i (some x)) S := propext Iff.rfl
theorem x_gT {n : Nat} {gs : DGs} {ds : List D} {kg : Dst → Sto → Prop} : gT n gs (.tup ds) δ S kg = need (ds.length = n) (gs ds δ S kg) ⟨⟩ := propext Iff.rfl
theorem x_gsC {g : DG} {gs : DGs} {ds : List D} {kg : Dst → Sto → Prop} : gsCons g gs (x :: ds) δ S kg = g x δ S fun δ' S' => gs ds δ' S' kg := propext Iff.rfl
theorem x_gsN {kg : Dst → Sto → Prop} : gsNil [] δ S kg = kg δ S := propext Iff.rfl
theorem x_var : dVar i δ S k = rdv δ[i]? S k ⟨⟩ := propext (by unfold dVar rdv; exact Iff.rfl)
theorem x_rdv : rdv (some (some x)) S k ⟨⟩ = k x S := propext Iff.rfl
theorem x_c : dC x δ S k = k x S := propext Iff.rfl
theorem x_op {rd : DR2} : dOp rd da db δ S k = da δ S fun x S1 => db δ S1 fun y S2 => rd x y S2 k := propext Iff.rfl
theorem x_test : dTest de δ S kt = de δ S fun x S1 => tst x S1 kt ⟨⟩ := propext (by unfold dTest tst; exact Iff.rfl)
theorem x_tst {b : Bool} : tst (.bl b) S kt ⟨⟩ = kt b S := propext Iff.rfl
theorem x_and : dAnd t u δ S kt = t δ S fun c S1 => branch c (u δ S1 kt) (kt false S1) ⟨⟩ := propext Iff.rfl
theorem x_or : dOr t u δ S kt = t δ S fun c S1 => branch c (kt true S1) (u δ S1 kt) ⟨⟩ := propext Iff.rfl
theorem x_not : dNot t δ S kt = t δ S fun c S1 => kt (!c) S1 := propext Iff.rfl
theorem x_andV : dAndV da db δ S k = da δ S fun x S1 => tstV x (fun c => branch c (db δ S1 k) (k (.bl false) S1) ⟨⟩) ⟨⟩ := propext (by unfold dAndV tstV; exact Iff.rfl)
theorem x_orV : dOrV da db δ S k = da δ S fun x S1 => tstV x (fun c => branch c (k (.bl true) S1) (db δ S1 k) ⟨⟩) ⟨⟩ := propext (by unfold dOrV tstV; exact Iff.rfl)
theorem x_notV : dNotV da δ S k = da δ S fun x S1 => tstV x (fun c => k (.bl (!c)) S1) ⟨⟩ := propext (by unfold dNotV tstV; exact Iff.rfl)
theorem x_tstV {b : Bool} {kb : Bool → Prop} : tstV (.bl b) kb ⟨⟩ = kb b := propext Iff.rfl
theorem x_ifE : dIf t da db δ S k = t δ S fun c S1 => branch c (da δ S1 k) (db δ S1 k) ⟨⟩ := propext Iff.rfl
theorem x_true {A B : Prop} : branch true A B ⟨⟩ = A := by unfold branch; simp
theorem x_false {A B : Prop} : branch false A B ⟨⟩ = B := by unfold branch; simp
theorem x_nil : dNil δ S ka = ka [] S := propext Iff.rfl
theorem x_cons : dCons da dA δ S ka = da δ S fun x S1 => dA δ S1 fun xs S2 => ka (x :: xs) S2 := propext Iff.rfl
theorem x_tup : dTup dA δ S k = dA δ S fun xs S1 => few xs.length (k (.tup xs) S1) ⟨⟩ := propext Iff.rfl
theorem x_lst : dLst dA δ S k = dA δ S fun xs S1 => few xs.length (k (.list xs) S1) ⟨⟩ := propext Iff.rfl
theorem x_new : dNew dA δ S k = dA δ S fun xs S1 => few xs.length (fresh S1 (fun p => k (.ref p) (put S1 p (.lst xs))) ⟨⟩) ⟨⟩ := propext Iff.rfl
theorem x_newD : dNewD δ S k = fresh S (fun p => k (.ref p) (put S p (.dct []))) ⟨⟩ := propext Iff.rfl
theorem x_call {f : SpD} : dCall f dA δ S k = dA δ S fun xs S1 => ask f xs S1 k ⟨⟩ := propext Iff.rfl
theorem x_cb {rd : List D → Sto → DK → Prop} : dCB rd dA δ S k = dA δ S fun xs S1 => rd xs S1 k := propext Iff.rfl
theorem x_oI {f : Int → Int → D} {a b : Int} : oI f (.int a) (.int b) S k = k (f a b) S := propext Iff.rfl
theorem x_oIc {C : Int → Int → Prop} {f : Int → Int → D} {a b : Int} : oIc C f (.int a) (.int b) S k = need (C a b) (k (f a b) S) ⟨⟩ := propext Iff.rfl
theorem x_oS {f : Str → Str → D} {a b : Str} : oS f (.str a) (.str b) S k = k (f a b) S := propext Iff.rfl
theorem x_addS {a b : Str} : oAddS (.str a) (.str b) S k = few (a.length + b.length) (k (.str (a ++ b)) S) ⟨⟩ := propext Iff.rfl
theorem x_isN : oIsN false x .non S k = k (.bl (isNon x)) S := propext Iff.rfl
theorem x_notN : oIsN true x .non S k = k (.bl (!isNon x)) S := propext Iff.rfl
theorem x_eqI {a b : Int} : oEq false (.int a) (.int b) S k = k (.bl (decide (a = b))) S := propext Iff.rfl
theorem x_eqS {a b : Str} : oEq false (.str a) (.str b) S k = k (.bl (decide (a = b))) S := propext Iff.rfl
theorem x_eqIS {a : Int} {b : Str} : oEq false (.int a) (.str b) S k = k (.bl false) S := propext Iff.rfl
theorem x_eqSI {a : Str} {b : Int} : oEq false (.str a) (.int b) S k = k (.bl false) S := propext Iff.rfl
theorem x_eqNS {b : Str} : oEq false .non (.str b) S k = k (.bl false) S := propext Iff.rfl
theorem x_neI {a b : Int} : oEq true (.int a) (.int b) S k = k (.bl (!decide (a = b))) S := propext Iff.rfl
theorem x_neS {a b : Str} : oEq true (.str a) (.str b) S k = k (.bl (!decide (a = b))) S := propext Iff.rfl
theorem x_neB {a b : Bool} : oEq true (.bl a) (.bl b) S k = k (.bl (!decide (a = b))) S := propext Iff.rfl
theorem x_eqB {a b : Bool} : oEq false (.bl a) (.bl b) S k = k (.bl (decide (a = b))) S := propext Iff.rfl
theorem x_lenS {z : Str} : oLen [.str z] S k = few z.length (k (.int z.length) S) ⟨⟩ := propext Iff.rfl
theorem ix_of {ds : List D} {i : Int} {d : D} {k : DK} {x : D} (hx : x = .list ds ∨ x = .tup ds ∨ x = .scr ds) (h : atI ds i = some d) : oIx x (.int i) S k = k d S := by
  rcases hx with rfl | rfl | rfl
  all_goals
    refine propext ⟨fun ⟨es, e, hs, he, q⟩ => ?_, fun q => ⟨ds, d, rfl, h, q⟩⟩
    cases (show ds = es from hs)
    rw [h] at he
    cases he
    exact q
theorem x_ix {a : Int} : oIx x (.int a) S k = ixq x a S k ⟨⟩ := propext Iff.rfl
theorem x_ixq {ds : List D} {i : Int} {d : D} (hx : x = .list ds ∨ x = .tup ds ∨ x = .scr ds) (h : atI ds i = some d) : ixq x i S k ⟨⟩ = k d S := ix_of hx h
theorem x_ixL0 {a : D} {r : List D} : ixq (.list (a :: r)) 0 S k ⟨⟩ = k a S := ix_of (.inl rfl) (atI_nat (j := 0) rfl)
theorem x_ixT0 {a : D} {r : List D} : ixq (.tup (a :: r)) 0 S k ⟨⟩ = k a S := ix_of (.inr (.inl rfl)) (atI_nat (j := 0) rfl)
theorem x_ixT1 {a b : D} {r : List D} : ixq (.tup (a :: b :: r)) 1 S k ⟨⟩ = k b S := ix_of (.inr (.inl rfl)) (atI_nat (j := 1) rfl)
theorem x_ixT2 {a b c : D} {r : List D} : ixq (.tup (a :: b :: c :: r)) 2 S k ⟨⟩ = k c S := ix_of (.inr (.inl rfl)) (atI_nat (j := 2) rfl)
theorem x_ixT3 {a b c d : D} {r : List D} : ixq (.tup (a :: b :: c :: d :: r)) 3 S k ⟨⟩ = k d S := ix_of (.inr (.inl rfl)) (atI_nat (j := 3) rfl)
theorem x_ixT4 {a b c d e : D} {r : List D} : ixq (.tup (a :: b :: c :: d :: e :: r)) 4 S k ⟨⟩ = k e S := ix_of (.inr (.inl rfl)) (atI_nat (j := 4) rfl)
theorem seq_of {S : Sto} {x : D} {ds : List D} {Q : List D → Prop} (h : SeqD S x ds) : (∃ es, SeqD S x es ∧ Q es) = Q ds := by
  refine propext ⟨fun ⟨es, hs, q⟩ => ?_, fun q => ⟨ds, h, q⟩⟩
  have : es = ds := by
    unfold SeqD at h hs
    cases x with
    | list l => exact hs.symm.trans h
    | scr l => exact hs.symm.trans h
    | tup l => exact hs.symm.trans h
    | ref a =>
      have h' : S a = some (.lst ds) := h
      have hs' : S a = some (.lst es) := hs
      rw [h'] at hs'
      cases hs'
      rfl
    | _ => exact h.elim
  rw [← this]
  exact q
theorem x_lenL {ds : List D} : oLen [.list ds] S k = k (.int ds.length) S := seq_of (Q := fun es => k (.int es.length) S) rfl
theorem x_lenT {ds : List D} : oLen [.tup ds] S k = k (.int ds.length) S := seq_of (Q := fun es => k (.int es.length) S) rfl
theorem x_lenC {ds : List D} : oLen [.scr ds] S k = k (.int ds.length) S := seq_of (Q := fun es => k (.int es.length) S) rfl
theorem x_lenR {a : Addr} {ds : List D} (h : S a = some (.lst ds)) : oLen [.ref a] S k = k (.int ds.length) S := seq_of (Q := fun es => k (.int es.length) S) h
theorem x_listL {ds : List D} : oList [.list ds] S k = k (.list ds) S := seq_of (Q := fun es => k (.list es) S) rfl
theorem x_listT {ds : List D} : oList [.tup ds] S k = k (.list ds) S := seq_of (Q := fun es => k (.list es) S) rfl
theorem x_tupL {ds : List D} : oTuple [.list ds] S k = k (.tup ds) S := seq_of (Q := fun es => k (.tup es) S) rfl
theorem x_tupT {ds : List D} : oTuple [.tup ds] S k = k (.tup ds) S := seq_of (Q := fun es => k (.tup es) S) rfl
theorem x_tupR {a : Addr} {ds : List D} (h : S a = some (.lst ds)) : oTuple [.ref a] S k = k (.tup ds) S := seq_of (Q := fun es => k (.tup es) S) h
theorem x_strI {a : Int} : oStr [.int a] S k = need (a.natAbs.log2 < 1920) (k (.str (toString a)) S) ⟨⟩ := propext Iff.rfl
theorem x_strS {a : Str} : oStr [.str a] S k = k (.str a) S := propext Iff.rfl
theorem x_int1 {a : Int} : oInt1 [.int a] S k = k (.int a) S := propext Iff.rfl
theorem x_intB {b : Bool} : oInt1 [.bl b] S k = k (.int (if b then 1 else 0)) S := propext Iff.rfl
theorem x_I1 {f : Int → D} {a : Int} : oI1 f [.int a] S k = k (f a) S := propext Iff.rfl
theorem x_I2 {f : Int → Int → D} {a b : Int} : oI2 f [.int a, .int b] S k = k (f a b) S := propext Iff.rfl
theorem x_cat {a b : List D} : oCat (.list a) (.list b) S k = few (a.length + b.length) (k (.list (a ++ b)) S) ⟨⟩ := propext Iff.rfl
theorem x_catT {a b : List D} : oCatT (.tup a) (.tup b) S k = need (a ≠ []) (few (a.length + b.length) (k (.tup (a ++ b)) S) ⟨⟩) ⟨⟩ := propext Iff.rfl
theorem x_split {a b : Str} : dSplit (dC (.str a)) (dC (.str b)) δ S k = need ((b.length == 0) = false) (few (a.length + 2) (k (.list ((Txt.split a b).map D.str)) S) ⟨⟩) ⟨⟩ := propext Iff.rfl
theorem x_frz : dFrz i δ S k = rdv δ[i]? S (fun x _ => ∃ a ds, x = .ref a ∧ S a = some (.lst ds) ∧ k (.list ds) (del S a)) ⟨⟩ := by
  unfold dFrz rdv
  refine propext ⟨fun h => ?_, fun h => ?_⟩
  · split at h
    · rename_i b e
      obtain ⟨ds, h1, h2⟩ := h
      rw [e]
      exact ⟨b, ds, rfl, h1, h2⟩
    · exact h.elim
  · split at h
    · rename_i d e
      obtain ⟨b, ds, rfl, h1, h2⟩ := h
      rw [e]
      exact ⟨ds, h1, h2⟩
    · exact h.elim
end
theorem br {b : Bool} {A B : Prop} (h1 : b = true → A) (h2 : b = false → B) : branch b A B ⟨⟩ := by
  unfold branch
  cases b with
  | true => exact h1 rfl
  | false => exact h2 rfl
/-- values that are reckoned without a change of the store -/
def PvD (de : DE) (δ : Dst) (S : Sto) (d : D) : Prop := ∀ k : DK, k d S → de δ S k
def PvT (t : DT) (δ : Dst) (S : Sto) (b : Bool) : Prop := ∀ k : Bool → Sto → Prop, k b S → t δ S k
section
variable {δ : Dst} {S : Sto} {t u : DT} {a b : Bool} {de : DE}
theorem pt_ok (h : ∀ k : Bool → Sto → Prop, t δ S k = k b S) : PvT t δ S b := fun k q => by rw [h]; exact q
theorem pv_or (h1 : PvT t δ S a) (h2 : a = false → PvT u δ S b) : PvT (dOr t u) δ S (a || b) := fun k q => h1 _ (by
  cases a with
  | true => exact q
  | false => exact h2 rfl k q)
theorem pv_and (h1 : PvT t δ S a) (h2 : a = true → PvT u δ S b) : PvT (dAnd t u) δ S (a && b) := fun k q => h1 _ (by
  cases a with
  | true => exact h2 rfl k q
  | false => exact q)
theorem pv_not (h1 : PvT t δ S a) : PvT (dNot t) δ S (!a) := fun k q => h1 _ q
theorem pv_is {c : Bool} (h : PvT t δ S a) (e : a = c) : PvT t δ S c := e ▸ h
theorem x_ifP {E : DEnds} {d e : DS} (h : PvT t δ S b) (k : branch b (d E δ S) (e E δ S) ⟨⟩) : dIfS t d e E δ S := h _ k
theorem x_seqIfP {E : DEnds} {d e r : DS} (h : PvT t δ S b) (k : branch b (d { E with nx := r E } δ S) (e { E with nx := r E } δ S) ⟨⟩) : dSeq (dIfS t d e) r E δ S := h _ k
end
end DL
namespace DL
open PySem L2 Evl EX
section
variable {S : Sto} {k : DK} {tp : Addr} {x : D}
theorem drawOf {n : Int} (hT : S tp = some .tap) (h0 : 0 < n) (h1 : n < 1073741824) (h : ∀ r : Nat, (r : Int) < n → k (.int (r : Int)) S) : ask dDraw [.ref tp, .int n] S k ⟨⟩ :=
  ⟨tp, n, rfl, hT, h0, h1, fun r r0 r1 => by
    have e : r = ((r.toNat : Nat) : Int) := by omega
    rw [e]
    exact h r.toNat (by omega)⟩
/-- xs[j], j a place that is there -/
theorem ixAt {ds : List D} {j : Nat} {d : D} (hx : x = .list ds ∨ x = .tup ds ∨ x = .scr ds) (h : ds[j]? = some d) (q : k d S) : ixq x (j : Int) S k ⟨⟩ := by
  rw [x_ixq hx (atI_nat h)]
  exact q
theorem ixS {z : Str} {j c : Nat} (hz : z.length ≤ 100000) (h : z.cps.toList[j]? = some c) (q : k (.str ⟨#[c]⟩) S) : ixq (.str z) (j : Int) S k ⟨⟩ := ⟨c, hz, atI_nat h, q⟩
theorem fewOf {n : Nat} {A : Prop} (h : n ≤ 100000) (q : A) : few n A ⟨⟩ := ⟨h, q⟩
theorem needOf {C A : Prop} (h : C) (q : A) : need C A ⟨⟩ := ⟨h, q⟩
theorem freshOf {k : Addr → Prop} (h : ∀ p, S p = none → k p) : fresh S k ⟨⟩ := h
theorem askOf {f : SpD} {xs : List D} (h : f xs S k fun _ _ _ => False) : ask f xs S k ⟨⟩ := h
end
end DL

set_option Elab.async false
set_option linter.all false
set_option maxRecDepth 100000
namespace DL
open PySem L2 Evl EX
theorem nrfl {α : Sort _} {a b : α} (h : a = b) : a = b := h
theorem x_flS {s : Str} : flatD (.str s) = true := nrfl rfl
theorem x_flI {s : Int} : flatD (.int s) = true := nrfl rfl
theorem x_flN : flatD .non = true := nrfl rfl
theorem x_flB {s : Bool} : flatD (.bl s) = true := nrfl rfl
theorem x_cs_bool : ("bool" ∈ Cs) = True := eq_true (by decide)
theorem x_isB_NoneType_bool : isB "NoneType" "bool" = false := nrfl (by decide)
theorem x_isB_bool_bool : isB "bool" "bool" = true := nrfl (by decide)
theorem x_isB_int_bool : isB "int" "bool" = false := nrfl (by decide)
theorem x_isB_str_bool : isB "str" "bool" = false := nrfl (by decide)
theorem x_isB_list_bool : isB "list" "bool" = false := nrfl (by decide)
theorem x_isB_tuple_bool : isB "tuple" "bool" = false := nrfl (by decide)
theorem x_isB_dict_bool : isB "dict" "bool" = false := nrfl (by decide)
theorem x_cs_int : ("int" ∈ Cs) = True := eq_true (by decide)
theorem x_isB_NoneType_int : isB "NoneType" "int" = false := nrfl (by decide)
theorem x_isB_bool_int : isB "bool" "int" = true := nrfl (by decide)
theorem x_isB_int_int : isB "int" "int" = true := nrfl (by decide)
theorem x_isB_str_int : isB "str" "int" = false := nrfl (by decide)
theorem x_isB_list_int : isB "list" "int" = false := nrfl (by decide)
theorem x_isB_tuple_int : isB "tuple" "int" = false := nrfl (by decide)
theorem x_isB_dict_int : isB "dict" "int" = false := nrfl (by decide)
theorem x_cs_str : ("str" ∈ Cs) = True := eq_true (by decide)
theorem x_isB_NoneType_str : isB "NoneType" "str" = false := nrfl (by decide)
theorem x_isB_bool_str : isB "bool" "str" = false := nrfl (by decide)
theorem x_isB_int_str : isB "int" "str" = false := nrfl (by decide)
theorem x_isB_str_str : isB "str" "str" = true := nrfl (by decide)
theorem x_isB_list_str : isB "list" "str" = false := nrfl (by decide)
theorem x_isB_tuple_str : isB "tuple" "str" = false := nrfl (by decide)
theorem x_isB_dict_str : isB "dict" "str" = false := nrfl (by decide)
theorem x_cs_list : ("list" ∈ Cs) = True := eq_true (by decide)
theorem x_isB_NoneType_list : isB "NoneType" "list" = false := nrfl (by decide)
theorem x_isB_bool_list : isB "bool" "list" = false := nrfl (by decide)
theorem x_isB_int_list : isB "int" "list" = false := nrfl (by decide)
theorem x_isB_str_list : isB "str" "list" = false := nrfl (by decide)
theorem x_isB_list_list : isB "list" "list" = true := nrfl (by decide)
theorem x_isB_tuple_list : isB "tuple" "list" = false := nrfl (by decide)
theorem x_isB_dict_list : isB "dict" "list" = false := nrfl (by decide)
theorem x_cs_tuple : ("tuple" ∈ Cs) = True := eq_true (by decide)
theorem x_isB_NoneType_tuple : isB "NoneType" "tuple" = false := nrfl (by decide)
theorem x_isB_bool_tuple : isB "bool" "tuple" = false := nrfl (by decide)
theorem x_isB_int_tuple : isB "int" "tuple" = false := nrfl (by decide)
theorem x_isB_str_tuple : isB "str" "tuple" = false := nrfl (by decide)
theorem x_isB_list_tuple : isB "list" "tuple" = false := nrfl (by decide)
theorem x_isB_tuple_tuple : isB "tuple" "tuple" = true := nrfl (by decide)
theorem x_isB_dict_tuple : isB "dict" "tuple" = false := nrfl (by decide)
theorem x_cs_dict : ("dict" ∈ Cs) = True := eq_true (by decide)
theorem x_isB_NoneType_dict : isB "NoneType" "dict" = false := nrfl (by decide)
theorem x_isB_bool_dict : isB "bool" "dict" = false := nrfl (by decide)
theorem x_isB_int_dict : isB "int" "dict" = false := nrfl (by decide)
theorem x_isB_str_dict : isB "str" "dict" = false := nrfl (by decide)
theorem x_isB_list_dict : isB "list" "dict" = false := nrfl (by decide)
theorem x_isB_tuple_dict : isB "tuple" "dict" = false := nrfl (by decide)
theorem x_isB_dict_dict : isB "dict" "dict" = true := nrfl (by decide)
theorem isT {p : Prop} {i : Decidable p} (h : @decide p i = true) : p := @of_decide_eq_true p i h
theorem isF {p : Prop} {i : Decidable p} (h : @decide p i = false) : ¬ p := @of_decide_eq_false p i h
/-! what waits for an answer -/
def st2 (rd : DR2) (x y : D) (S : Sto) (k : DK) (_ : Tag k) : Prop := rd x y S k
def stC (rd : List D → Sto → DK → Prop) (xs : List D) (S : Sto) (k : DK) (_ : Tag k) : Prop := rd xs S k
def stM (rd : DM) (x : D) (xs : List D) (S : Sto) (k : DK) (_ : Tag k) : Prop := rd x xs S k
def stL (rd : D → Option Int → Option Int → Sto → DK → Prop) (x : D) (l u : Option Int) (S : Sto) (k : DK) (_ : Tag k) : Prop := rd x l u S k
def itL (x : D) (S : Sto) (k : List D → Sto → Prop) (_ : Tag k) : Prop := match x with
  | .list ds => k ds S
  | .scr ds => k ds S
  | _ => False
def itT (x : D) (S : Sto) (k : List D → Sto → Prop) (_ : Tag k) : Prop := match x with
  | .tup ds => k ds S
  | _ => False
def itS (x : D) (S : Sto) (k : List D → Sto → Prop) (_ : Tag k) : Prop := match x with
  | .str z => k (z.cps.toList.map fun c => .str ⟨#[c]⟩) S
  | _ => False
def forC (ds : List D) (g : DG) (b : DS) (E : DEnds) (δ : Dst) (S : Sto) (_ : Tag (E, g, b)) : Prop := ∃ I : Nat → Dst → Sto → Prop, I 0 δ S ∧
  (∀ n d δ' S', ds[n]? = some d → I n δ' S' → g d δ' S' fun δ2 S2 => b { E with nx := I (n + 1), ct := I (n + 1), bk := E.nx } δ2 S2) ∧ ∀ δ' S', I ds.length δ' S' → E.nx δ' S'
def lcC (ds : List D) (g : DGc) (t : DT) (de : DE) (vs : List Nat) (δ : Dst) (S : Sto) (k : DK) (_ : Tag (k, g, t, de)) : Prop := ds.length < 100000 ∧ ∀ p, S p = none → ∃ I : Nat → List D → Sto → Prop, I 0 [] S ∧
  (∀ n d acc S', ds[n]? = some d → S' p = none → I n acc S' → g d (wipeD δ vs) fun δ2 => t δ2 (put S' p (.lst acc)) fun b S2 => if b = true then de δ2 S2 (fun y S3 => ∃ S4, S4 p = none ∧ S3 = put S4 p (.lst acc) ∧ I (n + 1) (acc ++ [y]) S4) else ∃ S4, S4 p = none ∧ S2 = put S4 p (.lst acc) ∧ I (n + 1) acc S4) ∧
  ∀ acc S', S' p = none → I ds.length acc S' → k (.list acc) S'
def cutC (d e : DS) (E : DEnds) (δ : Dst) (S : Sto) (_ : Tag (E, d, e)) : Prop := dCut d e E δ S
theorem x_cut {d e : DS} {E : DEnds} {δ : Dst} {S : Sto} : dCut d e E δ S = cutC d e E δ S ⟨⟩ := propext Iff.rfl
/-- a word between a statement and the rest -/
theorem cutOf {d e : DS} {E : DEnds} {δ : Dst} {S : Sto} (M : Dst → Sto → Prop) (h : d { E with nx := M } δ S) (k : ∀ δ' S', M δ' S' → e E δ' S') : cutC d e E δ S ⟨⟩ := ⟨M, h, k⟩
def whlC (t : DT) (b : DS) (E : DEnds) (δ : Dst) (S : Sto) (_ : Tag (E, t, b)) : Prop := dWhile t b E δ S
section
variable {δ : Dst} {S : Sto} {k : DK} {kt : Bool → Sto → Prop} {ka : List D → Sto → Prop} {E : DEnds} {da db de : DE} {dA : DA} {t u : DT} {d e b : DS} {i j : Nat} {x y : D} {g : DG} {gc : DGc} {di : DI} {vs : List Nat} {ds : List D} {a : Addr}
theorem x_for : dFor di g b E δ S = di δ S fun ds S1 => forC ds g b E δ S1 ⟨⟩ := propext Iff.rfl
theorem x_lc : dLc di gc t de vs δ S k = di δ S fun ds S1 => lcC ds gc t de vs δ S1 k ⟨⟩ := propext Iff.rfl
theorem x_whl : dWhile t b E δ S = whlC t b E δ S ⟨⟩ := propext Iff.rfl
theorem x_diL : diL de δ S ka = de δ S fun x S1 => itL x S1 ka ⟨⟩ := propext (by unfold diL itL; exact Iff.rfl)
theorem x_diT : diT de δ S ka = de δ S fun x S1 => itT x S1 ka ⟨⟩ := propext (by unfold diT itT; exact Iff.rfl)
theorem x_diS : diStr de δ S ka = de δ S fun x S1 => itS x S1 ka ⟨⟩ := propext (by unfold diStr itS; exact Iff.rfl)
theorem x_itL : itL (.list ds) S ka ⟨⟩ = ka ds S := propext Iff.rfl
theorem x_itC : itL (.scr ds) S ka ⟨⟩ = ka ds S := propext Iff.rfl
theorem x_itT : itT (.tup ds) S ka ⟨⟩ = ka ds S := propext Iff.rfl
theorem x_itS {z : Str} : itS (.str z) S ka ⟨⟩ = ka (z.cps.toList.map fun c => .str ⟨#[c]⟩) S := propext Iff.rfl
def rng1 (xs : List D) (S : Sto) (k : List D → Sto → Prop) (_ : Tag k) : Prop := match xs with
  | [.int j] => -(2 ^ 62) ≤ j ∧ j < 2 ^ 62 ∧ k (rngD 0 j.toNat) S
  | _ => False
def rng2 (xs : List D) (S : Sto) (k : List D → Sto → Prop) (_ : Tag k) : Prop := match xs with
  | [.int i, .int j] => (-(2 ^ 62) ≤ i ∧ i < 2 ^ 62 ∧ -(2 ^ 62) ≤ j ∧ j < 2 ^ 62) ∧ k (rngD i (j - i).toNat) S
  | _ => False
def enm (xs : List D) (S : Sto) (k : List D → Sto → Prop) (_ : Tag k) : Prop := match xs with
  | [.list ds] => k (enumD ds) S
  | [.scr ds] => k (enumD ds) S
  | _ => False
theorem x_diR1 : diR1 dA δ S ka = dA δ S fun xs S1 => rng1 xs S1 ka ⟨⟩ := propext (by unfold diR1 rng1; exact Iff.rfl)
theorem x_diR2 : diR2 dA δ S ka = dA δ S fun xs S1 => rng2 xs S1 ka ⟨⟩ := propext (by unfold diR2 rng2; exact Iff.rfl)
theorem x_diE : diEnum dA δ S ka = dA δ S fun xs S1 => enm xs S1 ka ⟨⟩ := propext (by unfold diEnum enm; exact Iff.rfl)
theorem x_enmL : enm [.list ds] S ka ⟨⟩ = ka (enumD ds) S := propext Iff.rfl
theorem x_enmC : enm [.scr ds] S ka ⟨⟩ = ka (enumD ds) S := propext Iff.rfl
theorem rngOf {n : Int} (h0 : 0 ≤ n) (h1 : n ≤ 100000) (q : ka (rngD 0 n.toNat) S) : rng1 [.int n] S ka ⟨⟩ := ⟨by omega, by omega, q⟩
theorem rngOf2 {m n : Int} (h0 : -100000 ≤ m) (h1 : m ≤ 100000) (h2 : -100000 ≤ n) (h3 : n ≤ 100000) (q : ka (rngD m (n - m).toNat) S) : rng2 [.int m, .int n] S ka ⟨⟩ := ⟨⟨by omega, by omega, by omega, by omega⟩, q⟩
/-- a loop by its invariant -/
theorem forOf (I : Nat → Dst → Sto → Prop) (h0 : I 0 δ S) (hs : ∀ n d δ' S', ds[n]? = some d → I n δ' S' → g d δ' S' fun δ2 S2 => b { E with nx := I (n + 1), ct := I (n + 1), bk := E.nx } δ2 S2) (hd : ∀ δ' S', I ds.length δ' S' → E.nx δ' S') : forC ds g b E δ S ⟨⟩ := ⟨I, h0, hs, hd⟩
theorem whlOf (W : Nat → Dst → Sto → Prop) (m : Nat) (h0 : W m δ S) (hs : ∀ m δ' S', W m δ' S' → t δ' S' fun c S1 => branch c (b { E with nx := fun δ2 S2 => ∃ m', m' < m ∧ W m' δ2 S2, ct := fun δ2 S2 => ∃ m', m' < m ∧ W m' δ2 S2, bk := E.nx } δ' S1) (E.nx δ' S1) ⟨⟩) : whlC t b E δ S ⟨⟩ := ⟨W, ⟨m, h0⟩, hs⟩
theorem lcOf (P : Nat → List D → Prop) (hl : ds.length < 100000) (h0 : P 0 [])
    (hs : ∀ p, S p = none → ∀ n d acc, ds[n]? = some d → P n acc → gc d (wipeD δ vs) fun δ2 => t δ2 (put S p (.lst acc)) fun b S2 => branch b (de δ2 S2 (fun y S3 => LcO S p acc (P (n + 1) (acc ++ [y])) S3)) (LcO S p acc (P (n + 1) acc) S2) ⟨⟩) (hd : ∀ acc, P ds.length acc → k (.list acc) S) :
    lcC ds gc t de vs δ S k ⟨⟩ := lc_go P hl h0 hs hd
theorem x_gcN {kg : Dst → Prop} : gcN i x δ kg = kg (δ.set i (some x)) := propext Iff.rfl
theorem x_gcT {js : List Nat} {kg : Dst → Prop} : gcT js (.tup ds) δ kg = need (ds.length = js.length) (kg (setD δ js ds)) ⟨⟩ := propext Iff.rfl
theorem x_yes : dYes δ S kt = kt true S := propext Iff.rfl
/-! methods -/
theorem x_ml {rd : DM} : dML rd da dA δ S k = da δ S fun x S1 => need (IsL S1 x) (dA δ S1 fun xs S2 => stM rd x xs S2 k ⟨⟩) ⟨⟩ := propext Iff.rfl
def strq (x : D) (k : Str → Prop) (_ : Tag k) : Prop := match x with
  | .str z => k z
  | _ => False
theorem x_ms {rd : DM} : dMS rd da dA δ S k = da δ S fun x S1 => strq x (fun z => dA δ S1 fun xs S2 => stM rd (.str z) xs S2 k ⟨⟩) ⟨⟩ := propext (by unfold dMS strq stM; exact Iff.rfl)
theorem x_strq {z : Str} {kz : Str → Prop} : strq (.str z) kz ⟨⟩ = kz z := propext Iff.rfl
theorem appOf (h : S a = some (.lst ds)) (hl : ds.length < 100000) (q : k .non (put S a (.lst (ds ++ [y])))) : stM oApp (.ref a) [y] S k ⟨⟩ := ⟨ds, h, hl, q⟩
theorem extOf {es : List D} (h : S a = some (.lst ds)) (hl : ds.length + es.length ≤ 100000) (q : k .non (put S a (.lst (ds ++ es)))) : stM oExt (.ref a) [.list es] S k ⟨⟩ := ⟨ds, h, hl, q⟩
theorem popOf (h : S a = some (.lst (ds ++ [y]))) (q : k y (put S a (.lst ds))) : stM oPop (.ref a) [] S k ⟨⟩ := ⟨ds, y, h, q⟩
theorem isLOf (h : S a = some (.lst ds)) : IsL S (.ref a) := ⟨ds, h⟩
theorem x_ss {f : Str → Str → D} {a b : Str} : stM (oSS f) (.str a) [.str b] S k ⟨⟩ = k (f a b) S := propext Iff.rfl
theorem x_ssc {C : Str → Str → Prop} {f : Str → Str → D} {a b : Str} : stM (oSSc C f) (.str a) [.str b] S k ⟨⟩ = need (C a b) (k (f a b) S) ⟨⟩ := propext Iff.rfl
theorem x_ssi {f : Str → Str → Int → D} {a b : Str} {i : Int} : stM (oSSI f) (.str a) [.str b, .int i] S k ⟨⟩ = k (f a b i) S := propext Iff.rfl
def joinq (a : Str) (y : D) (S : Sto) (k : DK) (_ : Tag k) : Prop := ∃ ys : List Str, SeqD S y (ys.map D.str) ∧ (ys.map (·.length)).sum + ys.length * a.length ≤ 16777216 ∧ k (.str (Txt.join a ys)) S
theorem x_join : dJoin da db δ S k = da δ S fun x S1 => strq x (fun z => db δ S1 fun y S2 => joinq z y S2 k ⟨⟩) ⟨⟩ := propext (by unfold dJoin strq joinq; exact Iff.rfl)
theorem x_st2I {f : Int → Int → D} {a b : Int} : st2 (oI f) (.int a) (.int b) S k ⟨⟩ = k (f a b) S := propext Iff.rfl
/-! slices -/
def DoP (o : Option Int) : DO := fun _ S k => k o S
theorem x_sl {rd : D → Option Int → Option Int → Sto → DK → Prop} {dl dh : DO} : dSl rd da dl dh δ S k = da δ S fun x S1 => dl δ S1 fun l S2 => dh δ S2 fun u S3 => stL rd x l u S3 k ⟨⟩ := propext Iff.rfl
theorem x_noP {ko : Option Int → Sto → Prop} : dNoP δ S ko = ko none S := propext Iff.rfl
def intq (x : D) (k : Int → Prop) (_ : Tag k) : Prop := match x with
  | .int z => k z
  | _ => False
theorem x_part {ko : Option Int → Sto → Prop} : dPart da δ S ko = da δ S fun x S1 => intq x (fun i => ko (some i) S1) ⟨⟩ := propext (by unfold dPart intq; exact Iff.rfl)
theorem x_intq {i : Int} {ki : Int → Prop} : intq (.int i) ki ⟨⟩ = ki i := propext Iff.rfl
theorem x_aug {f : Int → Int → Int} : dAug i f de E δ S = rdv δ[i]? S (fun x _ => intq x (fun a => de δ S fun y S1 => intq y (fun b => E.nx (δ.set i (some (.int (f a b)))) S1) ⟨⟩) ⟨⟩) ⟨⟩ := propext (by
  unfold dAug rdv intq
  cases h : δ[i]? with
  | none => exact Iff.rfl
  | some o =>
    cases o with
    | none => exact Iff.rfl
    | some d => cases d <;> exact Iff.rfl)
theorem x_slL {l u : Option Int} : stL oSlL (.list ds) l u S k ⟨⟩ = k (.list (cutD ds l u)) S := propext Iff.rfl
theorem x_slC {l u : Option Int} : stL oSlL (.scr ds) l u S k ⟨⟩ = k (.list (cutD ds l u)) S := propext Iff.rfl
theorem x_slS {l u : Option Int} {z : Str} : stL oSlS (.str z) l u S k ⟨⟩ = few z.length (k (.str (cutS z l u)) S) ⟨⟩ := propext Iff.rfl
theorem slTOf {l u : Option Int} (h : ¬ (HT.sIx ds.length 0 l = 0 ∧ HT.sIx ds.length ds.length u = ds.length)) (q : k (.tup (cutD ds l u)) S) : stL oSlT (.tup ds) l u S k ⟨⟩ := ⟨h, q⟩
/-! in, == -/
theorem x_in {neg : Bool} : oIn neg x y S k = st2 (oIn neg) x y S k ⟨⟩ := propext Iff.rfl
theorem x_inT (h1 : flatD x = true) (h2 : ds.all flatD = true) : st2 (oIn false) x (.tup ds) S k ⟨⟩ = k (.bl (inD x ds)) S :=
  (seq_of (Q := fun es => flatD x = true ∧ es.all flatD = true ∧ k (.bl (inD x es)) S) (show SeqD S (.tup ds) ds from rfl)).trans (propext ⟨fun z => z.2.2, fun z => ⟨h1, h2, z⟩⟩)
theorem x_inL (h1 : flatD x = true) (h2 : ds.all flatD = true) : st2 (oIn false) x (.list ds) S k ⟨⟩ = k (.bl (inD x ds)) S :=
  (seq_of (Q := fun es => flatD x = true ∧ es.all flatD = true ∧ k (.bl (inD x es)) S) (show SeqD S (.list ds) ds from rfl)).trans (propext ⟨fun z => z.2.2, fun z => ⟨h1, h2, z⟩⟩)
theorem x_ninT (h1 : flatD x = true) (h2 : ds.all flatD = true) : st2 (oIn true) x (.tup ds) S k ⟨⟩ = k (.bl (!inD x ds)) S :=
  (seq_of (Q := fun es => flatD x = true ∧ es.all flatD = true ∧ k (.bl (!inD x es)) S) (show SeqD S (.tup ds) ds from rfl)).trans (propext ⟨fun z => z.2.2, fun z => ⟨h1, h2, z⟩⟩)
theorem x_ninL (h1 : flatD x = true) (h2 : ds.all flatD = true) : st2 (oIn true) x (.list ds) S k ⟨⟩ = k (.bl (!inD x ds)) S :=
  (seq_of (Q := fun es => flatD x = true ∧ es.all flatD = true ∧ k (.bl (!inD x es)) S) (show SeqD S (.list ds) ds from rfl)).trans (propext ⟨fun z => z.2.2, fun z => ⟨h1, h2, z⟩⟩)
theorem x_inR (h : S a = some (.lst ds)) (h1 : flatD x = true) (h2 : ds.all flatD = true) : st2 (oIn false) x (.ref a) S k ⟨⟩ = k (.bl (inD x ds)) S :=
  (seq_of (Q := fun es => flatD x = true ∧ es.all flatD = true ∧ k (.bl (inD x es)) S) (show SeqD S (.ref a) ds from h)).trans (propext ⟨fun z => z.2.2, fun z => ⟨h1, h2, z⟩⟩)
theorem x_ninR (h : S a = some (.lst ds)) (h1 : flatD x = true) (h2 : ds.all flatD = true) : st2 (oIn true) x (.ref a) S k ⟨⟩ = k (.bl (!inD x ds)) S :=
  (seq_of (Q := fun es => flatD x = true ∧ es.all flatD = true ∧ k (.bl (!inD x es)) S) (show SeqD S (.ref a) ds from h)).trans (propext ⟨fun z => z.2.2, fun z => ⟨h1, h2, z⟩⟩)
theorem x_inN : inD x [] = false := by simp [inD, inV]
theorem x_inSS {s z : Str} : inD (.str s) (.str z :: ds) = (decide (s = z) || inD (.str s) ds) := by
  unfold inD
  rw [List.map_cons]
  show (([V.str z] ++ _).any _) = _
  rw [List.any_append]
  congr 1
  show ((z == s) || false) = _
  rw [Bool.or_false, Bool.eq_iff_iff]
  simp only [beq_iff_eq, decide_eq_true_eq]
  exact eq_comm
theorem x_inSI {s : Str} {z : Int} : inD (.str s) (.int z :: ds) = inD (.str s) ds := by unfold inD; rfl
theorem x_inIS {s : Int} {z : Str} : inD (.int s) (.str z :: ds) = inD (.int s) ds := by unfold inD; rfl
theorem x_inII {s z : Int} : inD (.int s) (.int z :: ds) = (decide (s = z) || inD (.int s) ds) := by
  unfold inD
  rw [List.map_cons]
  show (([V.int z] ++ _).any _) = _
  rw [List.any_append]
  congr 1
  show ((z == s) || false) = _
  rw [Bool.or_false, Bool.eq_iff_iff]
  simp only [beq_iff_eq, decide_eq_true_eq]
  exact eq_comm
theorem inD_strs {s : Str} {l : List Str} : inD (.str s) (l.map D.str) = decide (s ∈ l) := by
  unfold inD
  rw [List.map_map, show (l.map (toV ∘ D.str)) = l.map V.str from rfl]
  exact inV_str s l
theorem flat_strs (l : List Str) : (l.map D.str).all flatD = true := by
  induction l with
  | nil => rfl
  | cons a l ih => rw [List.map_cons, List.all_cons, ih]; rfl
theorem x_sg {neg : Bool} : oSg neg x y S k = st2 (oSg neg) x y S k ⟨⟩ := propext Iff.rfl
theorem x_sgS {c : Nat} {z : Str} : st2 (oSg false) (.str ⟨#[c]⟩) (.str z) S k ⟨⟩ = k (.bl (decide (c ∈ z.cps.toList))) S := propext ⟨fun ⟨d, e, q⟩ => by
  have : c = d := by injection e with e; injection e with e; simpa using congrArg (fun a : Array Nat => a.toList) e
  subst this
  exact q, fun q => ⟨c, rfl, q⟩⟩
theorem x_nsgS {c : Nat} {z : Str} : st2 (oSg true) (.str ⟨#[c]⟩) (.str z) S k ⟨⟩ = k (.bl (!decide (c ∈ z.cps.toList))) S := propext ⟨fun ⟨d, e, q⟩ => by
  have : c = d := by injection e with e; injection e with e; simpa using congrArg (fun a : Array Nat => a.toList) e
  subst this
  exact q, fun q => ⟨c, rfl, q⟩⟩
theorem x_eqD {neg : Bool} : oEqD neg x y S k = st2 (oEqD neg) x y S k ⟨⟩ := propext Iff.rfl
theorem x_inDD {neg : Bool} : oInD neg x y S k = st2 (oInD neg) x y S k ⟨⟩ := propext Iff.rfl
open Classical in
theorem eqDOf {p q : D} (hx : res S x = p) (hy : res S y = q) (h1 : p.nb = true) (h2 : q.nb = true) (h3 : min p.deep q.deep ≤ 64) (h : k (.bl (decide (p = q))) S) : st2 (oEqD false) x y S k ⟨⟩ := by
  subst hx hy
  exact ⟨false, h1, h2, h3, h⟩
open Classical in
theorem neDOf {p q : D} (hx : res S x = p) (hy : res S y = q) (h1 : p.nb = true) (h2 : q.nb = true) (h3 : min p.deep q.deep ≤ 64) (h : k (.bl (!decide (p = q))) S) : st2 (oEqD true) x y S k ⟨⟩ := by
  subst hx hy
  exact ⟨false, h1, h2, h3, h⟩
open Classical in
theorem eqBOf {p q : D} (hx : res S x = p) (hy : res S y = q) (h1 : p.nbG true = true) (h2 : q.nbG true = true) (h3 : min p.deep q.deep ≤ 64) (h : k (.bl (decide (p = q))) S) : st2 (oEqD false) x y S k ⟨⟩ := by
  subst hx hy
  exact ⟨true, h1, h2, h3, h⟩
theorem x_mulS {a : Str} {n : Int} : oMulS (.str a) (.int n) S k = need (a.length ≤ 16 ∧ -(2 ^ 63 : Int) ≤ n ∧ n ≤ 1048576) (k (.str (Txt.mul a n)) S) ⟨⟩ := propext ⟨fun ⟨a, b, c, d⟩ => ⟨⟨a, b, c⟩, d⟩, fun ⟨⟨a, b, c⟩, d⟩ => ⟨a, b, c, d⟩⟩
theorem mulS1 {c n : Nat} : Txt.mul ⟨#[c]⟩ (n : Int) = ⟨(List.replicate n c).toArray⟩ := by
  have h := PyProof.Rows.mul_one_list c ((n : Nat) : Int)
  rw [Int.toNat_natCast] at h
  have : (Txt.mul ⟨#[c]⟩ ((n : Nat) : Int)).cps = (List.replicate n c).toArray := by rw [← h]
  exact congrArg Str.mk this
/-! isinstance, any, all, sorted, .. -/
theorem x_isi {xs : List D} : oIsi xs S k = stC oIsi xs S k ⟨⟩ := propext Iff.rfl
theorem isi_of {c t : String} (h : tyD S x = some t) (hc : c ∈ Cs) : stC oIsi [x, .ty c] S k ⟨⟩ = k (.bl (isB t c)) S := propext ⟨fun ⟨u, hu, _, q⟩ => by rw [h] at hu; cases hu; exact q, fun q => ⟨t, h, hc, q⟩⟩
theorem x_isiS {s : Str} {c : String} (hc : c ∈ Cs) : stC oIsi [.str s, .ty c] S k ⟨⟩ = k (.bl (isB "str" c)) S := isi_of rfl hc
theorem x_isiI {s : Int} {c : String} (hc : c ∈ Cs) : stC oIsi [.int s, .ty c] S k ⟨⟩ = k (.bl (isB "int" c)) S := isi_of rfl hc
theorem x_isiB {s : Bool} {c : String} (hc : c ∈ Cs) : stC oIsi [.bl s, .ty c] S k ⟨⟩ = k (.bl (isB "bool" c)) S := isi_of rfl hc
theorem x_isiN {c : String} (hc : c ∈ Cs) : stC oIsi [.non, .ty c] S k ⟨⟩ = k (.bl (isB "NoneType" c)) S := isi_of rfl hc
theorem x_isiL {c : String} (hc : c ∈ Cs) : stC oIsi [.list ds, .ty c] S k ⟨⟩ = k (.bl (isB "list" c)) S := isi_of rfl hc
theorem x_isiT {c : String} (hc : c ∈ Cs) : stC oIsi [.tup ds, .ty c] S k ⟨⟩ = k (.bl (isB "tuple" c)) S := isi_of rfl hc
theorem x_isiR {c : String} (h : S a = some (.lst ds)) (hc : c ∈ Cs) : stC oIsi [.ref a, .ty c] S k ⟨⟩ = k (.bl (isB "list" c)) S := isi_of (by simp only [tyD, h]) hc
def isTq (c1 c2 : String) (x : D) (S : Sto) (k : DK) (_ : Tag k) : Prop := ∃ t, tyD S x = some t ∧ c1 ∈ Cs ∧ c2 ∈ Cs ∧ k (.bl (isB t c1 || isB t c2)) S
theorem x_isTT {c1 c2 : String} : dIsiT c1 c2 de δ S k = de δ S fun x S1 => isTq c1 c2 x S1 k ⟨⟩ := propext Iff.rfl
theorem isT_of {c1 c2 t : String} (h : tyD S x = some t) (h1 : c1 ∈ Cs) (h2 : c2 ∈ Cs) : isTq c1 c2 x S k ⟨⟩ = k (.bl (isB t c1 || isB t c2)) S := propext ⟨fun ⟨u, hu, _, _, q⟩ => by rw [h] at hu; cases hu; exact q, fun q => ⟨t, h, h1, h2, q⟩⟩
theorem x_itI {c1 c2 : String} {s : Int} (h1 : c1 ∈ Cs) (h2 : c2 ∈ Cs) : isTq c1 c2 (.int s) S k ⟨⟩ = k (.bl (isB "int" c1 || isB "int" c2)) S := isT_of rfl h1 h2
theorem x_itStr {c1 c2 : String} {s : Str} (h1 : c1 ∈ Cs) (h2 : c2 ∈ Cs) : isTq c1 c2 (.str s) S k ⟨⟩ = k (.bl (isB "str" c1 || isB "str" c2)) S := isT_of rfl h1 h2
theorem x_itN {c1 c2 : String} (h1 : c1 ∈ Cs) (h2 : c2 ∈ Cs) : isTq c1 c2 .non S k ⟨⟩ = k (.bl (isB "NoneType" c1 || isB "NoneType" c2)) S := isT_of rfl h1 h2
theorem x_itB {c1 c2 : String} {s : Bool} (h1 : c1 ∈ Cs) (h2 : c2 ∈ Cs) : isTq c1 c2 (.bl s) S k ⟨⟩ = k (.bl (isB "bool" c1 || isB "bool" c2)) S := isT_of rfl h1 h2
theorem x_itLst {c1 c2 : String} (h1 : c1 ∈ Cs) (h2 : c2 ∈ Cs) : isTq c1 c2 (.list ds) S k ⟨⟩ = k (.bl (isB "list" c1 || isB "list" c2)) S := isT_of rfl h1 h2
theorem x_itTup {c1 c2 : String} (h1 : c1 ∈ Cs) (h2 : c2 ∈ Cs) : isTq c1 c2 (.tup ds) S k ⟨⟩ = k (.bl (isB "tuple" c1 || isB "tuple" c2)) S := isT_of rfl h1 h2
theorem ixSeq {j : Nat} {d : D} (h : SeqD S x ds) (hd : ds[j]? = some d) (q : k d S) : ixq x (j : Int) S k ⟨⟩ := by
  cases x with
  | list l => exact ixAt (.inl rfl) (by rw [show l = ds from h]; exact hd) q
  | tup l => exact ixAt (.inr (.inl rfl)) (by rw [show l = ds from h]; exact hd) q
  | scr l => exact ixAt (.inr (.inr rfl)) (by rw [show l = ds from h]; exact hd) q
  | ref a => exact ⟨ds, d, h, atI_nat hd, q⟩
  | _ => exact (show False from h).elim
theorem x_any {xs : List D} : oAny xs S k = stC oAny xs S k ⟨⟩ := propext Iff.rfl
theorem x_all {xs : List D} : oAll xs S k = stC oAll xs S k ⟨⟩ := propext Iff.rfl
theorem x_sum {xs : List D} : oSum xs S k = stC oSum xs S k ⟨⟩ := propext Iff.rfl
theorem x_srtI {xs : List D} : oSortI xs S k = stC oSortI xs S k ⟨⟩ := propext Iff.rfl
theorem x_srtS {xs : List D} : oSortS xs S k = stC oSortS xs S k ⟨⟩ := propext Iff.rfl
theorem x_intS {z : Str} : oIntS [.str z] S k = stC oIntS [.str z] S k ⟨⟩ := propext Iff.rfl
theorem x_lenRf : oLen [.ref a] S k = stC oLen [.ref a] S k ⟨⟩ := propext Iff.rfl
theorem lenRf (h : S a = some (.lst ds)) (q : k (.int ds.length) S) : stC oLen [.ref a] S k ⟨⟩ := by
  show oLen [.ref a] S k
  rw [x_lenR h]
  exact q
theorem x_tupRf : oTuple [.ref a] S k = stC oTuple [.ref a] S k ⟨⟩ := propext Iff.rfl
theorem tupRf (h : S a = some (.lst ds)) (q : k (.tup ds) S) : stC oTuple [.ref a] S k ⟨⟩ := by
  show oTuple [.ref a] S k
  rw [x_tupR h]
  exact q
def frzq (x : D) (S : Sto) (k : DK) (_ : Tag k) : Prop := ∃ a ds, x = .ref a ∧ S a = some (.lst ds) ∧ k (.list ds) (del S a)
theorem frzOf (h : S a = some (.lst ds)) (q : k (.list ds) (del S a)) : frzq (.ref a) S k ⟨⟩ := ⟨a, ds, rfl, h, q⟩
theorem x_frz' : dFrz i δ S k = rdv δ[i]? S (fun x _ => frzq x S k ⟨⟩) ⟨⟩ := x_frz
end
end DL

set_option Elab.async false
set_option linter.all false
set_option maxRecDepth 100000
/-! ### classes of the program's own -/
namespace DL
open PySem L2 Evl EX
/-- a class: what the text has of it, its fields -/
structure ClsD (K : PySem.W.Frag) (C : Addr) (flds : List Str) : Prop where
  cl : Cls K C
  nF : ∀ f ∈ flds, NoAttr K C f
structure MDef (P : Program) (w : World) (K : PySem.W.Frag) (mg : Str → Option Value) (base : Heap) (k : Nat) (C : Addr) (m : Str) (ps : List Str) (sp : Sp) : Prop where
  ex : ∃ (f : Addr) (fd : FuncData), FnOk P w K mg base CX0 k f fd ps sp ∧ Meth K C m f ∧ Binds K fd ps []
structure MkDef (P : Program) (w : World) (K : PySem.W.Frag) (mg : Str → Option Value) (base : Heap) (k : Nat) (x : Str) (C : Addr) (ps : List Str) (sp : Sp) : Prop where
  ex : ∃ (f : Addr) (fd : FuncData), Mk K C f ∧ FnOk P w K mg base CX0 k f fd ps sp ∧ mg x = some (.ref C) ∧ Binds K fd ps []
def putFD (f : Str) (v : D) : List (Str × D) → List (Str × D)
  | [] => [(f, v)]
  | (g, w) :: r => if g = f then (g, v) :: r else (g, w) :: putFD f v r
section
variable {K : PySem.W.Frag} {B : Hp}
theorem rdkv_lookup {f : Str} : ∀ {fs : List (Str × V)} {gs : List (Str × D)}, RdKV K B fs gs → ∀ {d : D}, gs.lookup f = some d → ∃ v, fs.lookup f = some v ∧ RdD K B v d
  | _, _, .nil, _, h => by cases h
  | (a, v) :: fs, (b, e) :: gs, .cons h r, d, hd => by
    obtain ⟨h1, h2⟩ := h
    have h1 : a = b := h1
    subst h1
    rw [List.lookup_cons] at hd ⊢
    cases q : f == a with
    | true => rw [q] at hd; cases hd; exact ⟨v, rfl, h2⟩
    | false => rw [q] at hd; exact rdkv_lookup r hd
theorem rdkv_none {f : Str} : ∀ {fs : List (Str × V)} {gs : List (Str × D)}, RdKV K B fs gs → gs.lookup f = none → fs.lookup f = none
  | _, _, .nil, _ => rfl
  | (a, v) :: fs, (b, e) :: gs, .cons h r, hd => by
    have h1 : a = b := h.1
    subst h1
    rw [List.lookup_cons] at hd ⊢
    cases q : f == a with
    | true => rw [q] at hd; cases hd
    | false => rw [q] at hd; exact rdkv_none r hd
theorem rdkv_put {f : Str} {v : V} {d : D} (hv : RdD K B v d) : ∀ {fs : List (Str × V)} {gs : List (Str × D)}, RdKV K B fs gs → RdKV K B (putF f v fs) (putFD f d gs)
  | _, _, .nil => .cons ⟨rfl, hv⟩ .nil
  | (a, w) :: fs, (b, e) :: gs, .cons h r => by
    have h1 : a = b := h.1
    subst h1
    unfold putF putFD
    by_cases q : a = f
    · rw [if_pos q, if_pos q]
      exact .cons ⟨rfl, hv⟩ r
    · rw [if_neg q, if_neg q]
      exact .cons h (rdkv_put hv r)
end
def fldq (C : Addr) (x : D) (f : Str) (S : Sto) (k : DK) (_ : Tag k) : Prop := ∃ a dx fs v, x = .ref a ∧ S a = some (.ins C dx fs) ∧ fs.lookup f = some v ∧ k v S
def dFld (C : Addr) (de : DE) (f : Str) : DE := fun δ S k => de δ S fun x S1 => fldq C x f S1 k ⟨⟩
def fldsq (C : Addr) (x : D) (f : Str) (y : D) (S : Sto) (k : Sto → Prop) (_ : Tag k) : Prop := ∃ a dx fs, x = .ref a ∧ S a = some (.ins C dx fs) ∧ fs.length < 1000 ∧ k (put S a (.ins C dx (putFD f y fs)))
def dFldS (C : Addr) (dv dO : DE) (f : Str) : DS := fun E δ S => dv δ S fun y S1 => dO δ S1 fun x S2 => fldsq C x f y S2 (fun S3 => E.nx δ S3) ⟨⟩
/-- o.f op= e, of ints -/
def dFldA (C : Addr) (g : Int → Int → Int) (dv dO : DE) (f : Str) : DS := fun E δ S => dO δ S fun x S1 => fldq C x f S1 (fun v S2 => dv δ S2 fun y S3 => st2 (oI fun i j => .int (g i j)) v y S3 (fun z S4 => fldsq C x f z S4 (fun S5 => E.nx δ S5) ⟨⟩) ⟨⟩) ⟨⟩
def dMeth (C : Addr) (m : Str) (f : SpD) (dO : DE) (da : DA) : DE := fun δ S k => dO δ S fun x S1 => need (∃ a dx fs, x = .ref a ∧ S1 a = some (.ins C dx fs) ∧ fs.lookup m = none) (da δ S1 fun xs S2 => ask f (x :: xs) S2 k ⟨⟩) ⟨⟩
def dMake (C : Addr) (f : SpD) (da : DA) : DE := fun δ S k => da δ S fun xs S1 => fresh S1 (fun a => ∀ dx, ask f (.ref a :: xs) (put S1 a (.ins C dx [])) (fun v S2 => v = .non ∧ k (.ref a) S2) ⟨⟩) ⟨⟩
section
variable {X : Cx} {K : PySem.W.Frag} {W : WXD} {C : Addr} {o e value : Expr} {es : List Expr} {f m x : Str} {dO dv de : DE} {da : DA} {pos pos' apos tpos p : Pos} {flds : List Str} {k : Nat} {ps : List Str} {sp : SpD}
theorem de_fld (hc : ClsD K C flds) (hf : f ∈ flds) (h : PE X e (lE K de)) (hb : attributeBase e f X.env (eval e X.env) = eval e X.env := by rfl) (hk : X.K = K := by rfl) : PE X (.Attribute e f pos) (lE K (dFld C de f)) := by
  subst hk
  refine peOf (pe_fld h hb) fun σ H Q ⟨B, δ, S, k, s, r, h, q⟩ => ⟨B, δ, S, _, s, r, h, fun x S1 v B1 H1 h1 e1 r1 d1 => ?_⟩
  obtain ⟨a, dx, fs, v', rfl, ha, hl, h1⟩ := h1
  obtain ⟨gs, hg, rg⟩ := r1.ins ha
  obtain ⟨w, hw, rw'⟩ := rdkv_lookup rg hl
  cases rd_ref d1
  exact ⟨a, C, dx, gs, w, rfl, hg, hc.cl, hc.nF f hf, hw, q _ S1 _ B1 H1 h1 e1 r1 rw'⟩
theorem ds_fld (hc : ClsD K C flds) (hf : f ∈ flds) (ha : PE X o (lE K dO)) (hv : PE X value (lE K dv)) (hs : swapsWith value (some (.Attribute o f pos')) pos.line X.env = pure false := by rfl) (hk : X.K = K := by rfl) : PS X (.Assign [.Attribute o f pos'] value pos) (lS K W (dFldS C dv dO f)) := by
  subst hk
  refine psOf (ps_fld ha hv hs) fun E σ H ⟨B, δ, S, D, s, r, h, l⟩ => ⟨B, δ, S, _, s, r, h, fun y S1 w B1 H1 h1 e1 r1 d1 => ⟨B1, δ, S1, _, s.mono e1, r1, h1, fun x S2 v B2 H2 h2 e2 r2 d2 => ?_⟩⟩
  obtain ⟨a, dx, fs, rfl, ha, hl, h2⟩ := h2
  obtain ⟨gs, hg, rg⟩ := r2.ins ha
  cases rd_ref d2
  exact ⟨a, C, dx, gs, rfl, hg, hc.cl, hc.nF f hf, by rw [rdkv_len rg]; exact hl, l.nx δ _ σ B2 _ h2 (e1.trans e2) (s.mono (e1.trans e2)) (r2.mut ha (.ins (rdkv_put (d1.mono e2) rg)))⟩
theorem ds_fldaug {op : Operator} {g : Int → Int → Int} (hc : ClsD K C flds) (hf : f ∈ flds) (ha : PE X o (lE K dO)) (hv : PE X value (lE K dv)) (ho : InOp X op (fun x y H Q => ∃ i j, x = .int i ∧ y = .int j ∧ Q (.int (g i j)) H)) (hk : X.K = K := by rfl) : PS X (.AugAssign (.Attribute o f tpos) op value pos) (lS K W (dFldA C g dv dO f)) := by
  subst hk
  refine psOf (ps_fldaug ha hv ho) fun E σ H ⟨B, δ, S, D, s, r, h, l⟩ => ⟨B, δ, S, _, s, r, h, fun x S1 v B1 H1 h1 e1 r1 d1 => ?_⟩
  obtain ⟨a, dx, fs, v', rfl, ha, hl, h1⟩ := h1
  obtain ⟨gs, hg, rg⟩ := r1.ins ha
  obtain ⟨w, hw, rw'⟩ := rdkv_lookup rg hl
  cases rd_ref d1
  refine ⟨a, C, dx, gs, w, rfl, hg, hc.cl, hc.nF f hf, hw, B1, δ, S1, _, s.mono e1, r1, h1, fun y S3 v3 B3 H3 h3 e3 r3 d3 => ?_⟩
  have h4 : oI (fun i j => .int (g i j)) v' y S3 _ := h3
  clear h3
  unfold oI at h4
  split at h4
  · rename_i i j
    cases rd_int rw'
    cases rd_int d3
    obtain ⟨a2, dx2, fs2, e2, ha2, hl2, h4⟩ := h4
    cases e2
    obtain ⟨gs2, hg2, rg2⟩ := r3.ins ha2
    exact ⟨i, j, rfl, rfl, dx2, gs2, hg2, by rw [rdkv_len rg2]; exact hl2, l.nx δ _ σ B3 _ h4 (e1.trans e3) (s.mono (e1.trans e3)) (r3.mut ha2 (.ins (rdkv_put (.int _) rg2)))⟩
  · exact h4.elim
theorem de_meth {pl : Sem Bool} (hc : ClsD K C flds) (h : MDef X.prog X.w X.K X.mg X.base k C m ps (lSp K sp)) (hr : Room k X.A) (he : PE X o (lE K dO)) (ha : PA X (e :: es) (lA K da))
    (hst : starEach (e :: es) X.env = (false, eval e X.env) :: starEach es X.env := by rfl) (hpl : (backTo pos (starEach es X.env)).any (·.1) = false := by rfl)
    (ht : eval (.Call (.Attribute o m apos) (e :: es) [] pos) X.env = (do
      let ov ← eval o X.env
      standAt apos.atName
      let (f, first) ← holding [ov] (getMethod ov m pl)
      callWith pos f first (backTo pos (starEach (e :: es) X.env)) (backToKw pos (keywordEach [] X.env))) := by rfl) (hk : X.K = K := by rfl) :
    PE X (.Call (.Attribute o m apos) (e :: es) [] pos) (lE K (dMeth C m sp dO da)) := by
  subst hk
  obtain ⟨f, fd, F, hm, hb⟩ := h.ex
  refine peOf (pe_meth he hc.cl hm F hr hb .nil pass0 ha hst hpl ht) fun σ H Q ⟨B, δ, S, k, s, r, h, q⟩ => ⟨B, δ, S, _, s, r, h, fun x S1 v B1 H1 ⟨⟨a, dx, fs, hx, ha, hl⟩, h1⟩ e1 r1 d1 => ?_⟩
  subst hx
  obtain ⟨gs, hg, rg⟩ := r1.ins ha
  cases rd_ref d1
  refine ⟨a, dx, gs, rfl, hg, rdkv_none rg hl, B1, δ, S1, _, s.mono e1, r1, h1, fun xs S2 vs B2 H2 h2 e2 r2 d2 => ⟨B2, .ref a :: xs, S2, k, _, ?_, r2, h2, fun z S' u B' H' hk e' => q z S' u B' H' hk (e1.trans (e2.trans e')), fun _ _ _ _ _ z => z.elim⟩⟩
  rw [List.append_nil]
  exact .cons (.ref a) d2
theorem de_meth0 {pl : Sem Bool} (hc : ClsD K C flds) (h : MDef X.prog X.w X.K X.mg X.base k C m ps (lSp K sp)) (hr : Room k X.A) (he : PE X o (lE K dO))
    (ht : eval (.Call (.Attribute o m apos) [] [] pos) X.env = (do
      let ov ← eval o X.env
      standAt apos.atName
      let (f, first) ← holding [ov] (getMethod ov m pl)
      callWith pos f first (backTo pos (starEach [] X.env)) (backToKw pos (keywordEach [] X.env))) := by rfl) (hk : X.K = K := by rfl) :
    PE X (.Call (.Attribute o m apos) [] [] pos) (lE K (dMeth C m sp dO dNil)) := by
  subst hk
  obtain ⟨f, fd, F, hm, hb⟩ := h.ex
  refine peOf (pe_meth0 he hc.cl hm F hr hb .nil pass0 ht) fun σ H Q ⟨B, δ, S, k, s, r, h, q⟩ => ⟨B, δ, S, _, s, r, h, fun x S1 v B1 H1 ⟨⟨a, dx, fs, hx, ha, hl⟩, h1⟩ e1 r1 d1 => ?_⟩
  subst hx
  obtain ⟨gs, hg, rg⟩ := r1.ins ha
  cases rd_ref d1
  exact ⟨a, dx, gs, rfl, hg, rdkv_none rg hl, B1, [.ref a], S1, k, _, .one (.ref a), r1, h1, fun z S' u B' H' hk e' => q z S' u B' H' hk (e1.trans e'), fun _ _ _ _ _ z => z.elim⟩
theorem R.made {B H : Hp} {S : Sto} (r : R K B S H) {a dx : Addr} (h1 : H a = none) (h2 : H dx = none) (hn : dx ≠ a) : R K (upd B dx (.own a)) (put S a (.ins C dx [])) (upd (upd H dx (.own a)) a (.ins C dx [])) ∧ Ex B (upd B dx (.own a)) := by
  have n := r.new (o := .own a) h2
  exact ⟨n.1.newS (by rw [upd_ne hn.symm]; exact h1) (.ins .nil), n.2⟩
theorem de_make (h : MkDef X.prog X.w X.K X.mg X.base k x C ps (lSp K sp)) (hr : Room (k + 1) X.A) (hg : Gl X x) (ha : PA X (e :: es) (lA K da))
    (hdb : (x == ("__debug__" : Str)) = false := by decide) (he : starEach (e :: es) X.env = (false, eval e X.env) :: starEach es X.env := by rfl) (hpl : (backTo pos (starEach es X.env)).any (·.1) = false := by rfl) (hk : X.K = K := by rfl) :
    PE X (.Call (.Name x p) (e :: es) [] pos) (lE K (dMake C sp da)) := by
  subst hk
  obtain ⟨f, fd, M, F, hm, hb⟩ := h.ex
  refine peOf (pe_make M F hr hg hm hb .nil pass0 ha hdb he hpl) fun σ H Q ⟨B, δ, S, k, s, r, h, q⟩ => ⟨B, δ, S, _, s, r, h, fun xs S1 vs B1 H1 h1 e1 r1 d1 a dx na nd ne => ?_⟩
  have r2 := r1.made (C := C) na nd ne
  refine ⟨_, .ref a :: xs, _, _, _, ?_, r2.1, h1 a (r1.fresh na).2 dx, fun v S2 u B2 H2 ⟨hv, hk⟩ e2 r2' d2 => ?_, fun _ _ _ _ _ z => z.elim⟩
  · rw [List.append_nil]
    exact .cons (.ref a) (d1.mono r2.2)
  · subst hv
    exact ⟨rd_non d2, q _ S2 _ B2 H2 hk (e1.trans (r2.2.trans e2)) r2' (.ref a)⟩
theorem de_make0 (h : MkDef X.prog X.w X.K X.mg X.base k x C ps (lSp K sp)) (hr : Room (k + 1) X.A) (hg : Gl X x) (hdb : (x == ("__debug__" : Str)) = false := by decide) (hk : X.K = K := by rfl) :
    PE X (.Call (.Name x p) [] [] pos) (lE K (dMake C sp dNil)) := by
  subst hk
  obtain ⟨f, fd, M, F, hm, hb⟩ := h.ex
  refine peOf (pe_make0 M F hr hg hm hb .nil pass0 hdb) fun σ H Q ⟨B, δ, S, k, s, r, h, q⟩ => fun a dx na nd ne => ?_
  have r2 := r.made (C := C) na nd ne
  refine ⟨_, [.ref a], _, _, _, .one (.ref a), r2.1, h a (r.fresh na).2 dx, fun v S2 u B2 H2 ⟨hv, hk⟩ e2 r2' d2 => ?_, fun _ _ _ _ _ z => z.elim⟩
  subst hv
  exact ⟨rd_non d2, q _ S2 _ B2 H2 hk (r2.2.trans e2) r2' (.ref a)⟩
end
section
variable {δ : Dst} {S : Sto} {k : DK} {E : DEnds} {dO dv de : DE} {da : DA} {C a dx : Addr} {f m : Str} {fs : List (Str × D)} {v y : D} {g : Int → Int → Int} {sp : SpD}
theorem x_fld : dFld C de f δ S k = de δ S fun x S1 => fldq C x f S1 k ⟨⟩ := propext Iff.rfl
theorem x_fldS : dFldS C dv dO f E δ S = dv δ S fun y S1 => dO δ S1 fun x S2 => fldsq C x f y S2 (fun S3 => E.nx δ S3) ⟨⟩ := propext Iff.rfl
theorem x_fldA : dFldA C g dv dO f E δ S = dO δ S fun x S1 => fldq C x f S1 (fun v S2 => dv δ S2 fun y S3 => st2 (oI fun i j => .int (g i j)) v y S3 (fun z S4 => fldsq C x f z S4 (fun S5 => E.nx δ S5) ⟨⟩) ⟨⟩) ⟨⟩ := propext Iff.rfl
theorem x_meth : dMeth C m sp dO da δ S k = dO δ S fun x S1 => need (∃ a dx fs, x = .ref a ∧ S1 a = some (.ins C dx fs) ∧ fs.lookup m = none) (da δ S1 fun xs S2 => ask sp (x :: xs) S2 k ⟨⟩) ⟨⟩ := propext Iff.rfl
theorem x_make : dMake C sp da δ S k = da δ S fun xs S1 => fresh S1 (fun a => ∀ dx, ask sp (.ref a :: xs) (put S1 a (.ins C dx [])) (fun v S2 => v = .non ∧ k (.ref a) S2) ⟨⟩) ⟨⟩ := propext Iff.rfl
theorem fldOf (h : S a = some (.ins C dx fs)) (hl : fs.lookup f = some v) (q : k v S) : fldq C (.ref a) f S k ⟨⟩ := ⟨a, dx, fs, v, rfl, h, hl, q⟩
theorem x_fldq (h : S a = some (.ins C dx fs)) (hl : fs.lookup f = some v) : fldq C (.ref a) f S k ⟨⟩ = k v S := propext ⟨fun ⟨b, dy, gs, w, e, h2, hl2, q⟩ => by
  cases e
  rw [h] at h2
  cases h2
  rw [hl] at hl2
  cases hl2
  exact q, fun q => fldOf h hl q⟩
theorem fldsOf {k : Sto → Prop} (h : S a = some (.ins C dx fs)) (hl : fs.length < 1000) (q : k (put S a (.ins C dx (putFD f y fs)))) : fldsq C (.ref a) f y S k ⟨⟩ := ⟨a, dx, fs, rfl, h, hl, q⟩
theorem methOf {x : D} (h : S a = some (.ins C dx fs)) (hl : fs.lookup m = none) : ∃ b dy gs, D.ref a = .ref b ∧ S b = some (.ins C dy gs) ∧ gs.lookup m = none := ⟨a, dx, fs, rfl, h, hl⟩
end
end DL

set_option Elab.async false
set_option linter.all false
set_option maxRecDepth 100000
/-! ### dicts of the store -/
namespace DL
open PySem L2 Evl EX
def keyD : D → Option Key
  | .int i => some (.inl i)
  | .str s => some (.inr s)
  | _ => none
def gval {β : Type} (kvs : List (Key × β)) (k : Key) : Option β := (kvs.find? fun kv => decide (kv.1 = k)).map (·.2)
def gput {β : Type} (kvs : List (Key × β)) (k : Key) (v : β) : List (Key × β) := if (kvs.any fun kv => decide (kv.1 = k)) = true then kvs.map (fun kv => if kv.1 = k then (kv.1, v) else kv) else kvs ++ [(k, v)]
def gdrop {β : Type} (kvs : List (Key × β)) (k : Key) : List (Key × β) := kvs.filter fun kv => decide (kv.1 ≠ k)
def dK (k : Key) : D := match k with
  | .inl i => .int i
  | .inr s => .str s
section
variable {K : PySem.W.Frag} {B : Hp}
theorem keyD_ok {v : V} {d : D} {k : Key} (h : keyD d = some k) (r : RdD K B v d) : v = kV k := by
  cases r <;> first | (cases h; rfl) | cases h
theorem rd_kV (k : Key) : RdD K B (kV k) (dK k) := by
  cases k with
  | inl i => exact .int i
  | inr s => exact .str s
theorem rdkv_val {k : Key} : ∀ {fs : List (Key × V)} {gs : List (Key × D)}, RdKV K B fs gs → match gval gs k with
    | some d => ∃ v, valV fs k = some v ∧ RdD K B v d
    | none => valV fs k = none
  | _, _, .nil => rfl
  | (a, v) :: fs, (b, e) :: gs, .cons h r => by
    have h1 : a = b := h.1
    subst h1
    have ih := rdkv_val (k := k) r
    by_cases q : a = k
    · have e1 : gval ((a, e) :: gs) k = some e := by simp [gval, List.find?_cons, q]
      rw [e1]
      exact ⟨v, by simp [valV, List.find?_cons, q], h.2⟩
    · have e1 : gval ((a, e) :: gs) k = gval gs k := by simp [gval, List.find?_cons, q]
      have e2 : valV ((a, v) :: fs) k = valV fs k := by simp [valV, List.find?_cons, q]
      rw [e1, e2]
      exact ih
theorem rdkv_some {k : Key} {fs : List (Key × V)} {gs : List (Key × D)} {d : D} (r : RdKV K B fs gs) (h : gval gs k = some d) : ∃ v, valV fs k = some v ∧ RdD K B v d := by
  have := rdkv_val (k := k) r
  rw [h] at this
  exact this
theorem rdkv_isSome {k : Key} {fs : List (Key × V)} {gs : List (Key × D)} (r : RdKV K B fs gs) : (valV fs k).isSome = (gval gs k).isSome := by
  have := rdkv_val (k := k) r
  cases h : gval gs k with
  | none => rw [h] at this; rw [this]; rfl
  | some d => rw [h] at this; obtain ⟨v, hv, _⟩ := this; rw [hv]; rfl
theorem rdkv_any {k : Key} : ∀ {fs : List (Key × V)} {gs : List (Key × D)}, RdKV K B fs gs → (fs.any fun kv => decide (kv.1 = k)) = (gs.any fun kv => decide (kv.1 = k))
  | _, _, .nil => rfl
  | (a, v) :: fs, (b, e) :: gs, .cons h r => by
    have h1 : a = b := h.1
    subst h1
    rw [List.any_cons, List.any_cons, rdkv_any r]
theorem rdkv_map {k : Key} {v : V} {d : D} (hv : RdD K B v d) : ∀ {fs : List (Key × V)} {gs : List (Key × D)}, RdKV K B fs gs → RdKV K B (fs.map fun kv => if kv.1 = k then (kv.1, v) else kv) (gs.map fun kv => if kv.1 = k then (kv.1, d) else kv)
  | _, _, .nil => .nil
  | (a, w) :: fs, (b, e) :: gs, .cons h r => by
    have h1 : a = b := h.1
    subst h1
    rw [List.map_cons, List.map_cons]
    refine .cons ?_ (rdkv_map hv r)
    show (if a = k then (a, v) else (a, w)).1 = (if a = k then (a, d) else (a, e)).1 ∧ RdD K B (if a = k then (a, v) else (a, w)).2 (if a = k then (a, d) else (a, e)).2
    by_cases q : a = k
    · rw [if_pos q, if_pos q]
      exact ⟨rfl, hv⟩
    · rw [if_neg q, if_neg q]
      exact ⟨rfl, h.2⟩
theorem rdkv_app : ∀ {fs fs' : List (Key × V)} {gs gs' : List (Key × D)}, RdKV K B fs gs → RdKV K B fs' gs' → RdKV K B (fs ++ fs') (gs ++ gs')
  | _, _, _, _, .nil, s => s
  | _, _, _, _, .cons h r, s => .cons h (rdkv_app r s)
theorem rdkv_gput {k : Key} {v : V} {d : D} (hv : RdD K B v d) {fs : List (Key × V)} {gs : List (Key × D)} (r : RdKV K B fs gs) : RdKV K B (putK fs k v) (gput gs k d) := by
  unfold putK gput
  rw [rdkv_any r]
  split
  · exact rdkv_map hv r
  · exact rdkv_app r (.cons ⟨rfl, hv⟩ .nil)
theorem rdkv_drop {k : Key} : ∀ {fs : List (Key × V)} {gs : List (Key × D)}, RdKV K B fs gs → RdKV K B (dropK fs k) (gdrop gs k)
  | _, _, .nil => .nil
  | (a, w) :: fs, (b, e) :: gs, .cons h r => by
    have h1 : a = b := h.1
    subst h1
    unfold dropK gdrop
    rw [List.filter_cons, List.filter_cons]
    by_cases q : a = k
    · simp only [q, ne_eq, not_true_eq_false, decide_false, Bool.false_eq_true, if_false]
      exact rdkv_drop r
    · simp only [q, ne_eq, not_false_eq_true, decide_true, if_true]
      exact .cons h (rdkv_drop r)
theorem rdkv_keys : ∀ {fs : List (Key × V)} {gs : List (Key × D)}, RdKV K B fs gs → fs.map (·.1) = gs.map (·.1)
  | _, _, .nil => rfl
  | (a, w) :: fs, (b, e) :: gs, .cons h r => by
    have h1 : a = b := h.1
    subst h1
    rw [List.map_cons, List.map_cons, rdkv_keys r]
theorem rdl_keys : ∀ ks : List Key, RdL K B (ks.map kV) (ks.map dK)
  | [] => .nil
  | k :: ks => .cons (rd_kV k) (rdl_keys ks)
end
def dgetq (x y : D) (S : Sto) (k : DK) (_ : Tag k) : Prop := ∃ a kvs key v, x = .ref a ∧ DctAt S a kvs ∧ keyD y = some key ∧ gval kvs key = some v ∧ k v S
def dDGet (dd dk : DE) : DE := fun δ S k => dd δ S fun x S1 => dk δ S1 fun y S2 => dgetq x y S2 k ⟨⟩
def dinq (neg : Bool) (y x : D) (S : Sto) (k : DK) (_ : Tag k) : Prop := ∃ a kvs key, x = .ref a ∧ DctAt S a kvs ∧ keyD y = some key ∧ k (.bl (if neg then !(gval kvs key).isSome else (gval kvs key).isSome)) S
def dDIn (neg : Bool) (dk dd : DE) : DE := fun δ S k => dk δ S fun y S1 => dd δ S1 fun x S2 => dinq neg y x S2 k ⟨⟩
def isDq (x : D) (S : Sto) (A : Prop) (_ : Tag A) : Prop := (∃ a kvs, x = .ref a ∧ DctAt S a kvs) ∧ A
def dgorq (x y : D) (z : D) (S : Sto) (k : DK) (_ : Tag k) : Prop := ∃ a kvs key, x = .ref a ∧ DctAt S a kvs ∧ keyD y = some key ∧ k ((gval kvs key).getD z) S
def dDGet1 (dd dk : DE) : DE := fun δ S k => dd δ S fun x S1 => isDq x S1 (dk δ S1 fun y S2 => dgorq x y .non S2 k ⟨⟩) ⟨⟩
def dDGet2 (dd dk dz : DE) : DE := fun δ S k => dd δ S fun x S1 => isDq x S1 (dk δ S1 fun y S2 => dz δ S2 fun z S3 => dgorq x y z S3 k ⟨⟩) ⟨⟩
def dpopq (x y : D) (S : Sto) (k : DK) (_ : Tag k) : Prop := ∃ a kvs key v, x = .ref a ∧ S a = some (.dct kvs) ∧ keyD y = some key ∧ gval kvs key = some v ∧ k v (put S a (.dct (gdrop kvs key)))
def dDPop (dd dk : DE) : DE := fun δ S k => dd δ S fun x S1 => isDq x S1 (dk δ S1 fun y S2 => dpopq x y S2 k ⟨⟩) ⟨⟩
def dputq (x y v : D) (S : Sto) (k : Sto → Prop) (_ : Tag k) : Prop := ∃ a kvs key, x = .ref a ∧ S a = some (.dct kvs) ∧ keyD y = some key ∧ kvs.length < 100000 ∧ k (put S a (.dct (gput kvs key v)))
def dDPut (dd dk dv : DE) : DS := fun E δ S => dv δ S fun v S1 => dd δ S1 fun x S2 => dk δ S2 fun y S3 => dputq x y v S3 (fun S4 => E.nx δ S4) ⟨⟩
section
variable {X : Cx} {K : PySem.W.Frag} {W : WXD} {o i e f value : Expr} {dd dk dv dz : DE} {pos pos' apos cpos : Pos}
theorem de_dget (hu : X.A.units + 1 < cLine) (ho : PE X o (lE K dd)) (hi : PE X i (lE K dk)) (hs : NoSl i) : PE X (.Subscript o i pos) (lE K (dDGet dd dk)) := peOf (pe_dget hu ho hi hs) fun σ H Q ⟨B, δ, S, k, s, r, h, q⟩ =>
  ⟨B, δ, S, _, s, r, h, fun x S1 v B1 H1 h1 e1 r1 d1 => ⟨B1, δ, S1, _, s.mono e1, r1, h1, fun y S2 w B2 H2 h2 e2 r2 d2 => by
    obtain ⟨a, kvs, key, z, rfl, ha, hk, hv, h2⟩ := h2
    obtain ⟨gs, hg, rg⟩ := r2.dctR ha
    obtain ⟨u, hu, ru⟩ := rdkv_some rg hv
    cases rd_ref d1
    cases keyD_ok hk d2
    exact ⟨a, u, rfl, .inl ⟨gs, key, hg, rfl, hu.symm⟩, q _ S2 _ B2 H2 h2 (e1.trans e2) r2 ru⟩⟩⟩
theorem pc_dinD {neg : Bool} (hu : X.A.units + 1 < cLine) (hi : PE X i (lE K dk)) (ho : PE X o (lE K dd)) : PC X .In i o (lE K (dDIn false dk dd)) := by
  obtain ⟨r⟩ := pc_din hu hi ho
  refine ⟨fun pins s σ H Q I ⟨B, δ, S, k, sl, rr, h, q⟩ => r pins s σ H Q I ⟨B, δ, S, _, sl, rr, h, fun y S1 w B1 H1 h1 e1 r1 d1 => ⟨B1, δ, S1, _, sl.mono e1, r1, h1, fun x S2 v B2 H2 h2 e2 r2 d2 => ?_⟩⟩⟩
  obtain ⟨a, kvs, key, rfl, ha, hk, h2⟩ := h2
  obtain ⟨gs, hg, rg⟩ := r2.dctR ha
  cases rd_ref d2
  cases keyD_ok hk d1
  exact ⟨a, _, rfl, .inl ⟨gs, key, hg, rfl, rfl⟩, by rw [rdkv_isSome rg]; exact q _ S2 _ B2 H2 h2 (e1.trans e2) r2 (.bl _)⟩
theorem pc_dninD {neg : Bool} (hu : X.A.units + 1 < cLine) (hi : PE X i (lE K dk)) (ho : PE X o (lE K dd)) : PC X .NotIn i o (lE K (dDIn true dk dd)) := by
  obtain ⟨r⟩ := pc_dnotin hu hi ho
  refine ⟨fun pins s σ H Q I ⟨B, δ, S, k, sl, rr, h, q⟩ => r pins s σ H Q I ⟨B, δ, S, _, sl, rr, h, fun y S1 w B1 H1 h1 e1 r1 d1 => ⟨B1, δ, S1, _, sl.mono e1, r1, h1, fun x S2 v B2 H2 h2 e2 r2 d2 => ?_⟩⟩⟩
  obtain ⟨a, kvs, key, rfl, ha, hk, h2⟩ := h2
  obtain ⟨gs, hg, rg⟩ := r2.dctR ha
  cases rd_ref d2
  cases keyD_ok hk d1
  exact ⟨a, _, rfl, .inl ⟨gs, key, hg, rfl, rfl⟩, by rw [rdkv_isSome rg]; exact q _ S2 _ B2 H2 h2 (e1.trans e2) r2 (.bl _)⟩
theorem de_din (hu : X.A.units + 1 < cLine) (hi : PE X i (lE K dk)) (ho : PE X o (lE K dd)) (hm : behindInMarks .In o = false := by rfl) : PE X (.Compare i [.In] [o] pos) (lE K (dDIn false dk dd)) := pe_cmp (pc_dinD (neg := false) hu hi ho) hm
theorem de_dinN (hu : X.A.units + 1 < cLine) (hi : PE X i (lE K dk)) (ho : PE X o (lE K dd)) (hm : behindInMarks .NotIn o = false := by rfl) : PE X (.Compare i [.NotIn] [o] pos) (lE K (dDIn true dk dd)) := pe_cmp (pc_dninD (neg := true) hu hi ho) hm
theorem dt_din (hu : X.A.units + 1 < cLine) (hi : PE X i (lE K dk)) (ho : PE X o (lE K dd)) (hm : behindInMarks .In o = false := by rfl) : PT X (.Compare i [.In] [o] pos) (lT K (dTest (dDIn false dk dd))) := ptOf (pt_cmp (pc_dinD (neg := false) hu hi ho) hm) l_test
theorem dt_dinN (hu : X.A.units + 1 < cLine) (hi : PE X i (lE K dk)) (ho : PE X o (lE K dd)) (hm : behindInMarks .NotIn o = false := by rfl) : PT X (.Compare i [.NotIn] [o] pos) (lT K (dTest (dDIn true dk dd))) := ptOf (pt_cmp (pc_dninD (neg := true) hu hi ho) hm) l_test
theorem isD_ok {B H : Hp} {S : Sto} {x : D} {v : V} (h : ∃ a kvs, x = .ref a ∧ DctAt S a kvs) (r : R K B S H) (rx : RdD K B v x) : ∃ a, v = .ref a ∧ IsD H a := by
  obtain ⟨a, kvs, rfl, ha⟩ := h
  obtain ⟨gs, hg, _⟩ := r.dctR ha
  exact ⟨a, rd_ref rx, .inl ⟨gs, hg⟩⟩
theorem getD_ok {B : Hp} {gs : List (Key × V)} {kvs : List (Key × D)} {key : Key} {z : D} {w : V} (rg : RdKV K B gs kvs) (hz : RdD K B w z) : RdD K B ((valV gs key).getD w) ((gval kvs key).getD z) := by
  have := rdkv_val (k := key) rg
  cases h : gval kvs key with
  | none => rw [h] at this; rw [this]; exact hz
  | some d => rw [h] at this; obtain ⟨v, hv, rv⟩ := this; rw [hv]; exact rv
theorem de_dgets1 (hu : X.A.units + 1 < cLine) (ho : PE X o (lE K dd)) (he : PE X e (lE K dk)) (m : M1 X o "get" apos e cpos := by exact ⟨rfl, rfl, rfl, rfl⟩) : PE X (.Call (.Attribute o "get" apos) [e] [] cpos) (lE K (dDGet1 dd dk)) := peOf (pe_dget1 hu ho he m) fun σ H Q ⟨B, δ, S, k, s, r, h, q⟩ =>
  ⟨B, δ, S, _, s, r, h, fun x S1 v B1 H1 ⟨hd, h1⟩ e1 r1 d1 => by
    obtain ⟨a0, rfl, hI⟩ := isD_ok hd r1 d1
    refine ⟨a0, rfl, hI, B1, δ, S1, _, s.mono e1, r1, h1, fun y S2 w B2 H2 h2 e2 r2 d2 => ?_⟩
    obtain ⟨a, kvs, key, rfl, ha, hk, h2⟩ := h2
    obtain ⟨gs, hg, rg⟩ := r2.dctR ha
    cases rd_ref d1
    cases keyD_ok hk d2
    exact ⟨_, .inl ⟨gs, key, hg, rfl, rfl⟩, q _ S2 _ B2 H2 h2 (e1.trans e2) r2 (getD_ok rg .non)⟩⟩
theorem de_dgets2 (hu : X.A.units + 1 < cLine) (ho : PE X o (lE K dd)) (he : PE X e (lE K dk)) (hf : PE X f (lE K dz)) (m : M2 X o "get" apos e f cpos := by exact ⟨rfl, rfl, rfl, rfl⟩) : PE X (.Call (.Attribute o "get" apos) [e, f] [] cpos) (lE K (dDGet2 dd dk dz)) := peOf (pe_dget2 hu ho he hf m) fun σ H Q ⟨B, δ, S, k, s, r, h, q⟩ =>
  ⟨B, δ, S, _, s, r, h, fun x S1 v B1 H1 ⟨hd, h1⟩ e1 r1 d1 => by
    obtain ⟨a0, rfl, hI⟩ := isD_ok hd r1 d1
    refine ⟨a0, rfl, hI, B1, δ, S1, _, s.mono e1, r1, h1, fun y S2 w B2 H2 h2 e2 r2 d2 => ⟨B2, δ, S2, _, s.mono (e1.trans e2), r2, h2, fun z S3 u B3 H3 h3 e3 r3 d3 => ?_⟩⟩
    obtain ⟨a, kvs, key, rfl, ha, hk, h3⟩ := h3
    obtain ⟨gs, hg, rg⟩ := r3.dctR ha
    cases rd_ref d1
    cases keyD_ok hk d2
    exact ⟨_, .inl ⟨gs, key, hg, rfl, rfl⟩, q _ S3 _ B3 H3 h3 (e1.trans (e2.trans e3)) r3 (getD_ok rg d3)⟩⟩
theorem de_dpop (ho : PE X o (lE K dd)) (he : PE X e (lE K dk)) (m : M1 X o "pop" apos e cpos := by exact ⟨rfl, rfl, rfl, rfl⟩) : PE X (.Call (.Attribute o "pop" apos) [e] [] cpos) (lE K (dDPop dd dk)) := peOf (pe_dpop1 ho he m) fun σ H Q ⟨B, δ, S, k, s, r, h, q⟩ =>
  ⟨B, δ, S, _, s, r, h, fun x S1 v B1 H1 ⟨hd, h1⟩ e1 r1 d1 => by
    obtain ⟨a0, rfl, hI⟩ := isD_ok hd r1 d1
    refine ⟨a0, rfl, hI, B1, δ, S1, _, s.mono e1, r1, h1, fun y S2 w B2 H2 h2 e2 r2 d2 => ?_⟩
    obtain ⟨a, kvs, key, z, rfl, ha, hk, hv, h2⟩ := h2
    obtain ⟨gs, hg, rg⟩ := r2.dct ha
    obtain ⟨u, hu, ru⟩ := rdkv_some rg hv
    cases rd_ref d1
    cases keyD_ok hk d2
    exact ⟨gs, key, u, hg, rfl, hu, q _ _ _ B2 _ h2 (e1.trans e2) (r2.mut ha (.dct (rdkv_drop rg))) ru⟩⟩
theorem ds_dput (hu : X.A.units + 1 < cLine) (ho : PE X o (lE K dd)) (hi : PE X i (lE K dk)) (hv : PE X value (lE K dv)) (hs : swapsWith value (some (.Subscript o i pos')) pos.line X.env = pure false := by rfl) : PS X (.Assign [.Subscript o i pos'] value pos) (lS K W (dDPut dd dk dv)) := psOf (ps_dput hu ho hi hv hs) fun E σ H ⟨B, δ, S, D, s, r, h, l⟩ =>
  ⟨B, δ, S, _, s, r, h, fun v S1 w B1 H1 h1 e1 r1 d1 => ⟨B1, δ, S1, _, s.mono e1, r1, h1, fun x S2 u B2 H2 h2 e2 r2 d2 => ⟨B2, δ, S2, _, s.mono (e1.trans e2), r2, h2, fun y S3 z B3 H3 h3 e3 r3 d3 => by
    obtain ⟨a, kvs, key, rfl, ha, hk, hl, h3⟩ := h3
    obtain ⟨gs, hg, rg⟩ := r3.dct ha
    cases rd_ref d2
    cases keyD_ok hk d3
    exact ⟨a, _, rfl, .inl ⟨gs, key, hg, rfl, sz_lt (by rw [rdkv_len rg]; exact hl), rfl⟩, l.nx δ _ σ B3 _ h3 (e1.trans (e2.trans e3)) (s.mono (e1.trans (e2.trans e3))) (r3.mut ha (.dct (rdkv_gput (d1.mono (e2.trans e3)) rg)))⟩⟩⟩⟩
end
section
variable {K : PySem.W.Frag}
/-- list(d): its keys; sorted(d) of numbers -/
def oListD : List D → Sto → DK → Prop := fun xs S k => match xs with
  | [.ref a] => ∃ kvs, DctAt S a kvs ∧ k (.list (kvs.map fun kv => dK kv.1)) S
  | _ => False
theorem si_listD : SimC K (fun xs H Q => ∃ (a : Addr) (kvs : List (Key × V)), xs = [.ref a] ∧ Rd H a (.dK kvs) ∧ ∀ p, H p = none → Q (.ref p) (upd H p (.lst (kvs.map fun kv => kV kv.1)))) oListD := fun B S H vs xs k Q r rx h1 q => by
  unfold oListD at h1
  split at h1
  · obtain ⟨v, rfl, rv⟩ := rdl1 rx
    cases rd_ref rv
    obtain ⟨kvs, hs, h1⟩ := h1
    obtain ⟨gs, hg, rg⟩ := r.dctR hs
    refine ⟨_, gs, rfl, hg, fun p hp => ?_⟩
    have n := r.new (o := .lst (gs.map fun kv => kV kv.1)) hp
    refine q _ S _ _ _ h1 n.2 n.1 (.lst upd_same ?_)
    have e1 : (gs.map fun kv => kV kv.1) = (gs.map (·.1)).map kV := by rw [List.map_map]; rfl
    have e2 : (kvs.map fun kv => dK kv.1) = (kvs.map (·.1)).map dK := by rw [List.map_map]; rfl
    rw [e1, e2, rdkv_keys rg]
    exact rdl_keys _
  · exact h1.elim
def oSortDI : List D → Sto → DK → Prop := fun xs S k => match xs with
  | [.ref a] => ∃ (kvs : List (Key × D)) (ks : List Int), S a = some (.dct kvs) ∧ kvs.map (·.1) = ks.map Sum.inl ∧ ks.length < 64 ∧ ∀ ys : List Int, ys.Perm ks → ys.Pairwise (· ≤ ·) → k (.list (ys.map D.int)) S
  | _ => False
theorem si_sortDI : SimC K (fun xs H Q => ∃ (a : Addr) (kvs : List (Key × V)) (ks : List Int), xs = [.ref a] ∧ Rd H a (.dK kvs) ∧ kvs.map (·.1) = ks.map Sum.inl ∧ ks.length < 64 ∧
    ∀ (ys : List Int) (p : Addr), ys.Perm ks → ys.Pairwise (· ≤ ·) → H p = none → Q (.ref p) (upd H p (.lst (ys.map V.int)))) oSortDI := fun B S H vs xs k Q r rx h1 q => by
  unfold oSortDI at h1
  split at h1
  · obtain ⟨v, rfl, rv⟩ := rdl1 rx
    cases rd_ref rv
    obtain ⟨kvs, ks, hs, hk, hl, h1⟩ := h1
    obtain ⟨gs, hg, rg⟩ := r.dct hs
    refine ⟨_, gs, ks, rfl, .inl hg, by rw [rdkv_keys rg]; exact hk, hl, fun ys p pm pw hp => ?_⟩
    have n := r.new (o := .lst (ys.map V.int)) hp
    exact q _ S _ _ _ (h1 ys pm pw) n.2 n.1 (.lst upd_same (rdl_ints _))
  · exact h1.elim
end
section
variable {δ : Dst} {S : Sto} {k : DK} {E : DEnds} {dd dk dv dz : DE} {a : Addr} {kvs : List (Key × D)} {key : Key} {x y v z : D} {xs : List D}
theorem x_dget : dDGet dd dk δ S k = dd δ S fun x S1 => dk δ S1 fun y S2 => dgetq x y S2 k ⟨⟩ := propext Iff.rfl
theorem x_din {neg : Bool} : dDIn neg dk dd δ S k = dk δ S fun y S1 => dd δ S1 fun x S2 => dinq neg y x S2 k ⟨⟩ := propext Iff.rfl
theorem x_dget1 : dDGet1 dd dk δ S k = dd δ S fun x S1 => isDq x S1 (dk δ S1 fun y S2 => dgorq x y .non S2 k ⟨⟩) ⟨⟩ := propext Iff.rfl
theorem x_dget2 : dDGet2 dd dk dz δ S k = dd δ S fun x S1 => isDq x S1 (dk δ S1 fun y S2 => dz δ S2 fun z S3 => dgorq x y z S3 k ⟨⟩) ⟨⟩ := propext Iff.rfl
theorem x_dpop : dDPop dd dk δ S k = dd δ S fun x S1 => isDq x S1 (dk δ S1 fun y S2 => dpopq x y S2 k ⟨⟩) ⟨⟩ := propext Iff.rfl
theorem x_dput : dDPut dd dk dv E δ S = dv δ S fun v S1 => dd δ S1 fun x S2 => dk δ S2 fun y S3 => dputq x y v S3 (fun S4 => E.nx δ S4) ⟨⟩ := propext Iff.rfl
theorem x_listD : oListD xs S k = stC oListD xs S k ⟨⟩ := propext Iff.rfl
theorem x_sortDI : oSortDI xs S k = stC oSortDI xs S k ⟨⟩ := propext Iff.rfl
theorem x_lenD : oLenD xs S k = stC oLenD xs S k ⟨⟩ := propext Iff.rfl
theorem dgetOf (h : S a = some (.dct kvs)) (hk : keyD y = some key) (hv : gval kvs key = some v) (q : k v S) : dgetq (.ref a) y S k ⟨⟩ := ⟨a, kvs, key, v, rfl, .inl h, hk, hv, q⟩
theorem dgetOfR (h : DctAt S a kvs) (hk : keyD y = some key) (hv : gval kvs key = some v) (q : k v S) : dgetq (.ref a) y S k ⟨⟩ := ⟨a, kvs, key, v, rfl, h, hk, hv, q⟩
theorem dinOf (h : S a = some (.dct kvs)) (hk : keyD y = some key) (q : k (.bl (gval kvs key).isSome) S) : dinq false y (.ref a) S k ⟨⟩ := ⟨a, kvs, key, rfl, .inl h, hk, q⟩
theorem dninOf (h : S a = some (.dct kvs)) (hk : keyD y = some key) (q : k (.bl (!(gval kvs key).isSome)) S) : dinq true y (.ref a) S k ⟨⟩ := ⟨a, kvs, key, rfl, .inl h, hk, q⟩
theorem isDOf {A : Prop} (h : S a = some (.dct kvs)) (q : A) : isDq (.ref a) S A ⟨⟩ := ⟨⟨a, kvs, rfl, .inl h⟩, q⟩
theorem dgorOf (h : S a = some (.dct kvs)) (hk : keyD y = some key) (q : k ((gval kvs key).getD z) S) : dgorq (.ref a) y z S k ⟨⟩ := ⟨a, kvs, key, rfl, .inl h, hk, q⟩
theorem dpopOf (h : S a = some (.dct kvs)) (hk : keyD y = some key) (hv : gval kvs key = some v) (q : k v (put S a (.dct (gdrop kvs key)))) : dpopq (.ref a) y S k ⟨⟩ := ⟨a, kvs, key, v, rfl, h, hk, hv, q⟩
theorem dputOf {k : Sto → Prop} (h : S a = some (.dct kvs)) (hk : keyD y = some key) (hl : kvs.length < 100000) (q : k (put S a (.dct (gput kvs key v)))) : dputq (.ref a) y v S k ⟨⟩ := ⟨a, kvs, key, rfl, h, hk, hl, q⟩
theorem lenDOf (h : S a = some (.dct kvs)) (q : k (.int kvs.length) S) : stC oLenD [.ref a] S k ⟨⟩ := ⟨kvs, h, q⟩
theorem listDOf (h : S a = some (.dct kvs)) (q : k (.list (kvs.map fun kv => dK kv.1)) S) : stC oListD [.ref a] S k ⟨⟩ := ⟨kvs, .inl h, q⟩
theorem gput_new {β : Type} {kvs : List (Key × β)} {v : β} (h : gval kvs key = none) : gput kvs key v = kvs ++ [(key, v)] := by
  unfold gput
  rw [if_neg]
  intro z
  unfold gval at h
  rw [Option.map_eq_none_iff, List.find?_eq_none] at h
  rw [List.any_eq_true] at z
  obtain ⟨p, hp, hq⟩ := z
  exact h p hp hq
end
end DL

set_option Elab.async false
set_option linter.all false
set_option maxRecDepth 100000
/-! ### isinstance beside a class of the program's own -/
namespace DL
open PySem L2 Evl EX
structure IsiC (K : PySem.W.Frag) (C : Addr) : Prop where
  cl : Cls K C
  ha : PySem.W.findIn K (.ref C) "__class__" = some (some (.builtin "object.__class__"))
  hn : PySem.W.specialIn K (.builtin "object.__class__") "__get__" = some (some (.builtin "getset_descriptor.__get__"))
  htk : PySem.W.takesIn K (.builtin "object.__class__") = some true
  hm : PySem.W.mroIn K C (.type "object") = some true
  t1 : PySem.W.kitOne K (.ref C) (.type "bool") = some false
  t2 : PySem.W.kitOne K (.ref C) (.type "int") = some false
  t3 : PySem.W.kitOne K (.ref C) (.type "str") = some false
  f1 : PySem.W.kitOne K (.type "NoneType") (.ref C) = some false
  f2 : PySem.W.kitOne K (.type "bool") (.ref C) = some false
  f3 : PySem.W.kitOne K (.type "int") (.ref C) = some false
  f4 : PySem.W.kitOne K (.type "str") (.ref C) = some false
inductive IsAns (C : Addr) (S : Sto) : D → D → Bool → Prop where
  | ty {x : D} {t c : String} : tyD S x = some t → c ∈ Cs → IsAns C S x (.ty c) (isB t c)
  | ins {a dx : Addr} {fs : List (Str × D)} {c : String} : S a = some (.ins C dx fs) → c = "bool" ∨ c = "int" ∨ c = "str" → IsAns C S (.ref a) (.ty c) false
  | own {a dx : Addr} {fs : List (Str × D)} : S a = some (.ins C dx fs) → IsAns C S (.ref a) (.ref C) true
  | non : IsAns C S .non (.ref C) false
  | bl (b : Bool) : IsAns C S (.bl b) (.ref C) false
  | int (i : Int) : IsAns C S (.int i) (.ref C) false
  | str (s : Str) : IsAns C S (.str s) (.ref C) false
def oIsiC (C : Addr) : List D → Sto → DK → Prop := fun xs S k => match xs with
  | [x, y] => ∃ b, IsAns C S x y b ∧ k (.bl b) S
  | _ => False
theorem ty_ins {S : Sto} {a C dx : Addr} {fs : List (Str × D)} (h : S a = some (.ins C dx fs)) : tyD S (.ref a) = none := by simp only [tyD, h]
theorem IsAns.uni {C : Addr} {S : Sto} {x y : D} {b c : Bool} (h : IsAns C S x y b) (h2 : IsAns C S x y c) : b = c := by
  cases h with
  | ty h1 hc =>
    cases h2 with
    | ty h2 _ => rw [h1] at h2; cases h2; rfl
    | ins h2 _ => rw [ty_ins h2] at h1; cases h1
  | ins h1 _ => cases h2 with
    | ty h2 _ => rw [ty_ins h1] at h2; cases h2
    | ins h2 _ => rfl
  | own h1 => cases h2; rfl
  | non => cases h2; rfl
  | bl b => cases h2; rfl
  | int b => cases h2; rfl
  | str b => cases h2; rfl
section
variable {K : PySem.W.Frag} {C : Addr}
theorem kit_self (a : Addr) : PySem.W.kitOne K (.ref a) (.ref a) = some true := by
  unfold PySem.W.kitOne
  rw [if_pos (by simp)]
theorem si_isiC (hC : IsiC K C) : SimC K (rIsi K) (oIsiC C) := fun B S H vs xs k Q r rx h1 q => by
  unfold oIsiC at h1
  split at h1
  · rename_i x y
    obtain ⟨v, w, rfl, rv, rw'⟩ := rdl2 rx
    obtain ⟨b, hb, h1⟩ := h1
    have ans := q (.bl b) S (.bl b) B H h1 (Ex.refl B) r (.bl b)
    have tyi : ∀ {a dx fs}, S a = some (.ins C dx fs) → TyX K H (.ref a) (.ref C) := fun {a dx fs} h => by
      obtain ⟨gs, hg, _⟩ := r.ins h
      exact .base (.ins hg hC.cl hC.ha hC.hn hC.htk hC.hm)
    cases hb with
    | @ty x t c ht hc =>
      have hw : w = .ty c := by cases rw'; rfl
      subst hw
      exact ⟨v, .ty c, .type t, .type c, isB t c, rfl, .ty c, tyD_ok ht r rv, kit_ty (isB_ok t (tyD_mem ht) c hc), ans⟩
    | @ins a dx fs c h hc =>
      cases rd_ref rv
      have hw : w = .ty c := by cases rw'; rfl
      subst hw
      refine ⟨_, _, .ref C, .type c, false, rfl, .ty c, tyi h, ?_, ans⟩
      rcases hc with rfl | rfl | rfl
      · exact hC.t1
      · exact hC.t2
      · exact hC.t3
    | own h =>
      cases rd_ref rv
      cases rd_ref rw'
      exact ⟨_, _, .ref C, .ref C, true, rfl, .own C, tyi h, kit_self C, ans⟩
    | non =>
      cases rd_non rv
      cases rd_ref rw'
      exact ⟨_, _, .type "NoneType", .ref C, false, rfl, .own C, .base .non, hC.f1, ans⟩
    | bl b =>
      have : v = .bl b := by cases rv; rfl
      subst this
      cases rd_ref rw'
      exact ⟨_, _, .type "bool", .ref C, false, rfl, .own C, .base (.bl b), hC.f2, ans⟩
    | int i =>
      cases rd_int rv
      cases rd_ref rw'
      exact ⟨_, _, .type "int", .ref C, false, rfl, .own C, .base (.int i), hC.f3, ans⟩
    | str i =>
      cases rd_str rv
      cases rd_ref rw'
      exact ⟨_, _, .type "str", .ref C, false, rfl, .own C, .base (.str i), hC.f4, ans⟩
  · exact h1.elim
end
section
variable {C a dx : Addr} {S : Sto} {k : DK} {fs : List (Str × D)} {x y : D} {b : Bool}
theorem x_isiC {xs : List D} : oIsiC C xs S k = stC (oIsiC C) xs S k ⟨⟩ := propext Iff.rfl
theorem isiC_of (h : IsAns C S x y b) : stC (oIsiC C) [x, y] S k ⟨⟩ = k (.bl b) S := propext ⟨fun ⟨c, hc, q⟩ => by rw [h.uni hc]; exact q, fun q => ⟨b, h, q⟩⟩
theorem x_icS {s : Str} {c : String} (hc : c ∈ Cs) : stC (oIsiC C) [.str s, .ty c] S k ⟨⟩ = k (.bl (isB "str" c)) S := isiC_of (.ty rfl hc)
theorem x_icI {s : Int} {c : String} (hc : c ∈ Cs) : stC (oIsiC C) [.int s, .ty c] S k ⟨⟩ = k (.bl (isB "int" c)) S := isiC_of (.ty rfl hc)
theorem x_icB {s : Bool} {c : String} (hc : c ∈ Cs) : stC (oIsiC C) [.bl s, .ty c] S k ⟨⟩ = k (.bl (isB "bool" c)) S := isiC_of (.ty rfl hc)
theorem x_icN {c : String} (hc : c ∈ Cs) : stC (oIsiC C) [.non, .ty c] S k ⟨⟩ = k (.bl (isB "NoneType" c)) S := isiC_of (.ty rfl hc)
theorem x_ioS {s : Str} : stC (oIsiC C) [.str s, .ref C] S k ⟨⟩ = k (.bl false) S := isiC_of (.str s)
theorem x_ioI {s : Int} : stC (oIsiC C) [.int s, .ref C] S k ⟨⟩ = k (.bl false) S := isiC_of (.int s)
theorem x_ioB {s : Bool} : stC (oIsiC C) [.bl s, .ref C] S k ⟨⟩ = k (.bl false) S := isiC_of (.bl s)
theorem x_ioN : stC (oIsiC C) [.non, .ref C] S k ⟨⟩ = k (.bl false) S := isiC_of .non
theorem x_inB (h : S a = some (.ins C dx fs)) : stC (oIsiC C) [.ref a, .ty "bool"] S k ⟨⟩ = k (.bl false) S := isiC_of (.ins h (.inl rfl))
theorem x_inI (h : S a = some (.ins C dx fs)) : stC (oIsiC C) [.ref a, .ty "int"] S k ⟨⟩ = k (.bl false) S := isiC_of (.ins h (.inr (.inl rfl)))
theorem x_inS (h : S a = some (.ins C dx fs)) : stC (oIsiC C) [.ref a, .ty "str"] S k ⟨⟩ = k (.bl false) S := isiC_of (.ins h (.inr (.inr rfl)))
theorem x_own (h : S a = some (.ins C dx fs)) : stC (oIsiC C) [.ref a, .ref C] S k ⟨⟩ = k (.bl true) S := isiC_of (.own h)
end
end DL

set_option Elab.async false
set_option linter.all false
set_option maxRecDepth 100000
/-! ### texts as lists of signs; the figures of numbers -/
namespace DL
open PySem L2 Evl EX
theorem nF_nil {K : PySem.W.Frag} {C : Addr} : ∀ f ∈ ([] : List Str), NoAttr K C f := fun _ z => nomatch z
theorem nF_cons {K : PySem.W.Frag} {C : Addr} {f : Str} {fs : List Str} (h : PySem.W.findIn K (.ref C) f = some none) (r : ∀ g ∈ fs, NoAttr K C g) : ∀ g ∈ f :: fs, NoAttr K C g := fun g hg => by
  rcases List.mem_cons.mp hg with rfl | hg
  · exact h
  · exact r g hg
theorem strX {a b : Str} (h : a.cps.toList = b.cps.toList) : a = b := by
  cases a with | mk a => cases b with | mk b => exact congrArg Str.mk (Array.toList_inj.mp h)
def sOf (l : List Nat) : Str := ⟨l.toArray⟩
theorem sOf_app (a b : List Nat) : sOf a ++ sOf b = sOf (a ++ b) := strX (by rw [PyProof.Rows.cps_toList_append]; simp [sOf])
theorem sOf_len (a : List Nat) : (sOf a).length = a.length := by simp [sOf, Str.length]
theorem sapp_len (a b : Str) : (a ++ b).length = a.length + b.length := by
  have := congrArg List.length (PyProof.Rows.cps_toList_append a b)
  simpa [Str.length] using this
def fig (i : Int) : Str := Str.ofString (toString i)
theorem fig_nat (n : Nat) : fig (n : Int) = sOf (TL.numL n) := strX (by rw [show (fig (n : Int)).cps.toList = TL.numL n from TL.tl_num n]; simp [sOf])
theorem ofS_app (a b : String) : Str.ofString (a ++ b) = Str.ofString a ++ Str.ofString b := strX (by
  rw [PyProof.Rows.cps_toList_append, Str.ofString_eq_toList, Str.ofString_eq_toList, Str.ofString_eq_toList]
  simp)
theorem fig_neg {i : Int} (h : i < 0) : fig i = Str.ofString "-" ++ fig (0 - i) := by
  unfold fig
  rw [PyProof.Rows.toString_neg h, ofS_app]
theorem fig_len {n k : Nat} (hk : 0 < k) (h : n < 10 ^ k) : (fig (n : Int)).length ≤ k := by
  rw [fig_nat, sOf_len]
  exact TL.numL_len hk h
theorem fig_inj {m n : Nat} (h : fig (m : Int) = fig (n : Int)) : m = n := by
  rw [fig_nat, fig_nat] at h
  have := congrArg (fun s : Str => s.cps.toList) h
  simp only [sOf] at this
  exact TL.numL_inj this
theorem ixMem {S : Sto} {k : DK} {ds : List D} {i : Int} {m : Nat} (h : ds.length = m) (h0 : 0 ≤ i) (h1 : i < m) (q : ∀ d ∈ ds, k d S) : ixq (.list ds) i S k ⟨⟩ := by
  obtain ⟨j, rfl⟩ := Int.eq_ofNat_of_zero_le h0
  have hj : j < ds.length := by omega
  exact ixAt (.inl rfl) (List.getElem?_eq_getElem hj) (q _ (List.getElem_mem hj))
theorem log2_small {n : Nat} (h : n < 2 ^ 200) : n.log2 < 1920 := by
  by_cases z : n = 0
  · rw [z]; decide
  · have := (Nat.log2_lt (k := 200) z).mpr h
    omega
end DL

set_option Elab.async false
set_option linter.all false
set_option maxRecDepth 100000
namespace K
open PySem L2 Evl EX PC DL
def _root_.PC.Pc.dval : Pc → D
  | .name s => .str s
  | .word s => .str s
  | .num n => .int (n : Int)
  | .text s => .str s
  | .sign s => .str s
def _root_.PC.Pc.d (p : Pc) : D := .tup [.str p.kind, p.dval]
theorem signs_split : Txt.split (Str.ofString "( ) [ ] { } , . : = == + - * <") (Str.ofString " ") = SGs := by decide +kernel
section
variable {P : Program} {w : World} {K : PySem.W.Frag} {mg : Str → Option Value} {base : Heap}
def dVal (Pv : D → Prop) : SpD := fun ds S k _ => ∃ tp : Addr, ds = [.ref tp] ∧ S tp = some .tap ∧ ∀ v, Pv v → k v S
theorem valOf {Pv : D → Prop} {S : Sto} {k : DK} {tp : Addr} (hT : S tp = some .tap) (h : ∀ v, Pv v → k v S) : DL.ask (dVal Pv) [.ref tp] S k ⟨⟩ := ⟨tp, rfl, hT, h⟩
def dKept : SpD := fun ds S k _ => ds = [] ∧ k (.list (WDs.map D.str)) S
def dPiece : SpD := dVal fun v => ∃ p : Pc, v = p.d ∧ p.ok
local macro_rules | `(tactic| walk_at "dl") => `(tactic| try simp only [↓x_seq, ↓x_nx, ↓x_pass, ↓x_brk, ↓x_cnt, ↓x_drop, ↓x_ret, ↓x_retN, ↓x_ifS, ↓x_set, ↓x_asg, ↓x_gN, ↓x_gT, ↓x_gsC, ↓x_gsN, ↓x_var, x_rdv, ↓x_c, ↓x_op, ↓x_test, x_tst, ↓x_and, ↓x_or, ↓x_not, ↓x_andV, ↓x_orV, ↓x_notV, x_tstV, ↓x_ifE, x_true, x_false, ↓x_nil, ↓x_cons, ↓x_tup, ↓x_lst, ↓x_new, ↓x_newD, ↓x_call, ↓x_cb, x_oI, x_oIc, x_oS, x_addS, x_isN, x_notN, x_eqI, x_eqS, x_eqIS, x_eqSI, x_eqNS, x_neI, x_neS, x_neB, x_eqB, x_few, x_need, ↓x_ix, x_lenS, x_ixL0, x_ixT0, x_ixT1, x_ixT2, x_ixT3, x_ixT4, x_lenL, x_lenT, x_lenC, x_listL, x_listT, x_tupL, x_tupT, x_strI, x_strS, x_int1, x_intB, x_I1, x_I2, x_cat, x_catT, ↓x_split, ↓x_for, ↓x_cut, ↓x_lc, ↓x_whl, ↓x_diL, ↓x_diT, ↓x_diS, x_itL, x_itC, x_itT, x_itS, ↓x_diR1, ↓x_diR2, ↓x_diE, x_enmL, x_enmC, ↓x_gcN, ↓x_gcT, ↓x_yes, ↓x_ml, ↓x_ms, x_strq, x_ss, x_ssc, x_ssi, ↓x_join, ↓x_aug, x_st2I, ↓x_sl, ↓x_noP, ↓x_part, x_intq, x_slL, x_slC, x_slS, ↓x_in, x_inT, x_inL, x_ninT, x_ninL, x_inN, x_inSS, x_inSI, x_inIS, x_inII, ↓x_sg, x_sgS, x_nsgS, ↓x_eqD, ↓x_inDD, x_mulS, ↓x_isi, x_isiS, x_isiI, x_isiB, x_isiN, x_isiL, x_isiT, ↓x_isTT, x_itI, x_itStr, x_itN, x_itB, x_itLst, x_itTup, ↓x_any, ↓x_all, ↓x_sum, ↓x_srtI, ↓x_srtS, ↓x_intS, ↓x_lenRf, ↓x_tupRf, ↓x_frz', x_flS, x_flI, x_flN, x_flB, x_cs_bool, x_isB_NoneType_bool, x_isB_bool_bool, x_isB_int_bool, x_isB_str_bool, x_isB_list_bool, x_isB_tuple_bool, x_isB_dict_bool, x_cs_int, x_isB_NoneType_int, x_isB_bool_int, x_isB_int_int, x_isB_str_int, x_isB_list_int, x_isB_tuple_int, x_isB_dict_int, x_cs_str, x_isB_NoneType_str, x_isB_bool_str, x_isB_int_str, x_isB_str_str, x_isB_list_str, x_isB_tuple_str, x_isB_dict_str, x_cs_list, x_isB_NoneType_list, x_isB_bool_list, x_isB_int_list, x_isB_str_list, x_isB_list_list, x_isB_tuple_list, x_isB_dict_list, x_cs_tuple, x_isB_NoneType_tuple, x_isB_bool_tuple, x_isB_int_tuple, x_isB_str_tuple, x_isB_list_tuple, x_isB_tuple_tuple, x_isB_dict_tuple, x_cs_dict, x_isB_NoneType_dict, x_isB_bool_dict, x_isB_int_dict, x_isB_str_dict, x_isB_list_dict, x_isB_tuple_dict, x_isB_dict_dict, List.all_cons, List.all_nil, Bool.and_self, Bool.or_false, Bool.or_true, Bool.false_or, Bool.true_or, wipeD, setD, DL.isNon, List.set_cons_zero, List.set_cons_succ, List.getElem?_cons_zero, List.getElem?_cons_succ, List.length_cons, List.length_nil, Nat.zero_add, List.cons_append, List.nil_append, decide_true, decide_false, Bool.not_true, Bool.not_false, true_and, and_true, startD, List.map_cons, List.map_nil, Nat.reduceSub, Nat.reduceLeDiff, Nat.zero_le, Int.reduceLT, Int.reduceLE, and_self, Nat.reduceAdd, List.replicate])
theorem ok_piece {f wa : Addr} {fd : FuncData} (F : Fun K "_law_piece" "_law_piece" s__law_piece f fd) (T : Txt K mg wa) (G__law_next : DefD P w K mg base 2 "_law_next" ["_law_tap_here", "_law_size"] dDraw) (G__law_name : DefD P w K mg base 3 "_law_name" ["_law_tap_here"] (dVal fun v => ∃ s, v = .str s ∧ (Pc.name s).ok))
    (G__law_kept : DefD P w K mg base 1 "_law_kept" [] dKept) (G__law_number : DefD P w K mg base 3 "_law_number" ["_law_tap_here"] (dVal fun v => ∃ n : Nat, v = .int n ∧ n < 10 ^ 9)) (G__law_words_text : DefD P w K mg base 3 "_law_words_text" ["_law_tap_here"] (dVal fun v => ∃ s, v = .str s ∧ (Pc.text s).ok)) :
    FnOk P w K mg base CX0 4 f fd ["_law_tap_here"] (lSp K dPiece) := by
  refine dok F sc__law_piece (fun ds S q qx ⟨tp, h, _⟩ => by rw [h]; rfl) ⟨_, fun cdv A outer s H E hr => dss_cons (ds_set (i := 1) sc__law_piece.nd rfl (Or.inl rfl) (de_call G__law_next (hr.mono (by decide)) (by rfl) (da_cons (de_var 0) (da_cons (de_int) da_nil))))
      (dss_cons (ds_if (PW.pt (dw_or (dt_cmp op_eq si_eq (de_var 1) (de_int) (nomark _)) (dw_or1 (dt_cmp op_eq si_eq (de_var 1) (de_int) (nomark _)))))
        (dss_one (ds_ret (de_tup (da_cons (de_str) (da_cons (de_call G__law_name (hr.mono (by decide)) (by rfl) (da_cons (de_var 0) da_nil)) da_nil)))))
        (dss_nil))
      (dss_cons (ds_if (dt_cmp op_eq si_eq (de_var 1) (de_int) (nomark _))
        (dss_one (ds_ret (de_tup (da_cons (de_str) (da_cons (de_ix ix_seq (si_ix rfl) (de_call0 G__law_kept (hr.mono (by decide)) (by rfl)) (de_call G__law_next (hr.mono (by decide)) (by rfl) (da_cons (de_var 0) (da_cons (de_int) da_nil))) (fun _ _ => rfl)) da_nil)))))
        (dss_nil))
      (dss_cons (ds_if (dt_cmp op_eq si_eq (de_var 1) (de_int) (nomark _))
        (dss_one (ds_ret (de_tup (da_cons (de_str) (da_cons (de_call G__law_number (hr.mono (by decide)) (by rfl) (da_cons (de_var 0) da_nil)) da_nil)))))
        (dss_nil))
      (dss_cons (ds_if (dt_cmp op_eq si_eq (de_var 1) (de_int) (nomark _))
        (dss_one (ds_ret (de_tup (da_cons (de_str) (da_cons (de_call G__law_words_text (hr.mono (by decide)) (by rfl) (da_cons (de_var 0) da_nil)) da_nil)))))
        (dss_nil))
      (dss_one (ds_ret (de_tup (da_cons (de_str) (da_cons (de_ix ix_seq (si_ix rfl) (de_split (de_str) (de_str)) (de_call G__law_next (hr.mono (by decide)) (by rfl) (da_cons (de_var 0) (da_cons (de_int) da_nil))) (fun _ _ => rfl)) da_nil))))))))), fun ds S q qx ⟨tp, hd, hT, h⟩ => ?_⟩
  subst hd
  walk_at "dl"
  refine drawOf hT (by decide) (by decide) fun r hr => ?_
  have name : DL.ask (dVal fun v => ∃ s, v = .str s ∧ (Pc.name s).ok) [.ref tp] S (fun x S1 => few 2 (q (.tup [.str (Str.ofString "name"), x]) S1) ⟨⟩) ⟨⟩ := valOf hT fun v ⟨s, e, ok⟩ => fewOf (by decide) (by rw [e]; exact h _ ⟨.name s, rfl, ok⟩)
  walk_at "dl"
  refine br (fun _ => name) fun _ => br (fun _ => name) fun _ => ?_
  walk_at "dl"
  refine br (fun _ => ?_) fun _ => ?_
  · walk_at "dl"
    refine ⟨rfl, ?_⟩
    walk_at "dl"
    refine drawOf hT (by decide) (by decide) fun j hj => ?_
    walk_at "dl"
    have hl : j < (WDs.map D.str).length := by rw [List.length_map, show WDs.length = 33 by decide +kernel]; omega
    refine ixAt (.inl rfl) (List.getElem?_eq_getElem hl) (fewOf (Nat.le_of_ble_eq_true rfl) ?_)
    rw [List.getElem_map]
    exact h _ ⟨.word _, rfl, List.getElem_mem _⟩
  walk_at "dl"
  refine br (fun _ => ?_) fun _ => ?_
  · walk_at "dl"
    exact valOf hT fun v ⟨n, e, ok⟩ => fewOf (by decide) (by rw [e]; exact h _ ⟨.num n, rfl, ok⟩)
  walk_at "dl"
  refine br (fun _ => ?_) fun _ => ?_
  · walk_at "dl"
    exact valOf hT fun v ⟨s, e, ok⟩ => fewOf (by decide) (by rw [e]; exact h _ ⟨.text s, rfl, ok⟩)
  walk_at "dl"
  refine needOf (by decide +kernel) (fewOf (by decide +kernel) ?_)
  walk_at "dl"
  refine drawOf hT (by decide) (by decide) fun j hj => ?_
  walk_at "dl"
  rw [signs_split]
  have hl : j < (SGs.map D.str).length := by rw [List.length_map, show SGs.length = 15 by decide +kernel]; omega
  refine ixAt (.inl rfl) (List.getElem?_eq_getElem hl) (fewOf (Nat.le_of_ble_eq_true rfl) ?_)
  rw [List.getElem_map]
  exact h _ ⟨.sign _, rfl, List.getElem_mem _⟩
end
end K

set_option Elab.async false
set_option linter.all false
set_option maxRecDepth 100000
namespace K
open PySem L2 Evl EX PC DL
theorem _root_.PC.Pc.txt_len {p : Pc} (h : p.ok) : p.txt.length ≤ 42 := by
  cases p with
  | name s => show s.cps.toList.length ≤ 42; rw [← len_cps]; have := h.2.2.2.1; omega
  | word s => show s.cps.toList.length ≤ 42; rw [← len_cps]; have := (words_fact s h).2.2; omega
  | num n => exact Nat.le_trans (TL.numL_len (k := 9) (by decide) h) (by decide)
  | text s =>
    show (34 :: (s.cps.toList ++ [34])).length ≤ 42
    have := h.1
    rw [len_cps] at this
    simp
    omega
  | sign s => exact (by decide +kernel : ∀ s ∈ SGs, s.cps.toList.length ≤ 42) s h
theorem strOk_of {s : Str} (h : ∀ c ∈ s.cps.toList, c < 128) : PyData.strOk s = true := by
  unfold PyData.strOk
  rw [Array.all_eq_true]
  intro i hi
  have := h s.cps[i] (by simp)
  simp
  omega
theorem _root_.PC.Pc.nb {p : Pc} (h : p.ok) : p.d.nb = true := by
  have key : p.dval.nb = true := by
    cases p with
    | name s =>
      refine strOk_of fun c hc => ?_
      have h1 := h.2.2.1 c hc
      unfold rc at h1
      have h2 : ∀ c, c ∈ LTl ∨ c ∈ FGl → c < 128 := fun c h => h.elim ((by decide +kernel : ∀ c ∈ LTl, c < 128) c) ((by decide +kernel : ∀ c ∈ FGl, c < 128) c)
      simp at h1
      exact h2 c h1
    | word s => exact (by decide +kernel : ∀ s ∈ WDs, PyData.strOk s = true) s h
    | num n => rfl
    | text s => exact strOk_of h.2.2
    | sign s => exact (by decide +kernel : ∀ s ∈ SGs, PyData.strOk s = true) s h
  have k2 : PyData.strOk p.kind = true := by
    have hk : ∀ s ∈ [(Str.ofString "name"), Str.ofString "word", Str.ofString "number", Str.ofString "text", Str.ofString "sign"], PyData.strOk s = true := by decide +kernel
    cases p <;> exact hk _ (by simp [Pc.kind])
  show nbGL false [.str p.kind, p.dval] = true
  simp [nbGL, key, D.nbG, k2]
theorem _root_.PC.Pc.deep {p : Pc} : p.d.deep = 1 := by cases p <;> rfl
section
variable {P : Program} {w : World} {K : PySem.W.Frag} {mg : Str → Option Value} {base : Heap}
def dPieceText : SpD := fun ds S k _ => ∃ p : Pc, ds = [p.d] ∧ p.ok ∧ k (.str ⟨p.txt.toArray⟩) S
def dFit : SpD := fun ds S k _ => ∃ ps : List Pc, ds = [.list (ps.map Pc.d)] ∧ ps ≠ [] ∧ ps.length ≤ 40 ∧ (∀ p ∈ ps, p.ok) ∧ ∀ qs : List Pc, qs ≠ [] → qs.length ≤ 40 → (∀ q ∈ qs, q.ok) → k (.list (qs.map Pc.d)) S
def FitI (ps : List Pc) (S : Sto) (p : Addr) (n : Nat) (δ : Dst) (S' : Sto) : Prop := ∃ (qs : List Pc) (room : Int) (o : Option D), (n = 0 ∨ qs ≠ []) ∧ qs.length ≤ n ∧ (∀ q ∈ qs, q.ok) ∧ S' = put S p (.lst (qs.map Pc.d)) ∧ δ = [some (.list (ps.map Pc.d)), some (.ref p), some (.int room), o]
local macro_rules | `(tactic| walk_at "dl") => `(tactic| try simp only [↓x_seq, ↓x_nx, ↓x_pass, ↓x_brk, ↓x_cnt, ↓x_drop, ↓x_ret, ↓x_retN, ↓x_ifS, ↓x_set, ↓x_asg, ↓x_gN, ↓x_gT, ↓x_gsC, ↓x_gsN, ↓x_var, x_rdv, ↓x_c, ↓x_op, ↓x_test, x_tst, ↓x_and, ↓x_or, ↓x_not, ↓x_andV, ↓x_orV, ↓x_notV, x_tstV, ↓x_ifE, x_true, x_false, ↓x_nil, ↓x_cons, ↓x_tup, ↓x_lst, ↓x_new, ↓x_newD, ↓x_call, ↓x_cb, x_oI, x_oIc, x_oS, x_addS, x_isN, x_notN, x_eqI, x_eqS, x_eqIS, x_eqSI, x_eqNS, x_neI, x_neS, x_neB, x_eqB, x_few, x_need, ↓x_ix, x_lenS, x_ixL0, x_ixT0, x_ixT1, x_ixT2, x_ixT3, x_ixT4, x_lenL, x_lenT, x_lenC, x_listL, x_listT, x_tupL, x_tupT, x_strI, x_strS, x_int1, x_intB, x_I1, x_I2, x_cat, x_catT, ↓x_split, ↓x_for, ↓x_cut, ↓x_lc, ↓x_whl, ↓x_diL, ↓x_diT, ↓x_diS, x_itL, x_itC, x_itT, x_itS, ↓x_diR1, ↓x_diR2, ↓x_diE, x_enmL, x_enmC, ↓x_gcN, ↓x_gcT, ↓x_yes, ↓x_ml, ↓x_ms, x_strq, x_ss, x_ssc, x_ssi, ↓x_join, ↓x_aug, x_st2I, ↓x_sl, ↓x_noP, ↓x_part, x_intq, x_slL, x_slC, x_slS, ↓x_in, x_inT, x_inL, x_ninT, x_ninL, x_inN, x_inSS, x_inSI, x_inIS, x_inII, ↓x_sg, x_sgS, x_nsgS, ↓x_eqD, ↓x_inDD, x_mulS, ↓x_isi, x_isiS, x_isiI, x_isiB, x_isiN, x_isiL, x_isiT, ↓x_isTT, x_itI, x_itStr, x_itN, x_itB, x_itLst, x_itTup, ↓x_any, ↓x_all, ↓x_sum, ↓x_srtI, ↓x_srtS, ↓x_intS, ↓x_lenRf, ↓x_tupRf, ↓x_frz', x_flS, x_flI, x_flN, x_flB, x_cs_bool, x_isB_NoneType_bool, x_isB_bool_bool, x_isB_int_bool, x_isB_str_bool, x_isB_list_bool, x_isB_tuple_bool, x_isB_dict_bool, x_cs_int, x_isB_NoneType_int, x_isB_bool_int, x_isB_int_int, x_isB_str_int, x_isB_list_int, x_isB_tuple_int, x_isB_dict_int, x_cs_str, x_isB_NoneType_str, x_isB_bool_str, x_isB_int_str, x_isB_str_str, x_isB_list_str, x_isB_tuple_str, x_isB_dict_str, x_cs_list, x_isB_NoneType_list, x_isB_bool_list, x_isB_int_list, x_isB_str_list, x_isB_list_list, x_isB_tuple_list, x_isB_dict_list, x_cs_tuple, x_isB_NoneType_tuple, x_isB_bool_tuple, x_isB_int_tuple, x_isB_str_tuple, x_isB_list_tuple, x_isB_tuple_tuple, x_isB_dict_tuple, x_cs_dict, x_isB_NoneType_dict, x_isB_bool_dict, x_isB_int_dict, x_isB_str_dict, x_isB_list_dict, x_isB_tuple_dict, x_isB_dict_dict, List.all_cons, List.all_nil, Bool.and_self, Bool.or_false, Bool.or_true, Bool.false_or, Bool.true_or, wipeD, setD, DL.isNon, List.set_cons_zero, List.set_cons_succ, List.getElem?_cons_zero, List.getElem?_cons_succ, List.length_cons, List.length_nil, Nat.zero_add, List.cons_append, List.nil_append, decide_true, decide_false, Bool.not_true, Bool.not_false, true_and, and_true, startD, List.map_cons, List.map_nil, Nat.reduceSub, Nat.reduceLeDiff, Nat.zero_le, Int.reduceLT, Int.reduceLE, and_self, Nat.reduceAdd, List.replicate])
theorem ok_fit {f wa : Addr} {fd : FuncData} (F : Fun K "_law_fit" "_law_fit" s__law_fit f fd) (T : Txt K mg wa) (G__law_piece_text : DefD P w K mg base 1 "_law_piece_text" ["_law_piece_here"] dPieceText) :
    FnOk P w K mg base CX0 2 f fd ["_law_pieces"] (lSp K dFit) := by
  refine dok F sc__law_fit (fun ds S q qx ⟨tp, h, _⟩ => by rw [h]; rfl) ⟨_, fun cdv A outer s H E hr => dss_cons (ds_set (i := 1) sc__law_fit.nd rfl (Or.inl rfl) (de_new (da_nil)))
      (dss_cons (ds_set (i := 2) sc__law_fit.nd rfl (Or.inl rfl) (de_int))
      (dss_cons (ds_for PassesOwn.never rfl (di_list (K := K) (de_var 0)) (dg_name (i := 3) sc__law_fit.nd rfl (Or.inl rfl))
        (dss_cons (ds_set (i := 2) sc__law_fit.nd rfl (Or.inl rfl) (de_op op_sub si_sub (de_op op_sub si_sub (de_var 2) (de_callB call_len (si_len rfl) (by rfl) T.len (by decide +kernel) (da_cons (de_call G__law_piece_text (hr.mono (by decide)) (by rfl) (da_cons (de_var 3) da_nil)) da_nil))) (de_int)))
        (dss_cons (ds_if (PW.pt (dw_and (dt_cmp op_lt si_lt (de_var 2) (de_int) (nomark _)) (dw_and1 (dt_cmp (op_neM (K := K) hr.units) (si_eqM true) (de_var 1) (de_lst (da_nil)) (nomark _)))))
          (dss_one (ds_ret (de_frz 1)))
          (dss_nil))
        (dss_one (ds_expr (de_ml PySem.F.slot_list_append PySem.F.type_list_append mt_append si_app (de_var 1) (da_cons (de_var 3) da_nil)))))))
      (dss_one (ds_ret (de_frz 1))))), fun ds S q qx ⟨ps, hd, hne, hl, hok, h⟩ => ?_⟩
  subst hd
  walk_at "dl"
  refine freshOf fun p hp => ?_
  walk_at "dl"
  refine forOf (FitI ps S p) ⟨[], 105, none, .inl rfl, Nat.le_refl _, (fun q hq => nomatch hq), rfl, rfl⟩ ?_ ?_
  · rintro n d δ S' hn ⟨qs, room, o, hq0, hqn, hqok, rfl, rfl⟩
    rw [List.getElem?_map] at hn
    obtain ⟨x, hx, rfl⟩ := Option.map_eq_some_iff.mp hn
    have hxok := hok x (List.mem_of_getElem? hx)
    have hnl : n < 40 := by have := (List.getElem?_eq_some_iff.mp hx).1; omega
    walk_at "dl"
    refine ⟨x, rfl, hxok, ?_⟩
    walk_at "dl"
    have hlen := x.txt_len hxok
    refine fewOf (by rw [len_cps]; show x.txt.length ≤ 100000; omega) ?_
    walk_at "dl"
    have hsn : put S p (.lst (qs.map Pc.d)) p = some (.lst (qs.map Pc.d)) := put_same
    have app : ∀ r : Int, stM oApp (.ref p) [x.d] (put S p (.lst (qs.map Pc.d))) (fun _ S1 => FitI ps S p (n + 1) [some (D.list (ps.map Pc.d)), some (.ref p), some (.int r), some x.d] S1) ⟨⟩ := fun r =>
      appOf hsn (by rw [List.length_map]; omega) ⟨qs ++ [x], r, some x.d, .inr (by simp), by simp; omega, (fun z hz => by
        rcases List.mem_append.mp hz with q | q
        · exact hqok z q
        · rw [List.mem_singleton.mp q]; exact hxok), by rw [put_put, List.map_append]; rfl, rfl⟩
    refine br (fun _ => ?_) fun _ => ?_
    · walk_at "dl"
      have hnb : nbL (qs.map Pc.d) = true := (nbL_iff _).mpr fun d hd => by
        obtain ⟨z, hz, rfl⟩ := List.mem_map.mp hd
        exact z.nb (hqok z hz)
      refine neDOf (p := .list (qs.map Pc.d)) (q := .list []) (by simp only [res, put_same]) rfl (by simp only [D.nb, D.nbG]; exact hnb) rfl (Nat.le_trans (Nat.min_le_right _ _) (by decide)) ?_
      walk_at "dl"
      refine br (fun hb => ?_) fun _ => ?_
      · walk_at "dl"
        refine frzOf put_same ?_
        rw [del_put hp]
        refine h qs (fun z => ?_) (by omega) hqok
        rw [z] at hb
        simp at hb
      · walk_at "dl"
        exact needOf (isLOf hsn) (app _)
    · walk_at "dl"
      exact needOf (isLOf hsn) (app _)
  · rintro δ S' ⟨qs, room, o, hq0, hqn, hqok, rfl, rfl⟩
    walk_at "dl"
    refine frzOf put_same ?_
    rw [del_put hp]
    rw [List.length_map] at hq0 hqn
    exact h qs (hq0.resolve_left fun z => hne (List.eq_nil_of_length_eq_zero z)) (by omega) hqok
end
end K

set_option Elab.async false
set_option linter.all false
set_option maxRecDepth 100000
namespace K
open PySem L2 Evl EX PC DL
def strOf (l : List Nat) : Str := ⟨l.toArray⟩
theorem strOf_app (a b : List Nat) : strOf a ++ strOf b = strOf (a ++ b) := str_ext (by rw [PyProof.Rows.cps_toList_append]; simp [strOf])
theorem strOf_len (a : List Nat) : (strOf a).length = a.length := by rw [len_cps]; simp [strOf]
theorem blank_mul (n : Nat) : Txt.mul (Str.ofString " ") (n : Int) = strOf (List.replicate n 32) := mulS1 (c := 32)
/-- what the row is, behind n pieces -/
structure RowM (ps : List Pc) (n : Nat) (row : List Nat) : Prop where
  zero : n = 0 → row = []
  len : row.length ≤ 100 * n
  pos : 0 < n → ∃ p, ps[n - 1]? = some p ∧ Open (ps.take n) p row ∧ ∃ c r, row = c :: r ∧ c ≠ 32
def RowI (ps : List Pc) (S : Sto) (tp : Addr) (n : Nat) (δ : Dst) (S' : Sto) : Prop := S' = S ∧ ∃ (row : List Nat) (a b c d e f : Option D), RowM ps n row ∧ δ = [some (.list (ps.map Pc.d)), some (.ref tp), some (.str (strOf row)), a, b, c, d, e, f]
theorem RowM.next {ps : List Pc} {n : Nat} {row : List Nat} {p q : Pc} {b : Nat} (m : RowM ps n row) (h0 : 0 < n) (hp : ps[n - 1]? = some p) (hq : ps[n]? = some q) (hok : q.ok) (hb : b ≤ 5)
    (h1 : 0 < b ∨ (¬ (p.isRun = true ∧ q.isRun = true) ∧ ¬ (p = .sign "=" ∧ (q = .sign "=" ∨ q = .sign "==")))) : RowM ps (n + 1) (row ++ List.replicate b 32 ++ q.txt) := by
  obtain ⟨p', hp', ho, c, r, hr, hc⟩ := m.pos h0
  rw [hp] at hp'
  cases hp'
  have hn := (List.getElem?_eq_some_iff.mp hq).1
  refine ⟨fun z => by omega, ?_, fun _ => ⟨q, by simpa using hq, ?_, c, r ++ List.replicate b 32 ++ q.txt, by rw [hr]; simp, hc⟩⟩
  · have := m.len
    have := q.txt_len hok
    simp
    omega
  · have := ho.next hok h1
    rwa [show ps.take (n + 1) = ps.take n ++ [q] by rw [List.take_add_one, hq]; rfl]
theorem RowM.first {ps : List Pc} {row : List Nat} {q : Pc} (m : RowM ps 0 row) (hq : ps[0]? = some q) (hok : q.ok) : RowM ps 1 (row ++ q.txt) := by
  rw [m.zero rfl, List.nil_append]
  refine ⟨fun z => by omega, ?_, fun _ => ⟨q, by simpa using hq, ?_, ?_⟩⟩
  · have := q.txt_len hok
    omega
  · rw [show ps.take 1 = [q] by rw [List.take_add_one, hq]; rfl]
    exact open_first hok
  · obtain ⟨c, r, e, h⟩ := q.no_blank hok
    exact ⟨c, r, e, h⟩
def isRunD (p : Pc) : Bool := inD (.str p.kind) [.str "name", .str "word", .str "number"]
theorem isRunD_eq (p : Pc) : isRunD p = p.isRun := by cases p <;> rfl
theorem eqSign {p : Pc} (h : p.d = .tup [.str "sign", .str "="]) : p = .sign "=" := by
  cases p with
  | sign s => injection h with h; injection h with _ h; injection h with h; injection h with h; rw [h]
  | num n => injection h with h; injection h with _ h; injection h with h; cases h
  | name s => injection h with h; injection h with h _; injection h with h; exact absurd (show Str.ofString "name" = Str.ofString "sign" from h) (by decide +kernel)
  | word s => injection h with h; injection h with h _; injection h with h; exact absurd (show Str.ofString "word" = Str.ofString "sign" from h) (by decide +kernel)
  | text s => injection h with h; injection h with h _; injection h with h; exact absurd (show Str.ofString "text" = Str.ofString "sign" from h) (by decide +kernel)
def RowM1 (ps : List Pc) (S : Sto) (tp : Addr) (n : Nat) (x : Pc) (δ : Dst) (S' : Sto) : Prop := S' = S ∧ ∃ (row : List Nat) (a b c d : Option D), RowM ps (n + 1) (row ++ x.txt) ∧ row.length ≤ 100 * n + 5 ∧ δ = [some (.list (ps.map Pc.d)), some (.ref tp), some (.str (strOf row)), some (.int (n : Int)), some x.d, a, b, c, d]
def RowM2 (ps : List Pc) (S : Sto) (tp : Addr) (n : Nat) (x p : Pc) (row : List Nat) (δ : Dst) (S' : Sto) : Prop := S' = S ∧ ∃ (bl : Nat) (a b c : Option D), bl ≤ 5 ∧ (0 < bl ∨ (¬ (p.isRun = true ∧ x.isRun = true) ∧ ¬ (p = .sign "=" ∧ (x = .sign "=" ∨ x = .sign "==")))) ∧ δ = [some (.list (ps.map Pc.d)), some (.ref tp), some (.str (strOf row)), some (.int (n : Int)), some x.d, some (.int (bl : Int)), a, b, c]
section
variable {P : Program} {w : World} {K : PySem.W.Frag} {mg : Str → Option Value} {base : Heap}
def dRow : SpD := fun ds S k _ => ∃ (ps : List Pc) (tp : Addr), ds = [.list (ps.map Pc.d), .ref tp] ∧ S tp = some .tap ∧ ps ≠ [] ∧ ps.length ≤ 40 ∧ (∀ p ∈ ps, p.ok) ∧ ∀ l : List Nat, Lay ps l → l.length ≤ 4100 → (∀ c, l.head? = some c → c ≠ 32) → k (.str (strOf l)) S
local macro_rules | `(tactic| walk_at "dl") => `(tactic| try simp only [↓x_seq, ↓x_nx, ↓x_pass, ↓x_brk, ↓x_cnt, ↓x_drop, ↓x_ret, ↓x_retN, ↓x_ifS, ↓x_set, ↓x_asg, ↓x_gN, ↓x_gT, ↓x_gsC, ↓x_gsN, ↓x_var, x_rdv, ↓x_c, ↓x_op, ↓x_test, x_tst, ↓x_and, ↓x_or, ↓x_not, ↓x_andV, ↓x_orV, ↓x_notV, x_tstV, ↓x_ifE, x_true, x_false, ↓x_nil, ↓x_cons, ↓x_tup, ↓x_lst, ↓x_new, ↓x_newD, ↓x_call, ↓x_cb, x_oI, x_oIc, x_oS, x_addS, x_isN, x_notN, x_eqI, x_eqS, x_eqIS, x_eqSI, x_eqNS, x_neI, x_neS, x_neB, x_eqB, x_few, x_need, ↓x_ix, x_lenS, x_ixL0, x_ixT0, x_ixT1, x_ixT2, x_ixT3, x_ixT4, x_lenL, x_lenT, x_lenC, x_listL, x_listT, x_tupL, x_tupT, x_strI, x_strS, x_int1, x_intB, x_I1, x_I2, x_cat, x_catT, ↓x_split, ↓x_for, ↓x_cut, ↓x_lc, ↓x_whl, ↓x_diL, ↓x_diT, ↓x_diS, x_itL, x_itC, x_itT, x_itS, ↓x_diR1, ↓x_diR2, ↓x_diE, x_enmL, x_enmC, ↓x_gcN, ↓x_gcT, ↓x_yes, ↓x_ml, ↓x_ms, x_strq, x_ss, x_ssc, x_ssi, ↓x_join, ↓x_aug, x_st2I, ↓x_sl, ↓x_noP, ↓x_part, x_intq, x_slL, x_slC, x_slS, ↓x_in, x_inT, x_inL, x_ninT, x_ninL, x_inN, x_inSS, x_inSI, x_inIS, x_inII, ↓x_sg, x_sgS, x_nsgS, ↓x_eqD, ↓x_inDD, x_mulS, ↓x_isi, x_isiS, x_isiI, x_isiB, x_isiN, x_isiL, x_isiT, ↓x_isTT, x_itI, x_itStr, x_itN, x_itB, x_itLst, x_itTup, ↓x_any, ↓x_all, ↓x_sum, ↓x_srtI, ↓x_srtS, ↓x_intS, ↓x_lenRf, ↓x_tupRf, ↓x_frz', x_flS, x_flI, x_flN, x_flB, x_cs_bool, x_isB_NoneType_bool, x_isB_bool_bool, x_isB_int_bool, x_isB_str_bool, x_isB_list_bool, x_isB_tuple_bool, x_isB_dict_bool, x_cs_int, x_isB_NoneType_int, x_isB_bool_int, x_isB_int_int, x_isB_str_int, x_isB_list_int, x_isB_tuple_int, x_isB_dict_int, x_cs_str, x_isB_NoneType_str, x_isB_bool_str, x_isB_int_str, x_isB_str_str, x_isB_list_str, x_isB_tuple_str, x_isB_dict_str, x_cs_list, x_isB_NoneType_list, x_isB_bool_list, x_isB_int_list, x_isB_str_list, x_isB_list_list, x_isB_tuple_list, x_isB_dict_list, x_cs_tuple, x_isB_NoneType_tuple, x_isB_bool_tuple, x_isB_int_tuple, x_isB_str_tuple, x_isB_list_tuple, x_isB_tuple_tuple, x_isB_dict_tuple, x_cs_dict, x_isB_NoneType_dict, x_isB_bool_dict, x_isB_int_dict, x_isB_str_dict, x_isB_list_dict, x_isB_tuple_dict, x_isB_dict_dict, List.all_cons, List.all_nil, Bool.and_self, Bool.or_false, Bool.or_true, Bool.false_or, Bool.true_or, wipeD, setD, DL.isNon, List.set_cons_zero, List.set_cons_succ, List.getElem?_cons_zero, List.getElem?_cons_succ, List.length_cons, List.length_nil, Nat.zero_add, List.cons_append, List.nil_append, decide_true, decide_false, Bool.not_true, Bool.not_false, true_and, and_true, startD, List.map_cons, List.map_nil, Nat.reduceSub, Nat.reduceLeDiff, Nat.zero_le, Int.reduceLT, Int.reduceLE, and_self, Nat.reduceAdd, List.replicate])
theorem ok_row {f wa : Addr} {fd : FuncData} (F : Fun K "_law_row" "_law_row" s__law_row f fd) (T : Txt K mg wa) (G__law_next : DefD P w K mg base 2 "_law_next" ["_law_tap_here", "_law_size"] dDraw) (G__law_piece_text : DefD P w K mg base 1 "_law_piece_text" ["_law_piece_here"] dPieceText) :
    FnOk P w K mg base CX0 3 f fd ["_law_pieces", "_law_tap_here"] (lSp K dRow) := by
  refine dok F sc__law_row (fun ds S q qx ⟨ps, tp, h, _⟩ => by rw [h]; rfl) ⟨_, fun cdv A outer s H E hr => dss_cons (ds_set (i := 2) sc__law_row.nd rfl (Or.inl rfl) (de_str))
      (dss_cons (ds_for PassesOwn.never rfl (di_enum (K := K) (by rfl) T.enumerate (da_cons (de_var 0) da_nil)) (dg_tup (n := 2) rfl (dgs_cons (dg_name (i := 3) sc__law_row.nd rfl (Or.inl rfl)) (dgs_cons (dg_name (i := 4) sc__law_row.nd rfl (Or.inl rfl)) dgs_nil)))
        (dss_cons (ds_set (i := 5) sc__law_row.nd rfl (Or.inl rfl) (de_ix ix_seq (si_ix rfl) (de_lst (da_cons (de_int) (da_cons (de_int) (da_cons (de_int) (da_cons (de_int) (da_cons (de_int) (da_cons (de_int) da_nil))))))) (de_call G__law_next (hr.mono (by decide)) (by rfl) (da_cons (de_var 1) (da_cons (de_int) da_nil))) (fun _ _ => rfl)))
        (dss_cut (ds_if (dt_cmp op_gt si_gt (de_var 3) (de_int) (nomark _))
          (dss_cons (ds_set (i := 6) sc__law_row.nd rfl (Or.inl rfl) (de_ix ix_seq (si_ix rfl) (de_var 0) (de_op op_sub si_sub (de_var 3) (de_int)) (fun _ _ => rfl)))
          (dss_cons (ds_setLc (i := 7) (own := [("_law_one", 8)]) (gc_name (j := 8) (by decide)) rfl sc__law_row.nd rfl rfl (sw_true rfl rfl rfl (by decide +kernel)) (di_tup (K := K) (de_tup (da_cons (de_var 6) (da_cons (de_var 4) da_nil)))) (blkOk_by (N := N__law_row) (sc := defScope s__law_row) (by decide +kernel)) (fun _ _ _ _ _ => pg_name (i := 8) sc__law_row.nd rfl (Or.inl rfl)) (fun _ _ _ _ _ => dts_nil) (fun _ _ _ _ _ => de_cmp (opIn (K := K)) (si_in false) (de_ix ix_seq (si_ix rfl) (de_var 8) (de_int) (fun _ _ => rfl)) (de_tup (da_cons (de_str) (da_cons (de_str) (da_cons (de_str) da_nil)))) (by rfl)))
          (dss_cut (ds_if (PW.pt (dw_or (dt_cmp (op_eqM (K := K) hr.units) (si_eqM false) (de_var 7) (de_lst (da_cons (de_bl) (da_cons (de_bl) da_nil))) (nomark _)) (dw_or1 (PW.pt (dw_and (dt_cmp (op_eqM (K := K) hr.units) (si_eqM false) (de_var 6) (de_tup (da_cons (de_str) (da_cons (de_str) da_nil))) (nomark _)) (dw_and1 (dt_cmp (opIn (K := K)) (si_in false) (de_ix ix_seq (si_ix rfl) (de_var 4) (de_int) (fun _ _ => rfl)) (de_tup (da_cons (de_str) (da_cons (de_str) da_nil))) (by rfl))))))))
            (dss_one (ds_set (i := 5) sc__law_row.nd rfl (Or.inl rfl) (de_callB (call_max2 rfl) si_max2 (by rfl) T.max (by decide +kernel) (da_cons (de_int) (da_cons (de_var 5) da_nil)))))
            (dss_nil))
          (dss_one (ds_set (i := 2) sc__law_row.nd rfl (Or.inl rfl) (de_op op_add_str si_addS (de_var 2) (de_op op_mulS si_mulS (de_str) (de_var 5))))))))
          (dss_nil))
        (dss_one (ds_set (i := 2) sc__law_row.nd rfl (Or.inl rfl) (de_op op_add_str si_addS (de_var 2) (de_call G__law_piece_text (hr.mono (by decide)) (by rfl) (da_cons (de_var 4) da_nil))))))))
      (dss_one (ds_ret (de_op op_add_str si_addS (de_var 2) (de_op op_mulS si_mulS (de_str) (de_ix ix_seq (si_ix rfl) (de_lst (da_cons (de_int) (da_cons (de_int) (da_cons (de_int) (da_cons (de_int) da_nil))))) (de_call G__law_next (hr.mono (by decide)) (by rfl) (da_cons (de_var 1) (da_cons (de_int) da_nil))) (fun _ _ => rfl))))))), fun ds S q qx ⟨ps, tp, hd, hT, hne, hl, hok, h⟩ => ?_⟩
  subst hd
  walk_at "dl"
  refine forOf (RowI ps S tp) ⟨rfl, [], none, none, none, none, none, none, ⟨fun _ => rfl, Nat.zero_le _, fun z => absurd z (by decide)⟩, rfl⟩ ?_ ?_
  · rintro n d δ S' hn ⟨rfl, row, a, b, c, d', e, f', hM, rfl⟩
    have hn' : n < (ps.map Pc.d).length := by
      have := (List.getElem?_eq_some_iff.mp hn).1
      rwa [enumD_len] at this
    rw [List.length_map] at hn'
    have hx : ps[n]? = some ps[n] := List.getElem?_eq_getElem hn'
    rw [enumD_get (x := ps[n].d) (by rw [List.getElem?_map, hx]; rfl)] at hn
    cases hn
    generalize hxq : ps[n] = x at hx
    have hxok := hok x (List.mem_of_getElem? hx)
    walk_at "dl"
    refine drawOf hT (by decide) (by decide) fun r hr => ?_
    walk_at "dl"
    obtain ⟨bl, hb5, hbl⟩ : ∃ bl : Nat, bl ≤ 5 ∧ [D.int 0, .int 0, .int 1, .int 1, .int 2, .int 5][r]? = some (.int (bl : Int)) := by
      have : r = 0 ∨ r = 1 ∨ r = 2 ∨ r = 3 ∨ r = 4 ∨ r = 5 := by omega
      rcases this with rfl | rfl | rfl | rfl | rfl | rfl
      · exact ⟨0, by decide, rfl⟩
      · exact ⟨0, by decide, rfl⟩
      · exact ⟨1, by decide, rfl⟩
      · exact ⟨1, by decide, rfl⟩
      · exact ⟨2, by decide, rfl⟩
      · exact ⟨5, by decide, rfl⟩
    refine ixAt (.inl rfl) hbl ?_
    walk_at "dl"
    refine cutOf (RowM1 ps S' tp n x) ?_ ?_
    · walk_at "dl"
      refine br (fun h0 => ?_) fun h0 => ?_
      · have h0 : 0 < n := by have := of_decide_eq_true h0; omega
        obtain ⟨p, hp, _⟩ := hM.pos h0
        have hpok := hok p (List.mem_of_getElem? hp)
        walk_at "dl"
        rw [show (n : Int) - 1 = ((n - 1 : Nat) : Int) by omega]
        refine ixAt (d := p.d) (.inl rfl) (by rw [List.getElem?_map, hp]; rfl) ?_
        walk_at "dl"
        refine lcOf (fun i acc => acc = ([p, x].take i).map fun z => D.bl (isRunD z)) (by show 2 < 100000; decide) rfl (fun z hz i d acc hd hP => ?_) (fun acc hacc => ?_)
        · have hi : ∃ y, [p, x][i]? = some y ∧ d = y.d := by
            match i with
            | 0 => exact ⟨p, rfl, by cases hd; rfl⟩
            | 1 => exact ⟨x, rfl, by cases hd; rfl⟩
            | i + 2 => simp at hd
          obtain ⟨y, hy, rfl⟩ := hi
          subst hP
          unfold Pc.d
          walk_at "dl"
          refine LcO.of hz ?_
          rw [List.take_add_one, hy, List.map_append]
          congr 2
          unfold isRunD
          simp only [x_inSS, x_inN, Bool.or_false]
        · subst hacc
          walk_at "dl"
          refine cutOf (RowM2 ps S' tp n x p row) ?_ ?_
          · walk_at "dl"
            have both : ∀ z : Pc, D.bl (isRunD z) = .bl z.isRun := fun z => by rw [isRunD_eq]
            refine eqBOf (p := .list [.bl (isRunD p), .bl (isRunD x)]) (q := .list [.bl true, .bl true]) rfl rfl rfl rfl (Nat.le_trans (Nat.min_le_right _ _) (by decide)) ?_
            walk_at "dl"
            have up : RowM2 ps S' tp n x p row [some (D.list (List.map Pc.d ps)), some (D.ref tp), some (D.str (strOf row)), some (D.int n), some x.d, some (D.int (if (bl : Int) > 1 then (bl : Int) else 1)), some p.d, some (.list [.bl (isRunD p), .bl (isRunD x)]), f'] S' :=
              ⟨rfl, if bl > 1 then bl else 1, some p.d, some (.list [.bl (isRunD p), .bl (isRunD x)]), f', by split <;> omega, .inl (by split <;> omega), by
                rw [show (if (bl : Int) > 1 then (bl : Int) else 1) = ((if bl > 1 then bl else 1 : Nat) : Int) by split <;> split <;> omega]⟩
            have run : ¬ (p.isRun = true ∧ x.isRun = true) ↔ ¬ (D.list [.bl (isRunD p), .bl (isRunD x)] = .list [.bl true, .bl true]) := by
              rw [isRunD_eq, isRunD_eq]
              simp
            refine br (fun hb => ?_) fun hb => ?_
            · walk_at "dl"
              exact up
            · walk_at "dl"
              refine eqDOf (p := p.d) (q := .tup [.str "sign", .str "="]) rfl rfl (p.nb hpok) (by decide +kernel) (Nat.le_trans (Nat.min_le_right _ _) (by decide)) ?_
              walk_at "dl"
              refine br (fun hb2 => ?_) fun hb2 => ?_
              · have hps := eqSign (isT hb2)
                unfold Pc.d
                walk_at "dl"
                have hval : x.dval = .str "=" ∨ x.dval = .str "==" ∨ (¬ x.dval = .str "=" ∧ ¬ x.dval = .str "==") := by
                  by_cases h1 : x.dval = .str "="
                  · exact .inl h1
                  · by_cases h2 : x.dval = .str "=="
                    · exact .inr (.inl h2)
                    · exact .inr (.inr ⟨h1, h2⟩)
                have hfl : flatD x.dval = true := by cases x <;> rfl
                rw [x_inT hfl rfl]
                walk_at "dl"
                refine br (fun _ => ?_) fun hb3 => ?_
                · walk_at "dl"
                  exact up
                · walk_at "dl"
                  refine ⟨rfl, bl, some p.d, some (.list [.bl (isRunD p), .bl (isRunD x)]), f', hb5, .inr ⟨run.mpr (isF hb), fun ⟨_, hxs⟩ => ?_⟩, rfl⟩
                  rcases hxs with hxs | hxs
                  · rw [hxs] at hb3
                    revert hb3
                    decide +kernel
                  · rw [hxs] at hb3
                    revert hb3
                    decide +kernel
              · walk_at "dl"
                refine ⟨rfl, bl, some p.d, some (.list [.bl (isRunD p), .bl (isRunD x)]), f', hb5, .inr ⟨run.mpr (isF hb), fun ⟨hps, _⟩ => isF hb2 ?_⟩, rfl⟩
                rw [hps]
                rfl
          · rintro δ2 S2 ⟨rfl, b2, u1, u2, u3, hb2, hsep, rfl⟩
            walk_at "dl"
            refine needOf ⟨by decide, by omega, by omega⟩ ?_
            walk_at "dl"
            rw [blank_mul, strOf_app]
            have := hM.len
            refine fewOf (by rw [strOf_len, strOf_len, List.length_replicate]; omega) ?_
            walk_at "dl"
            exact ⟨rfl, row ++ List.replicate b2 32, _, _, _, _, hM.next h0 hp hx hxok hb2 hsep, by simp; omega, rfl⟩
      · have h0 : n = 0 := by have := of_decide_eq_false h0; omega
        subst h0
        walk_at "dl"
        exact ⟨rfl, row, _, _, _, _, hM.first hx hxok, by have := hM.len; omega, rfl⟩
    · rintro δ2 S2 ⟨rfl, row2, u1, u2, u3, u4, hm2, hl2, rfl⟩
      walk_at "dl"
      refine ⟨x, rfl, hxok, ?_⟩
      walk_at "dl"
      have hlen := x.txt_len hxok
      refine fewOf (by rw [strOf_len, len_cps]; show row2.length + x.txt.length ≤ 100000; omega) ?_
      walk_at "dl"
      exact ⟨rfl, row2 ++ x.txt, _, _, _, _, _, _, hm2, by rw [show (⟨x.txt.toArray⟩ : Str) = strOf x.txt from rfl, strOf_app]⟩
  · rintro δ S' ⟨rfl, row, a, b, c, d', e, f', hM, rfl⟩
    rw [enumD_len, List.length_map] at hM
    have h0 : 0 < ps.length := List.length_pos_iff.mpr hne
    obtain ⟨p, hp, ho, c0, r0, hr0, hc0⟩ := hM.pos h0
    have fin : ∀ b : Nat, b ≤ 2 → q (.str (strOf (row ++ List.replicate b 32))) S' := fun b hb => by
      refine h _ ?_ (by have := hM.len; simp; omega) (fun c hc => ?_)
      · have := ho [] (List.replicate b 32) ⟨fun _ c hc => ?_, fun _ hc => ?_⟩ (by simpa using Lay.blanks .done b)
        · rwa [List.take_length, List.append_nil] at this
        · cases b with
          | zero => simp at hc
          | succ b => rw [List.replicate_succ] at hc; cases hc; exact rc32
        · cases b with
          | zero => simp at hc
          | succ b => rw [List.replicate_succ] at hc; cases hc
      · rw [hr0] at hc
        cases hc
        exact hc0
    walk_at "dl"
    refine drawOf hT (by decide) (by decide) fun r hr => ?_
    walk_at "dl"
    obtain ⟨bl, hb2, hbl⟩ : ∃ bl : Nat, bl ≤ 2 ∧ [D.int 0, .int 0, .int 0, .int 2][r]? = some (.int (bl : Int)) := by
      have : r = 0 ∨ r = 1 ∨ r = 2 ∨ r = 3 := by omega
      rcases this with rfl | rfl | rfl | rfl
      · exact ⟨0, by decide, rfl⟩
      · exact ⟨0, by decide, rfl⟩
      · exact ⟨0, by decide, rfl⟩
      · exact ⟨2, by decide, rfl⟩
    refine ixAt (.inl rfl) hbl ?_
    walk_at "dl"
    refine needOf ⟨by decide, by omega, by omega⟩ ?_
    walk_at "dl"
    rw [blank_mul, strOf_app]
    have := hM.len
    refine fewOf (by rw [strOf_len, strOf_len, List.length_replicate]; omega) (fin bl hb2)
end
end K

set_option Elab.async false
set_option linter.all false
set_option maxRecDepth 100000
namespace DL
open PySem L2 Evl EX
/-- what is told reads as what is due -/
inductive SameR (S : Sto) : Nat → D → D → Prop
  | non {n : Nat} : SameR S n .non .non
  | str {n : Nat} (s : Str) : SameR S n (.str s) (.str s)
  | int {n : Nat} (i : Int) : SameR S n (.int i) (.int i)
  | list {n : Nat} {x : D} {ds es : List D} : (x = .list ds ∨ ∃ a, x = .ref a ∧ S a = some (.lst ds)) → ds.length = es.length → es.length ≤ 1000 → (∀ (i : Nat) (y z : D), ds[i]? = some y → es[i]? = some z → SameR S n y z) → SameR S (n + 1) x (.list es)
  | tup {n : Nat} {ds es : List D} : ds.length = es.length → es.length ≤ 1000 → (∀ (i : Nat) (y z : D), ds[i]? = some y → es[i]? = some z → SameR S n y z) → SameR S (n + 1) (.tup ds) (.tup es)
theorem SameR.mono {S S' : Sto} (h : ∀ a o, S a = some o → S' a = some o) {n : Nat} {x y : D} (r : SameR S n x y) : SameR S' n x y := by
  induction r with
  | non => exact .non
  | str s => exact .str s
  | int i => exact .int i
  | list hx hl hz _ ih => exact .list (hx.imp id fun ⟨a, e, q⟩ => ⟨a, e, h _ _ q⟩) hl hz ih
  | tup hl hz _ ih => exact .tup hl hz ih
def dSame (r : Nat) : SpD := fun ds S k _ => ∃ (x y : D) (n : Nat), ds = [x, y] ∧ n < r ∧ SameR S n x y ∧ k (.bl true) S
end DL

set_option Elab.async false
set_option linter.all false
set_option maxRecDepth 100000
namespace K
open PySem L2 Evl EX PC DL
section
variable {P : Program} {w : World} {K : PySem.W.Frag} {mg : Str → Option Value} {base : Heap}
local macro_rules | `(tactic| walk_at "dl") => `(tactic| try simp only [↓x_seq, ↓x_nx, ↓x_pass, ↓x_brk, ↓x_cnt, ↓x_drop, ↓x_ret, ↓x_retN, ↓x_ifS, ↓x_set, ↓x_asg, ↓x_gN, ↓x_gT, ↓x_gsC, ↓x_gsN, ↓x_var, x_rdv, ↓x_c, ↓x_op, ↓x_test, x_tst, ↓x_and, ↓x_or, ↓x_not, ↓x_andV, ↓x_orV, ↓x_notV, x_tstV, ↓x_ifE, x_true, x_false, ↓x_nil, ↓x_cons, ↓x_tup, ↓x_lst, ↓x_new, ↓x_newD, ↓x_call, ↓x_cb, x_oI, x_oIc, x_oS, x_addS, x_isN, x_notN, x_eqI, x_eqS, x_eqIS, x_eqSI, x_eqNS, x_neI, x_neS, x_neB, x_eqB, x_few, x_need, ↓x_ix, x_lenS, x_ixL0, x_ixT0, x_ixT1, x_ixT2, x_ixT3, x_ixT4, x_lenL, x_lenT, x_lenC, x_listL, x_listT, x_tupL, x_tupT, x_strI, x_strS, x_int1, x_intB, x_I1, x_I2, x_cat, x_catT, ↓x_split, ↓x_for, ↓x_cut, ↓x_lc, ↓x_whl, ↓x_diL, ↓x_diT, ↓x_diS, x_itL, x_itC, x_itT, x_itS, ↓x_diR1, ↓x_diR2, ↓x_diE, x_enmL, x_enmC, ↓x_gcN, ↓x_gcT, ↓x_yes, ↓x_ml, ↓x_ms, x_strq, x_ss, x_ssc, x_ssi, ↓x_join, ↓x_aug, x_st2I, ↓x_sl, ↓x_noP, ↓x_part, x_intq, x_slL, x_slC, x_slS, ↓x_in, x_inT, x_inL, x_ninT, x_ninL, x_inN, x_inSS, x_inSI, x_inIS, x_inII, ↓x_sg, x_sgS, x_nsgS, ↓x_eqD, ↓x_inDD, x_mulS, ↓x_isi, x_isiS, x_isiI, x_isiB, x_isiN, x_isiL, x_isiT, ↓x_isTT, x_itI, x_itStr, x_itN, x_itB, x_itLst, x_itTup, ↓x_any, ↓x_all, ↓x_sum, ↓x_srtI, ↓x_srtS, ↓x_intS, ↓x_lenRf, ↓x_tupRf, ↓x_frz', x_flS, x_flI, x_flN, x_flB, x_cs_bool, x_isB_NoneType_bool, x_isB_bool_bool, x_isB_int_bool, x_isB_str_bool, x_isB_list_bool, x_isB_tuple_bool, x_isB_dict_bool, x_cs_int, x_isB_NoneType_int, x_isB_bool_int, x_isB_int_int, x_isB_str_int, x_isB_list_int, x_isB_tuple_int, x_isB_dict_int, x_cs_str, x_isB_NoneType_str, x_isB_bool_str, x_isB_int_str, x_isB_str_str, x_isB_list_str, x_isB_tuple_str, x_isB_dict_str, x_cs_list, x_isB_NoneType_list, x_isB_bool_list, x_isB_int_list, x_isB_str_list, x_isB_list_list, x_isB_tuple_list, x_isB_dict_list, x_cs_tuple, x_isB_NoneType_tuple, x_isB_bool_tuple, x_isB_int_tuple, x_isB_str_tuple, x_isB_list_tuple, x_isB_tuple_tuple, x_isB_dict_tuple, x_cs_dict, x_isB_NoneType_dict, x_isB_bool_dict, x_isB_int_dict, x_isB_str_dict, x_isB_list_dict, x_isB_tuple_dict, x_isB_dict_dict, List.all_cons, List.all_nil, Bool.and_self, Bool.or_false, Bool.or_true, Bool.false_or, Bool.true_or, wipeD, setD, DL.isNon, List.set_cons_zero, List.set_cons_succ, List.getElem?_cons_zero, List.getElem?_cons_succ, List.length_cons, List.length_nil, Nat.zero_add, List.cons_append, List.nil_append, decide_true, decide_false, Bool.not_true, Bool.not_false, true_and, and_true, startD, List.map_cons, List.map_nil, Nat.reduceSub, Nat.reduceLeDiff, Nat.zero_le, Int.reduceLT, Int.reduceLE, and_self, Nat.reduceAdd, List.replicate])
theorem same_all {r m : Nat} {S : Sto} {q : DK} {x y : D} {ds es : List D} (hx : SeqD S x ds) (hy : SeqD S y es) (hl : ds.length = es.length) (hz : es.length ≤ 1000) (hi : ∀ (i : Nat) (y z : D), ds[i]? = some y → es[i]? = some z → SameR S m y z) (hm : m < r) (h : q (.bl true) S) :
    lcC (rngD 0 (es.length : Int).toNat) (gcN 2) dYes (dCall (dSame r) (dCons (dOp oIx (dVar 0) (dVar 2)) (dCons (dOp oIx (dVar 1) (dVar 2)) dNil))) [2] [some x, some y, none] S (fun x S1 => stC oAll [x] S1 q ⟨⟩) ⟨⟩ := by
  have mon : ∀ {S' : Sto} {x : D} {ds : List D}, (∀ a o, S a = some o → S' a = some o) → SeqD S x ds → SeqD S' x ds := fun {S' x ds} hS h => by
    cases x with
    | ref a => exact hS a _ h
    | _ => exact h
  refine lcOf (fun i acc => acc = List.replicate i (D.bl true)) (by rw [rngD_len]; omega) rfl (fun p hp i d acc hd hP => ?_) (fun acc hacc => ?_)
  · obtain ⟨rfl, hlt⟩ := rngD_get hd
    have hlt' : i < es.length := by omega
    have hS : ∀ a o, S a = some o → put S p (.lst acc) a = some o := fun a o ha => by rw [put_ne (sto_ne ha hp)]; exact ha
    rw [Int.zero_add]
    walk_at "dl"
    refine ixSeq (mon hS hx) (List.getElem?_eq_getElem (by omega)) ?_
    walk_at "dl"
    refine ixSeq (mon hS hy) (List.getElem?_eq_getElem hlt') ?_
    walk_at "dl"
    refine ⟨_, _, m, rfl, hm, (hi i _ _ (List.getElem?_eq_getElem (by omega)) (List.getElem?_eq_getElem hlt')).mono hS, LcO.of hp ?_⟩
    rw [hP, ← List.replicate_succ']
    rfl
  · rw [hacc, rngD_len]
    refine ⟨List.replicate (es.length : Int).toNat true, by rw [List.map_replicate], ?_⟩
    rw [show ((List.replicate (es.length : Int).toNat true).all id) = true by simp]
    exact h
theorem ok_same {f wa : Addr} {fd : FuncData} (F : Fun K "_law_same" "_law_same" s__law_same f fd) (T : Txt K mg wa) (hm : mg "_law_same" = some (.ref f)) (hk : PySem.W.keepIn K (.ref f) = true) (hb : Binds K fd ["_law_found", "_law_due"] []) :
    ∀ r, FnOk P w K mg base CX0 (r + 1) f fd ["_law_found", "_law_due"] (lSp K (dSame r)) := by
  intro r
  induction r with
  | zero =>
    refine F.ok sc__law_same (fun vs H Q E ⟨B, ds, S, k, kx, rd, rr, ⟨x, y, n, _, hn, _⟩, _⟩ => absurd hn (Nat.not_lt_zero _)) (fun cdv A outer s H vs Q E hr ⟨B, ds, S, k, kx, rd, rr, ⟨x, y, n, _, hn, _⟩, _⟩ => absurd hn (Nat.not_lt_zero _))
  | succ r ih =>
    have G__law_same : DefD P w K mg base (r + 1) "_law_same" ["_law_found", "_law_due"] (dSame r) := ⟨f, fd, ih, hm, hk, hb⟩
    refine dok F sc__law_same (fun ds S q qx ⟨x, y, n, h, _⟩ => by rw [h]; rfl) ⟨_, fun cdv A outer s H E hr => dss_cons (ds_if (dt_cmp op_isN si_isN (de_var 1) (de_non) (nomark _))
        (dss_one (ds_ret (de_cmp op_isN si_isN (de_var 0) (de_non) (nomark _))))
        (dss_nil))
      (dss_cons (ds_if (dt_val (de_callB (clIsi' (K := K)) si_isi (by rfl) T.isinstance (by decide +kernel) (da_cons (de_var 1) (da_cons (de_blt (n := "str") (by rfl) T.str (by decide +kernel)) da_nil))))
        (dss_one (ds_ret (de_and (de_callB (clIsi' (K := K)) si_isi (by rfl) T.isinstance (by decide +kernel) (da_cons (de_var 0) (da_cons (de_blt (n := "str") (by rfl) T.str (by decide +kernel)) da_nil))) (de_one (de_cmp op_eq si_eq (de_var 0) (de_var 1) (nomark _))))))
        (dss_nil))
      (dss_cons (ds_if (dt_val (de_isiT (de_var 1) (pe_bltn (v := .ty "list") (by rfl) T.list (by decide +kernel) rfl) (pe_bltn (v := .ty "tuple") (by rfl) T.tuple (by decide +kernel) rfl) (by rfl) T.isinstance))
        (dss_cons (ds_if (PW.pt (dw_or (dt_cmp op_ne si_ne (de_callB (clIsi' (K := K)) si_isi (by rfl) T.isinstance (by decide +kernel) (da_cons (de_var 1) (da_cons (de_blt (n := "list") (by rfl) T.list (by decide +kernel)) da_nil))) (de_callB (clIsi' (K := K)) si_isi (by rfl) T.isinstance (by decide +kernel) (da_cons (de_var 0) (da_cons (de_blt (n := "list") (by rfl) T.list (by decide +kernel)) da_nil))) (nomark _)) (dw_or1 (dt_cmp op_ne si_ne (de_callB (clIsi' (K := K)) si_isi (by rfl) T.isinstance (by decide +kernel) (da_cons (de_var 1) (da_cons (de_blt (n := "tuple") (by rfl) T.tuple (by decide +kernel)) da_nil))) (de_callB (clIsi' (K := K)) si_isi (by rfl) T.isinstance (by decide +kernel) (da_cons (de_var 0) (da_cons (de_blt (n := "tuple") (by rfl) T.tuple (by decide +kernel)) da_nil))) (nomark _)))))
          (dss_one (ds_ret (de_bl)))
          (dss_nil))
        (dss_one (ds_ret (de_and (de_cmp op_eq si_eq (de_callB call_len (si_len rfl) (by rfl) T.len (by decide +kernel) (da_cons (de_var 0) da_nil)) (de_callB call_len (si_len rfl) (by rfl) T.len (by decide +kernel) (da_cons (de_var 1) da_nil)) (nomark _)) (de_one (de_callB (crAll (K := K)) si_all (by rfl) T.all (by decide +kernel) (da_cons (de_lc (own := [("_law_k", 2)]) (gc_name (j := 2) (by decide)) rfl sc__law_same.nd (di_range1 (by rfl) T.range (da_cons (de_callB call_len (si_len rfl) (by rfl) T.len (by decide +kernel) (da_cons (de_var 1) da_nil)) da_nil)) (blkOk_by (N := N__law_same) (sc := defScope s__law_same) (by decide +kernel)) (fun _ _ _ _ _ => pg_name (i := 2) sc__law_same.nd rfl (Or.inl rfl)) (fun _ _ _ _ _ => dts_nil) (fun _ _ _ _ _ => de_call G__law_same (hr.mono (by omega)) (by rfl) (da_cons (de_ix ix_seq (si_ix rfl) (de_var 0) (de_var 2) (fun _ _ => rfl)) (da_cons (de_ix ix_seq (si_ix rfl) (de_var 1) (de_var 2) (fun _ _ => rfl)) da_nil)))) da_nil)))))))
        (dss_nil))
      (dss_one (ds_ret (de_and (de_callB (clIsi' (K := K)) si_isi (by rfl) T.isinstance (by decide +kernel) (da_cons (de_var 0) (da_cons (de_blt (n := "int") (by rfl) T.int (by decide +kernel)) da_nil))) (de_and (de_not (de_callB (clIsi' (K := K)) si_isi (by rfl) T.isinstance (by decide +kernel) (da_cons (de_var 0) (da_cons (de_blt (n := "bool") (by rfl) T.bool (by decide +kernel)) da_nil)))) (de_one (de_cmp op_eq si_eq (de_var 0) (de_var 1) (nomark _))))))))), fun ds S q qx ⟨x, y, n, hd, hn, hs, h⟩ => ?_⟩
    subst hd
    walk_at "dl"
    cases hs with
    | non =>
      walk_at "dl"
      exact h
    | str s =>
      walk_at "dl"
      exact h
    | int i =>
      walk_at "dl"
      exact h
    | @list m x ds es hx hl hz hi =>
      have fin : ∀ x, SeqD S x ds → lcC (rngD 0 (es.length : Int).toNat) (gcN 2) dYes (dCall (dSame r) (dCons (dOp oIx (dVar 0) (dVar 2)) (dCons (dOp oIx (dVar 1) (dVar 2)) dNil))) [2] [some x, some (.list es), none] S (fun x S1 => stC oAll [x] S1 q ⟨⟩) ⟨⟩ := fun x hs => same_all hs rfl hl hz hi (by omega) h
      rcases hx with rfl | ⟨a, rfl, ha⟩
      · walk_at "dl"
        rw [hl]
        walk_at "dl"
        refine rngOf (by omega) (by omega) (fin _ rfl)
      · walk_at "dl"
        rw [x_isiR ha (by decide)]
        walk_at "dl"
        rw [x_isiR ha (by decide)]
        walk_at "dl"
        refine lenRf ha ?_
        rw [hl]
        walk_at "dl"
        refine rngOf (by omega) (by omega) (fin _ ha)
    | @tup m ds es hl hz hi =>
      walk_at "dl"
      rw [hl]
      walk_at "dl"
      exact rngOf (by omega) (by omega) (same_all rfl rfl hl hz hi (by omega) h)
end
end K

set_option Elab.async false
set_option linter.all false
set_option maxRecDepth 100000
namespace K
open PySem L2 Evl EX PC DL
def tokStrs : List Str → List Value → Bool
  | [], [] => true
  | x :: xs, .str y _ :: vs => (x == y) && tokStrs xs vs
  | _, _ => false
theorem vals_toks : ∀ {xs : List Str} {vs : List Value}, tokStrs xs vs = true → Vals (xs.map V.str) vs
  | [], [], _ => .nil
  | x :: xs, .str y t :: vs, h => by
    rw [tokStrs, Bool.and_eq_true, beq_iff_eq] at h
    rw [h.1]
    exact .cons ⟨t, rfl⟩ (vals_toks h.2)
theorem sqT_toks {K : PySem.W.Frag} {H : Hp} {a : Addr} {xs : List Str} {wd : Option Addr} {its : Array Value} {n : Nat} {wsl : Array (Option Value)} (h : K.lookup a = some ⟨.type "tuple", wd, .seq its n, wsl⟩) (hv : (tokStrs xs its.toList && decide (its.size ≤ 1000)) = true) : SqT K H a (xs.map V.str) := by
  rw [Bool.and_eq_true] at hv
  exact .inr ⟨_, its, n, h, rfl, rfl, sz_of (by have := of_decide_eq_true hv.2; omega), vals_toks hv.1⟩
theorem def_imp {P : Program} {w : World} {K : PySem.W.Frag} {mg : Str → Option Value} {base : Heap} {k : Nat} {x : Str} {ps : List Str} {sp sp' : Sp} (h : Def P w K mg base k x ps sp) (i : ∀ f fd, FnOk P w K mg base CX0 k f fd ps sp → FnOk P w K mg base CX0 k f fd ps sp') : Def P w K mg base k x ps sp' := by
  obtain ⟨f, fd, F, a, b, c⟩ := h.ex
  exact ⟨f, fd, i f fd F, a, b, c⟩
section
variable {P : Program} {w : World} {K : PySem.W.Frag} {mg : Str → Option Value} {base : Heap} {k : Nat} {f : Addr} {fd : FuncData} {ps : List Str}
/-! ### what was shown of the heap, told over data -/
theorem tap_of (F : FnOk P w K mg base CX0 k f fd ps spTap) : FnOk P w K mg base CX0 k f fd ps (lSp K dTap) := F.imp fun vs H Q E ⟨B, ds, S, q, qx, rd, r, ⟨c, hds, h⟩, hq, _⟩ => by
  subst hds
  obtain ⟨v, rfl, rv⟩ := rdl1 rd
  cases rd_int rv
  refine ⟨c, rfl, fun p H' hp e t => hq _ (put S p .tap) _ B H' (h p (r.fresh hp).2) (Ex.refl B) ⟨r.ex.trans e, fun a o ha => ?_⟩ (.ref p)⟩
  by_cases z : a = p
  · subst z
    rw [put_same] at ha
    cases ha
    obtain ⟨x, y, u, v, h3⟩ := t
    exact ⟨(r.fresh hp).1, _, h3, .tap x y u v⟩
  · rw [put_ne z] at ha
    obtain ⟨n, ho, h1, h2⟩ := r.own a o ha
    exact ⟨n, ho, e _ _ h1, h2⟩
theorem nameD_of (F : FnOk P w K mg base CX0 k f fd ps spName) : FnOk P w K mg base CX0 k f fd ps (lSp K (dVal fun v => ∃ s, v = .str s ∧ (Pc.name s).ok)) := F.imp fun vs H Q E ⟨B, ds, S, q, qx, rd, r, ⟨tp, hds, ht, h⟩, hq, _⟩ => by
  subst hds
  obtain ⟨v, rfl, rv⟩ := rdl1 rd
  cases rd_ref rv
  exact ⟨tp, rfl, r.tap ht, fun s H' hs e t => hq _ S _ B H' (h _ ⟨s, rfl, hs⟩) (Ex.refl B) (r.drawn ht e t) (.str s)⟩
theorem wtext_of (F : FnOk P w K mg base CX0 k f fd ps spWordsText) : FnOk P w K mg base CX0 k f fd ps (lSp K (dVal fun v => ∃ s, v = .str s ∧ (Pc.text s).ok)) := F.imp fun vs H Q E ⟨B, ds, S, q, qx, rd, r, ⟨tp, hds, ht, h⟩, hq, _⟩ => by
  subst hds
  obtain ⟨v, rfl, rv⟩ := rdl1 rd
  cases rd_ref rv
  exact ⟨tp, rfl, r.tap ht, fun s H' hs e t => hq _ S _ B H' (h _ ⟨s, rfl, hs⟩) (Ex.refl B) (r.drawn ht e t) (.str s)⟩
theorem number_of (F : FnOk P w K mg base CX0 k f fd ps spNumber) : FnOk P w K mg base CX0 k f fd ps (lSp K (dVal fun v => ∃ n : Nat, v = .int n ∧ n < 10 ^ 9)) := F.imp fun vs H Q E ⟨B, ds, S, q, qx, rd, r, ⟨tp, hds, ht, h⟩, hq, _⟩ => by
  subst hds
  obtain ⟨v, rfl, rv⟩ := rdl1 rd
  cases rd_ref rv
  exact ⟨tp, rfl, r.tap ht, fun n H' hs e t => hq _ S _ B H' (h _ ⟨n, rfl, hs⟩) (Ex.refl B) (r.drawn ht e t) (.int _)⟩
theorem kept_of (F : FnOk P w K mg base CX0 k f fd ps spKept) : FnOk P w K mg base CX0 k f fd ps (lSp K dKept) := F.imp fun vs H Q E ⟨B, ds, S, q, qx, rd, r, ⟨hds, h⟩, hq, _⟩ => by
  subst hds
  cases rd
  refine ⟨rfl, fun p H' hp e at' => ?_⟩
  obtain ⟨B', e', r', hB⟩ := r.grow e
  exact hq _ S _ B' H' h e' r' (.lst (hB p _ at' (r.fresh hp).2) (rdl_strs _))
theorem rd_val {B : Hp} (p : Pc) : RdD K B p.val p.dval := by cases p <;> first | exact .str _ | exact .int _
theorem rd_pc {B : Hp} {p : Pc} {a : Addr} (h : SqT K B a [.str p.kind, p.val]) : RdD K B (.ref a) p.d := .tup h (.cons (.str _) (.cons (rd_val p) .nil))
theorem ptext_of (F : FnOk P w K mg base CX0 k f fd ps (spPieceText K)) : FnOk P w K mg base CX0 k f fd ps (lSp K dPieceText) := F.imp fun vs H Q E ⟨B, ds, S, q, qx, rd, r, ⟨p, hds, hok, h⟩, hq, _⟩ => by
  subst hds
  obtain ⟨v, rfl, rv⟩ := rdl1 rd
  obtain ⟨a, xs, rfl, ha, rl⟩ := rd_tup rv
  have e : xs = [.str p.kind, p.val] := by
    cases rl with
    | cons h1 r2 =>
      obtain ⟨v2, rfl, h2⟩ := rdl1 r2
      rw [rd_str h1]
      congr 1
      cases p <;> first | (cases rd_str h2; rfl) | (cases rd_int h2; rfl)
  subst e
  refine ⟨a, p, rfl, ex_t r.ex ha, hok, fun H2 e2 => ?_⟩
  obtain ⟨B', e', r', hB⟩ := r.grow e2
  exact hq _ S _ B' H2 h e' r' (.str _)
def dPiecesOf : SpD := fun ds S k _ => ∃ (row : Str) (b : Nat) (l : List Nat) (ps : List Pc), ds = [.str row] ∧ row.length ≤ 5000 ∧ row.cps.toList = List.replicate b 32 ++ l ∧ (∀ c, l.head? = some c → c ≠ 32) ∧ Lay ps l ∧ ps ≠ [] ∧
  ∀ pl, S pl = none → k (.tup [.int (b : Int), .ref pl]) (put S pl (.lst (ps.map Pc.d)))
theorem pieces_of' (F : FnOk P w K mg base CX0 k f fd ps spPiecesOf) : FnOk P w K mg base CX0 k f fd ps (lSp K dPiecesOf) := F.imp fun vs H Q E ⟨B, ds, S, q, qx, rd, r, ⟨row, b, l, ps, hds, hz, hrow, hhd, hlay, hne, h⟩, hq, _⟩ => by
  subst hds
  obtain ⟨v, rfl, rv⟩ := rdl1 rd
  cases rd_str rv
  refine ⟨row, b, l, ps, rfl, hz, hrow, hhd, hlay, hne, fun u pl qs H' hpl e hu hl ht => ?_⟩
  have fr := r.fresh hpl
  -- all but what changes stands fast
  let B' : Hp := fun a => if a = pl ∨ (S a).isSome = true then none else H' a
  have hB : ∀ a o, H' a = some o → a ≠ pl → S a = none → B' a = some o := fun a o ho n1 n2 => by
    show (if a = pl ∨ (S a).isSome = true then none else H' a) = some o
    rw [if_neg (by rw [n2]; simp [n1])]
    exact ho
  have eB : Ex B B' := fun a o ho => hB a o (e _ _ (r.ex _ _ ho)) (fun z => by rw [z, fr.1] at ho; cases ho) (by
    cases q : S a with
    | none => rfl
    | some u => rw [(r.own a u q).1] at ho; cases ho)
  have hpl' : B' pl = none := by
    show (if pl = pl ∨ (S pl).isSome = true then none else H' pl) = none
    rw [if_pos (.inl rfl)]
  have exB : Ex B' H' := fun a o ho => by
    have ho' : (if a = pl ∨ (S a).isSome = true then none else H' a) = some o := ho
    split at ho'
    · cases ho'
    · exact ho'
  have nS : ∀ a xs, H' a = some (.tup xs) → S a = none := fun a xs ha => by
    cases q : S a with
    | none => rfl
    | some u =>
      obtain ⟨_, ho, h1, h2⟩ := r.own a u q
      rw [e _ _ h1] at ha
      cases ha
      cases h2
  have ne : ∀ a xs, H' a = some (.tup xs) → a ≠ pl := fun a xs ha z => by rw [z, hl] at ha; cases ha
  have rl : RdL K B' (qs.map V.ref) (ps.map Pc.d) := by
    obtain ⟨hlen, hat⟩ := ht
    have : ∀ (n : Nat) (qs : List Addr) (ps : List Pc), qs.length = ps.length → (∀ (n : Nat) q p, qs[n]? = some q → ps[n]? = some p → H' q = some (.tup [.str p.kind, p.val])) → RdL K B' (qs.map V.ref) (ps.map Pc.d) := fun _ qs => by
      induction qs with
      | nil => intro ps hl _; cases ps with | nil => exact .nil | cons _ _ => simp at hl
      | cons q qs ih =>
        intro ps hl hat
        cases ps with
        | nil => simp at hl
        | cons p ps =>
          have h0 := hat 0 q p rfl rfl
          exact .cons (rd_pc (st_of (hB _ _ h0 (ne _ _ h0) (nS _ _ h0)))) (ih ps (by simpa using hl) fun n q p h1 h2 => hat (n + 1) q p (by simpa using h1) (by simpa using h2))
    exact this 0 qs ps hlen hat
  refine hq _ (put S pl (.lst (ps.map Pc.d))) _ B' H' (h pl fr.2) eB ⟨exB, fun a o ha => ?_⟩ (.tup (st_of (hB _ _ hu (ne _ _ hu) (nS _ _ hu))) (.cons (.int _) (.cons (.ref pl) .nil)))
  by_cases z : a = pl
  · subst z
    rw [put_same] at ha
    cases ha
    exact ⟨hpl', _, hl, .lst rl⟩
  · rw [put_ne z] at ha
    obtain ⟨n, ho, h1, h2⟩ := r.own a o ha
    refine ⟨?_, ho, e _ _ h1, h2.mono eB⟩
    show (if a = pl ∨ (S a).isSome = true then none else H' a) = none
    rw [if_pos (.inr (by rw [ha]; rfl))]
/-! ### the law -/
def spLaw (K : PySem.W.Frag) : Sp := fun vs H Q _ => ∃ (a : Addr) (ns : List Int), vs = [.ref a] ∧ SqL K H a (ns.map V.int) ∧ ns.length ≤ 63 ∧ ∀ H', Q (.bl true) H'
def dLaw : SpD := fun ds S k _ => ∃ ns : List Int, ds = [.scr (ns.map D.int)] ∧ ns.length ≤ 63 ∧ ∀ S', k (.bl true) S'
theorem law_of (F : FnOk P w K mg base CX0 k f fd ps (lSp K dLaw)) : FnOk P w K mg base CX0 k f fd ps (spLaw K) := F.imp fun vs H Q E ⟨a, ns, hv, hs, hl, h⟩ =>
  ⟨H, [.scr (ns.map D.int)], fun _ => none, fun x _ => x = .bl true, fun _ _ _ => False, by rw [hv]; exact .one (.scr hs (rdl_ints ns)), ⟨Ex.refl H, fun _ _ z => nomatch z⟩, ⟨ns, rfl, hl, fun _ => rfl⟩, fun x S' v B' H' hx _ _ rv => by
    subst hx
    cases rd_bl rv
    exact h H', fun _ _ _ _ _ z => z.elim⟩
end
end K

set_option Elab.async false
set_option linter.all false
set_option maxRecDepth 100000
/-! ### == beside an instance of a class without an __eq__ of its own -/
namespace OE
open PySem PySem.Spec PyProof.Rows PySem.SeqAt
open AutoSeq1 (wpAny_loadPart')
theorem int_bool (b : Bool) (l C dx : Addr) : Meets (Builtin.«int.__eq__» ⟨[.bool b, .ref l], []⟩) (fun _ R s => s.heap.get? l = some (PySem.W.instObj C dx) ∧ R (.ok (.ret .notImplemented)) s) :=
  .of_wp fun prog w A R s h => by obtain ⟨hp, g, d, tk, os⟩ := s; obtain ⟨hl, h⟩ := h; unfold PySem.W.instObj at hl; wp_walk using wpAny_loadPart' hl, wpAny_load hl; exact ⟨_, rfl, h⟩
theorem str_str (b : Str) (u : Tok) (l C dx : Addr) : Meets (Builtin.«str.__eq__» ⟨[.str b u, .ref l], []⟩) (fun _ R s => s.heap.get? l = some (PySem.W.instObj C dx) ∧ R (.ok (.ret .notImplemented)) s) :=
  .of_wp fun prog w A R s h => by obtain ⟨hp, g, d, tk, os⟩ := s; obtain ⟨hl, h⟩ := h; unfold PySem.W.instObj at hl; wp_walk using wpAny_loadPart' hl, wpAny_load hl; exact ⟨_, rfl, h⟩
section
variable {prog : Program} {w : World} {M : Model} {A : Around} {E : Value → Shared → Prop} {s : Shared} {K : PySem.W.Frag} {x y C D dx : Addr} {ox oy : Obj} {od oe : Option Obj} {u : Value} {T : String}
theorem entryU {Q : Fin → Shared → Prop} (hu : isSame (.ref x) u = pure false) (hq : Q (.done (.ret .notImplemented)) s) : wpAny M A (Builtin.«object.__eq__» ⟨[.ref x, u], []⟩) Q E s := by
  unfold Builtin.«object.__eq__»
  repeat (first | with_reducible refine wpAny_of_eq hu ?_ | wp_step)
  exact hq
theorem callU {Q : Value → Shared → Prop} (X : K.In s.heap) (I : PySem.W.InstAt s.heap x ox C od) (hm : PySem.W.mroIn K C (.type "object") = some true) (hu : isSame (.ref x) u = pure false) (hq : Q .notImplemented s) :
    wpAny (model prog w) A (call (.builtin "object.__eq__") [.ref x, u]) Q E s :=
  wpAny_call (codeAny_call_builtin F.cmp_object.eq.plain F.cmpEntry_eq (PySem.W.check_slot F.cmpKind_eq F.cmpSplit_eq (I.type.andThen (PySem.W.looks_mroIn X hm)) (F.cmpArgs_eq _ _) (entryU hu hq)))
theorem tryXU {Q : Option Value → Shared → Prop} (X : K.In s.heap) (I : PySem.W.InstAt s.heap x ox C od) (hm : PySem.W.mroIn K C (.type "object") = some true) (hs : PySem.W.findIn K (.ref C) "__eq__" = some (some (.builtin "object.__eq__"))) (hu : isSame (.ref x) u = pure false) (q : Q none s) :
    wpAny (model prog w) A (tryCompare (.ref x) "__eq__" u) Q E s := by
  unfold tryCompare
  exact wpAny_bind (HN.ifBound_objEq X I hs (callU X I hm hu (wpAny_pure q)))
theorem rcXU (hA : A.units < cLine) (X : K.In s.heap) (I : PySem.W.InstAt s.heap x ox C od) (hm : PySem.W.mroIn K C (.type "object") = some true) (hs : PySem.W.findIn K (.ref C) "__eq__" = some (some (.builtin "object.__eq__")))
    (hT : s.TypeIs u T) (hsub : PySem.W.subIn K (.type T) (.ref C) = some false) (hu : isSame (.ref x) u = pure false)
    (two : ∀ (prog : Program) (w : World) (E : Value → Shared → Prop), wpAny (model prog w) A (tryCompare u "__eq__" (.ref x)) (fun r s' => r = none ∧ s' = s) E s) : RcAt A s (.ref x) u false := fun prog w E Q h => by
  simp only [richCompare, cmpInfo_Eq, oneThing_ref]
  refine wpAny_holding (wpAny_bind (wpAny_cRoomFor hA ?_))
  refine wpAny_bind (I.type.here ?_)
  refine wpAny_bind (wpAny_typeOf hT ?_)
  split
  · refine wpAny_bind ((PySem.W.looks_subIn X hsub).here ?_)
    simp only [Bool.false_eq_true, if_false, Bool.not_false, if_true]
    refine wpAny_bind (m := tryCompare (.ref x) _ u) (tryXU X I hm hs hu ?_)
    refine wpAny_bind (m := tryCompare u _ (.ref x)) (wpAny_mono (two prog w _) (fun r s2 z => ?_) fun _ _ e => e)
    obtain ⟨z1, z2⟩ := z
    subst z1
    subst z2
    exact wpAny_bind (wpAny_rule (wpAny_bind (wpAny_of_eq hu (wpAny_pure h))))
  · rename_i q
    exact absurd (by simp) q
theorem rcUX (hA : A.units < cLine) (X : K.In s.heap) (I : PySem.W.InstAt s.heap x ox C od) (hm : PySem.W.mroIn K C (.type "object") = some true) (hs : PySem.W.findIn K (.ref C) "__eq__" = some (some (.builtin "object.__eq__")))
    (hT : s.TypeIs u T) (hsub : PySem.W.subIn K (.ref C) (.type T) = some false) (hu : isSame (.ref x) u = pure false) (hu' : isSame u (.ref x) = pure false)
    (two : ∀ (prog : Program) (w : World) (E : Value → Shared → Prop), wpAny (model prog w) A (tryCompare u "__eq__" (.ref x)) (fun r s' => r = none ∧ s' = s) E s) : RcAt A s u (.ref x) false := fun prog w E Q h => by
  simp only [richCompare, cmpInfo_Eq, hT.oneThing_none]
  try with_reducible refine wpAny_holding ?_
  refine wpAny_bind (wpAny_cRoomFor hA ?_)
  refine wpAny_bind (wpAny_typeOf hT ?_)
  refine wpAny_bind (I.type.here ?_)
  split
  · refine wpAny_bind ((PySem.W.looks_subIn X hsub).here ?_)
    simp only [Bool.false_eq_true, if_false, Bool.not_false, if_true]
    refine wpAny_bind (m := tryCompare u _ (.ref x)) (wpAny_mono (two prog w _) (fun r s2 z => ?_) fun _ _ e => e)
    obtain ⟨z1, z2⟩ := z
    subst z1
    subst z2
    refine wpAny_bind (m := tryCompare (.ref x) _ u) (tryXU X I hm hs hu ?_)
    exact wpAny_bind (wpAny_rule (wpAny_bind (wpAny_of_eq hu' (wpAny_pure h))))
  · rename_i q
    exact absurd (by simp) q
theorem two_none (x : Addr) (prog : Program) (w : World) (E : Value → Shared → Prop) : wpAny (model prog w) A (tryCompare .none "__eq__" (.ref x)) (fun r s' => r = none ∧ s' = s) E s :=
  wpAny_tryCompare_declines (show s.TypeIs .none "NoneType" from rfl) F.slot_NoneType_eq_refl (call_gives F.slot_NoneType_eq_refl rfl F.entry_NoneType_eq (F.args_NoneType_eq_2 _ _) (NoneType___eq___none_ref_0 x) ⟨rfl, rfl, rfl⟩)
theorem two_bool (b : Bool) (hx : s.heap.get? x = some (PySem.W.instObj C dx)) (prog : Program) (w : World) (E : Value → Shared → Prop) : wpAny (model prog w) A (tryCompare (.bool b) "__eq__" (.ref x)) (fun r s' => r = none ∧ s' = s) E s :=
  wpAny_tryCompare_declines (show s.TypeIs (.bool b) "bool" from rfl) F.slot_bool_eq_refl (call_meets F.slot_bool_eq_refl rfl F.entry_int_eq (F.args_int_eq_2 _ _) (int_bool b x C dx) ⟨hx, rfl, rfl, rfl⟩)
theorem two_str (b : Str) (t : Tok) (hx : s.heap.get? x = some (PySem.W.instObj C dx)) (prog : Program) (w : World) (E : Value → Shared → Prop) : wpAny (model prog w) A (tryCompare (.str b t) "__eq__" (.ref x)) (fun r s' => r = none ∧ s' = s) E s :=
  wpAny_tryCompare_declines (typeIs_str s b t) F.slot_str_eq_refl (call_meets F.slot_str_eq_refl (typeIs_str s b t) F.entry_str_eq (F.args_str_eq_2 _ _) (str_str b t x C dx) ⟨hx, rfl, rfl, rfl⟩)
/-! two instances of one class -/
theorem entryS {Q : Fin → Shared → Prop} (hq : Q (.done (.ret (.bool true))) s) : wpAny M A (Builtin.«object.__eq__» ⟨[.ref x, .ref x], []⟩) Q E s := objEq_entry_same hq
theorem callS {Q : Value → Shared → Prop} (X : K.In s.heap) (I : PySem.W.InstAt s.heap x ox C od) (hm : PySem.W.mroIn K C (.type "object") = some true) (hq : Q (.bool true) s) :
    wpAny (model prog w) A (call (.builtin "object.__eq__") [.ref x, .ref x]) Q E s :=
  wpAny_call (codeAny_call_builtin F.cmp_object.eq.plain F.cmpEntry_eq (PySem.W.check_slot F.cmpKind_eq F.cmpSplit_eq (I.type.andThen (PySem.W.looks_mroIn X hm)) (F.cmpArgs_eq _ _) (entryS hq)))
theorem callO {Q : Value → Shared → Prop} (X : K.In s.heap) (I : PySem.W.InstAt s.heap x ox C od) (J : PySem.W.InstAt s.heap y oy D oe) (hn : x ≠ y) (hm : PySem.W.mroIn K C (.type "object") = some true) (hq : Q .notImplemented s) :
    wpAny (model prog w) A (call (.builtin "object.__eq__") [.ref x, .ref y]) Q E s :=
  wpAny_call (codeAny_call_builtin F.cmp_object.eq.plain F.cmpEntry_eq (PySem.W.check_slot F.cmpKind_eq F.cmpSplit_eq (I.type.andThen (PySem.W.looks_mroIn X hm)) (F.cmpArgs_eq _ _) (objEq_entry_other hn I.at_ J.at_ (by rw [I.cls]; intro e; cases e) hq)))
theorem rcS (hA : A.units < cLine) (X : K.In s.heap) (I : PySem.W.InstAt s.heap x ox C od) (hm : PySem.W.mroIn K C (.type "object") = some true) (hs : PySem.W.findIn K (.ref C) "__eq__" = some (some (.builtin "object.__eq__"))) : RcAt A s (.ref x) (.ref x) true := fun prog w E Q h => by
  simp only [richCompare, cmpInfo_Eq, oneThing_ref]
  refine wpAny_holding (wpAny_bind (wpAny_cRoomFor hA ?_))
  refine wpAny_bind (I.type.here ?_)
  refine wpAny_bind (I.type.here ?_)
  rw [if_neg (by simp)]
  refine wpAny_bind (wpAny_pure ?_)
  simp only [Bool.false_eq_true, if_false, Bool.not_false, if_true]
  refine wpAny_bind (m := tryCompare (.ref x) _ (.ref x)) ?_
  unfold tryCompare
  exact wpAny_bind (HN.ifBound_objEq X I hs (callS X I hm (wpAny_pure (wpAny_pure h))))
theorem rcO (hA : A.units < cLine) (X : K.In s.heap) (I : PySem.W.InstAt s.heap x ox C od) (J : PySem.W.InstAt s.heap y oy C oe) (hn : x ≠ y) (hm : PySem.W.mroIn K C (.type "object") = some true) (hs : PySem.W.findIn K (.ref C) "__eq__" = some (some (.builtin "object.__eq__"))) : RcAt A s (.ref x) (.ref y) false := fun prog w E Q h => by
  simp only [richCompare, cmpInfo_Eq, oneThing_ref]
  refine wpAny_holding (wpAny_bind (wpAny_cRoomFor hA ?_))
  refine wpAny_bind (I.type.here ?_)
  refine wpAny_bind (J.type.here ?_)
  rw [if_neg (by simp)]
  refine wpAny_bind (wpAny_pure ?_)
  simp only [Bool.false_eq_true, if_false, Bool.not_false, if_true]
  refine wpAny_bind (m := tryCompare (.ref x) _ (.ref y)) ?_
  unfold tryCompare
  refine wpAny_bind (HN.ifBound_objEq X I hs (callO X I J hn hm (wpAny_pure ?_)))
  refine wpAny_bind (wpAny_bind (HN.ifBound_objEq X J hs (callO X J I hn.symm hm (wpAny_pure ?_))))
  exact wpAny_bind (wpAny_rule (wpAny_bind (wpAny_isSame_ref_other hn I.at_ J.at_ (by rw [I.cls]; intro e; cases e) (wpAny_pure h))))
theorem rcXN (hA : A.units < cLine) (X : K.In s.heap) (I : PySem.W.InstAt s.heap x (PySem.W.instObj C dx) C od) (hm : PySem.W.mroIn K C (.type "object") = some true) (hs : PySem.W.findIn K (.ref C) "__eq__" = some (some (.builtin "object.__eq__"))) (hsub : PySem.W.subIn K (.type "NoneType") (.ref C) = some false) : RcAt A s (.ref x) .none false := rcXU hA X I hm hs (show s.TypeIs .none "NoneType" from rfl) hsub rfl (two_none x)
theorem rcNX (hA : A.units < cLine) (X : K.In s.heap) (I : PySem.W.InstAt s.heap x (PySem.W.instObj C dx) C od) (hm : PySem.W.mroIn K C (.type "object") = some true) (hs : PySem.W.findIn K (.ref C) "__eq__" = some (some (.builtin "object.__eq__"))) (hsub : PySem.W.subIn K (.ref C) (.type "NoneType") = some false) : RcAt A s .none (.ref x) false := rcUX hA X I hm hs (show s.TypeIs .none "NoneType" from rfl) hsub rfl rfl (two_none x)
theorem rcXB (b : Bool) (hA : A.units < cLine) (X : K.In s.heap) (I : PySem.W.InstAt s.heap x (PySem.W.instObj C dx) C od) (hm : PySem.W.mroIn K C (.type "object") = some true) (hs : PySem.W.findIn K (.ref C) "__eq__" = some (some (.builtin "object.__eq__"))) (hsub : PySem.W.subIn K (.type "bool") (.ref C) = some false) : RcAt A s (.ref x) (.bool b) false := rcXU hA X I hm hs (show s.TypeIs (.bool b) "bool" from rfl) hsub rfl (two_bool b I.at_)
theorem rcBX (b : Bool) (hA : A.units < cLine) (X : K.In s.heap) (I : PySem.W.InstAt s.heap x (PySem.W.instObj C dx) C od) (hm : PySem.W.mroIn K C (.type "object") = some true) (hs : PySem.W.findIn K (.ref C) "__eq__" = some (some (.builtin "object.__eq__"))) (hsub : PySem.W.subIn K (.ref C) (.type "bool") = some false) : RcAt A s (.bool b) (.ref x) false := rcUX hA X I hm hs (show s.TypeIs (.bool b) "bool" from rfl) hsub rfl rfl (two_bool b I.at_)
theorem rcXS (b : Str) (t : Tok) (hA : A.units < cLine) (X : K.In s.heap) (I : PySem.W.InstAt s.heap x (PySem.W.instObj C dx) C od) (hm : PySem.W.mroIn K C (.type "object") = some true) (hs : PySem.W.findIn K (.ref C) "__eq__" = some (some (.builtin "object.__eq__"))) (hsub : PySem.W.subIn K (.type "str") (.ref C) = some false) : RcAt A s (.ref x) (.str b t) false := rcXU hA X I hm hs (typeIs_str s b t) hsub rfl (two_str b t I.at_)
theorem rcSX (b : Str) (t : Tok) (hA : A.units < cLine) (X : K.In s.heap) (I : PySem.W.InstAt s.heap x (PySem.W.instObj C dx) C od) (hm : PySem.W.mroIn K C (.type "object") = some true) (hs : PySem.W.findIn K (.ref C) "__eq__" = some (some (.builtin "object.__eq__"))) (hsub : PySem.W.subIn K (.ref C) (.type "str") = some false) : RcAt A s (.str b t) (.ref x) false := rcUX hA X I hm hs (typeIs_str s b t) hsub rfl rfl (two_str b t I.at_)
end
end OE

set_option Elab.async false
set_option linter.all false
set_option maxRecDepth 100000
/-! ### == beside instances; in lists of mixed data; is False; a list put together that changes -/
namespace DL
open PySem L2 Evl EX
/-! data of any kinds -/
mutual
def D.any : D → Bool
  | .non => true
  | .int _ => true
  | .bl _ => true
  | .str x => PyData.strOk x
  | .list ds => anyL ds
  | .tup ds => anyL ds
  | _ => false
def anyL : List D → Bool
  | [] => true
  | d :: ds => d.any && anyL ds
end
mutual
theorem pyA_lay : ∀ d : D, d.any = true → d.py.canLay0 = true
  | .non, _ => rfl
  | .int _, _ => rfl
  | .str x, h => by simpa [D.any, D.py, PyData.canLay0] using h
  | .list ds, h => by
    rw [D.any] at h
    rw [D.py, PyData.canLay0]
    exact pyLA_lay ds h
  | .tup ds, h => by
    rw [D.any] at h
    rw [D.py, PyData.canLay0]
    exact pyLA_lay ds h
  | .bl _, h => rfl
  | .ref _, h => by cases h
  | .ty _, h => by cases h
  | .scr _, h => by simp [D.any] at h
theorem pyLA_lay : ∀ ds : List D, anyL ds = true → PyData.canLayAll0 (pyL ds) = true
  | [], _ => rfl
  | d :: ds, h => by
    rw [anyL, Bool.and_eq_true] at h
    rw [pyL, PyData.canLayAll0, pyA_lay d h.1, pyLA_lay ds h.2]
    rfl
end
mutual
theorem pyA_deep : ∀ d : D, d.any = true → d.py.depth = d.deep
  | .non, _ => rfl
  | .int _, _ => rfl
  | .str x, h => rfl
  | .list ds, h => by
    rw [D.any] at h
    rw [D.py, PyData.depth, D.deep, pyLA_deep ds h]
  | .tup ds, h => by
    rw [D.any] at h
    rw [D.py, PyData.depth, D.deep, pyLA_deep ds h]
  | .bl _, h => rfl
  | .ref _, h => by cases h
  | .ty _, h => by cases h
  | .scr _, h => by simp [D.any] at h
theorem pyLA_deep : ∀ ds : List D, anyL ds = true → PyData.depthAll (pyL ds) = deepL ds
  | [], _ => rfl
  | d :: ds, h => by
    rw [anyL, Bool.and_eq_true] at h
    rw [pyL, PyData.depthAll, deepL, pyA_deep d h.1, pyLA_deep ds h.2]
end
section
variable {K : PySem.W.Frag} {B H : Hp}
mutual
theorem dpA_of (e : Ex B H) : ∀ {v : V} {d : D}, RdD K B v d → d.any = true → Dp K H v d.py
  | _, _, .non, _ => .non
  | _, _, .int i, _ => .int i
  | _, _, .str x, _ => .str x
  | _, _, .lst ha r, h => by
    rw [D.any] at h
    rw [D.py]
    exact .lst (sq_of (e _ _ ha)) (dpLA_of e r h)
  | _, _, .tup ha r, h => by
    rw [D.any] at h
    rw [D.py]
    exact .tup (ex_t e ha) (dpLA_of e r h)
  | _, _, .bl b, h => .bl b
  | _, _, .ref _, h => by cases h
  | _, _, .ty _, h => by cases h
  | _, _, .scr _ _, h => by simp [D.any] at h
theorem dpLA_of (e : Ex B H) : ∀ {vs : List V} {ds : List D}, RdL K B vs ds → anyL ds = true → DpAll K H vs (pyL ds)
  | _, _, .nil, _ => .nil
  | _, _, .cons h r, hn => by
    rw [anyL, Bool.and_eq_true] at hn
    rw [pyL]
    exact .cons (dpA_of e h hn.1) (dpLA_of e r hn.2)
end
end
def oNinA : DR2 := fun x y S k => ∃ ds, y = .list ds ∧ x.any = true ∧ anyL ds = true ∧ x.deep ≤ 64 ∧ deepL ds ≤ 60 ∧ k (.bl (!(pyL ds).any fun z => PyData.eqv z x.py)) S
section
variable {K : PySem.W.Frag}
theorem si_ninA : Sim2 K (rNotInD K) oNinA := fun B S H v w x y k Q r rx ry h1 q => by
  obtain ⟨ds, rfl, hx, hds, h64, h60, h1⟩ := h1
  have hl : (D.list ds).any = true := by rw [D.any]; exact hds
  have dl := dpA_of r.ex ry hl
  rw [D.py] at dl
  refine ⟨_, _, dpA_of r.ex rx hx, dl, ?_, ?_, ?_⟩
  · unfold SeqAt.shaped
    rw [pyA_lay _ hx, pyA_deep _ hx, decide_eq_true h64]
    rfl
  · unfold SeqAt.shaped
    have := pyA_lay _ hl
    have h2 := pyA_deep _ hl
    rw [D.py] at this h2
    rw [this, h2, D.deep, decide_eq_true (by omega)]
    rfl
  · exact q _ S _ B H h1 (Ex.refl B) r (.bl _)
/-- x + y, lists, as a list that changes -/
def oCatN : DR2 := fun x y S k => match x, y with
  | .list a, .list b => a.length + b.length ≤ 100000 ∧ ∀ p, S p = none → k (.ref p) (put S p (.lst (a ++ b)))
  | _, _ => False
theorem si_catN : Sim2 K rCat oCatN := fun B S H v w x y k Q r rx ry h1 q => by
  unfold oCatN at h1
  split at h1
  · obtain ⟨p, xs, rfl, hp, rl⟩ := rd_list rx
    obtain ⟨p2, ys, rfl, hp2, rl2⟩ := rd_list ry
    refine ⟨p, p2, xs, ys, rfl, rfl, r.ex _ _ hp, r.ex _ _ hp2, sz_of (by rw [rl.length, rl2.length]; exact h1.1), fun z hz => ?_⟩
    exact q _ _ _ B _ (h1.2 z (r.fresh hz).2) (Ex.refl B) (r.newS hz (.lst (rl.append rl2))) (.ref z)
  · exact h1.elim
/-! x is False -/
def rIsBl : R2 := fun x y H Q => ∃ b, y = .bl b ∧ ((∃ c, x = .bl c ∧ Q (.bl (decide (c = b))) H) ∨ ((x = .non ∨ (∃ i, x = .int i) ∨ (∃ s, x = .str s) ∨ ∃ a, x = .ref a) ∧ Q (.bl false) H))
theorem op_isBl' {X : Cx} : OpR X (compareOp .Is) rIsBl := by
  intro pins s σ H x y v u Q I rx ry h
  obtain ⟨b, rfl, h⟩ := h
  rcases h with ⟨c, rfl, q⟩ | ⟨h, q⟩
  · cases rx
    cases ry
    by_cases e : c = b
    · subst e
      exact wpAny_is_self rfl ⟨.bl true, H, I, rfl, by simpa using q⟩
    · exact wpAny_is_other rfl (fun z => e (Value.bool.inj z)) ⟨.bl false, H, I, rfl, by simpa [e] using q⟩
  · cases ry
    rcases h with rfl | ⟨i, rfl⟩ | ⟨z, rfl⟩ | ⟨a, rfl⟩
    · cases rx; exact wpAny_is_other rfl (fun z => nomatch z) ⟨.bl false, H, I, rfl, q⟩
    · obtain ⟨t, rfl⟩ := rx; exact wpAny_is_other rfl (fun z => nomatch z) ⟨.bl false, H, I, rfl, q⟩
    · obtain ⟨t, rfl⟩ := rx; exact wpAny_is_other rfl (fun z => nomatch z) ⟨.bl false, H, I, rfl, q⟩
    · cases rx; exact wpAny_is_other rfl (fun z => nomatch z) ⟨.bl false, H, I, rfl, q⟩
def oIsBl : DR2 := fun x y S k => match y with
  | .bl b => match x with
    | .bl c => k (.bl (decide (c = b))) S
    | .non => k (.bl false) S
    | .int _ => k (.bl false) S
    | .str _ => k (.bl false) S
    | .ref _ => k (.bl false) S
    | _ => False
  | _ => False
theorem si_isBl : Sim2 K rIsBl oIsBl := fun B S H v w x y k Q r rx ry h1 q => by
  unfold oIsBl at h1
  split at h1
  · rename_i b
    have hw : w = .bl b := by cases ry; rfl
    refine ⟨b, hw, ?_⟩
    split at h1
    · rename_i c
      have hv : v = .bl c := by cases rx; rfl
      exact .inl ⟨c, hv, q _ S _ B H h1 (Ex.refl B) r (.bl _)⟩
    · exact .inr ⟨.inl (rd_non rx), q _ S _ B H h1 (Ex.refl B) r (.bl _)⟩
    · exact .inr ⟨.inr (.inl ⟨_, rd_int rx⟩), q _ S _ B H h1 (Ex.refl B) r (.bl _)⟩
    · exact .inr ⟨.inr (.inr (.inl ⟨_, rd_str rx⟩)), q _ S _ B H h1 (Ex.refl B) r (.bl _)⟩
    · exact .inr ⟨.inr (.inr (.inr ⟨_, rd_ref rx⟩)), q _ S _ B H h1 (Ex.refl B) r (.bl _)⟩
    · exact h1.elim
  · exact h1.elim
end
/-! == beside instances of one class -/
structure EqC (K : PySem.W.Frag) (C : Addr) : Prop where
  hm : PySem.W.mroIn K C (.type "object") = some true
  hs : PySem.W.findIn K (.ref C) "__eq__" = some (some (.builtin "object.__eq__"))
  s1 : PySem.W.subIn K (.type "NoneType") (.ref C) = some false
  s2 : PySem.W.subIn K (.type "bool") (.ref C) = some false
  s3 : PySem.W.subIn K (.type "str") (.ref C) = some false
  s4 : PySem.W.subIn K (.ref C) (.type "NoneType") = some false
  s5 : PySem.W.subIn K (.ref C) (.type "bool") = some false
  s6 : PySem.W.subIn K (.ref C) (.type "str") = some false
inductive Fl3 : V → Prop where
  | non : Fl3 .non
  | bl (b : Bool) : Fl3 (.bl b)
  | str (s : Str) : Fl3 (.str s)
def rEqO (C : Addr) : R2 := fun x y H Q => rEq x y H Q ∨ (∃ a dx fs, x = .ref a ∧ H a = some (.ins C dx fs) ∧ Fl3 y ∧ Q (.bl false) H) ∨ (∃ a dx fs, y = .ref a ∧ H a = some (.ins C dx fs) ∧ Fl3 x ∧ Q (.bl false) H) ∨
  ∃ a dx fs b dy gs, x = .ref a ∧ y = .ref b ∧ H a = some (.ins C dx fs) ∧ H b = some (.ins C dy gs) ∧ Q (.bl (decide (a = b))) H
theorem op_eqO {K : PySem.W.Frag} {X : Cx} {C : Addr} (hC : EqC K C) (hu : X.A.units + 1 < cLine) (hk : X.K = K := by rfl) : OpR X (compareOp .Eq) (rEqO C) := by
  subst hk
  intro pins s σ H x y v u Q I rx ry h
  have hA : X.A.units < cLine := by omega
  rcases h with h | ⟨a, dx, fs, rfl, ha, hy, q⟩ | ⟨a, dx, fs, rfl, ha, hx, q⟩ | ⟨a, dx, fs, b, dy, gs, rfl, rfl, ha, hb, q⟩
  · exact op_eq pins s σ H x y v u Q I rx ry h
  · cases rx
    obtain ⟨mA, O, _⟩ := ins_get I.hok ha
    obtain ⟨od, J, _⟩ := O.look
    cases hy with
    | non => cases ry; exact OE.rcXN hA I.kIn J hC.hm hC.hs hC.s1 _ _ _ _ (fin_bl I q rfl)
    | bl b => cases ry; exact OE.rcXB b hA I.kIn J hC.hm hC.hs hC.s2 _ _ _ _ (fin_bl I q rfl)
    | str z => obtain ⟨t, rfl⟩ := ry; exact OE.rcXS z t hA I.kIn J hC.hm hC.hs hC.s3 _ _ _ _ (fin_bl I q rfl)
  · cases ry
    obtain ⟨mA, O, _⟩ := ins_get I.hok ha
    obtain ⟨od, J, _⟩ := O.look
    cases hx with
    | non => cases rx; exact OE.rcNX hA I.kIn J hC.hm hC.hs hC.s4 _ _ _ _ (fin_bl I q rfl)
    | bl b => cases rx; exact OE.rcBX b hA I.kIn J hC.hm hC.hs hC.s5 _ _ _ _ (fin_bl I q rfl)
    | str z => obtain ⟨t, rfl⟩ := rx; exact OE.rcSX z t hA I.kIn J hC.hm hC.hs hC.s6 _ _ _ _ (fin_bl I q rfl)
  · cases rx
    cases ry
    obtain ⟨mA, O, _⟩ := ins_get I.hok ha
    obtain ⟨od, J, _⟩ := O.look
    obtain ⟨mB, O2, _⟩ := ins_get I.hok hb
    obtain ⟨oe, J2, _⟩ := O2.look
    by_cases e : a = b
    · subst e
      exact OE.rcS hA I.kIn J hC.hm hC.hs _ _ _ _ (fin_bl I q (by simp))
    · exact OE.rcO hA I.kIn J J2 e hC.hm hC.hs _ _ _ _ (fin_bl I q (by simp [e]))
inductive EqA (C : Addr) (S : Sto) : D → D → Bool → Prop where
  | flat {x y : D} {b : Bool} (h : sEq x y = some b) : EqA C S x y b
  | rn {a dx : Addr} {fs : List (Str × D)} (h : S a = some (.ins C dx fs)) : EqA C S (.ref a) .non false
  | rb {a dx : Addr} {fs : List (Str × D)} (h : S a = some (.ins C dx fs)) (b : Bool) : EqA C S (.ref a) (.bl b) false
  | rs {a dx : Addr} {fs : List (Str × D)} (h : S a = some (.ins C dx fs)) (s : Str) : EqA C S (.ref a) (.str s) false
  | nr {a dx : Addr} {fs : List (Str × D)} (h : S a = some (.ins C dx fs)) : EqA C S .non (.ref a) false
  | br {a dx : Addr} {fs : List (Str × D)} (h : S a = some (.ins C dx fs)) (b : Bool) : EqA C S (.bl b) (.ref a) false
  | sr {a dx : Addr} {fs : List (Str × D)} (h : S a = some (.ins C dx fs)) (s : Str) : EqA C S (.str s) (.ref a) false
  | rr {a dx b dy : Addr} {fs gs : List (Str × D)} (h : S a = some (.ins C dx fs)) (h2 : S b = some (.ins C dy gs)) : EqA C S (.ref a) (.ref b) (decide (a = b))
def oEqO (C : Addr) : DR2 := fun x y S k => ∃ b, EqA C S x y b ∧ k (.bl b) S
theorem si_eqO {K : PySem.W.Frag} {C : Addr} : Sim2 K (rEqO C) (oEqO C) := fun B S H v w x y k Q r rx ry h1 q => by
  obtain ⟨b, hb, h1⟩ := h1
  have ans := q _ S (.bl b) B H h1 (Ex.refl B) r (.bl b)
  cases hb with
  | flat h =>
    obtain ⟨h2, h3⟩ := sEq_ok h rx ry
    exact .inl ⟨h2, by rw [h3]; exact ans⟩
  | rn h =>
    obtain ⟨gs, hg, _⟩ := r.ins h
    cases rd_ref rx
    cases rd_non ry
    exact .inr (.inl ⟨_, _, _, rfl, hg, .non, ans⟩)
  | rb h c =>
    obtain ⟨gs, hg, _⟩ := r.ins h
    cases rd_ref rx
    have hw : w = .bl c := by cases ry; rfl
    subst hw
    exact .inr (.inl ⟨_, _, _, rfl, hg, .bl c, ans⟩)
  | rs h c =>
    obtain ⟨gs, hg, _⟩ := r.ins h
    cases rd_ref rx
    cases rd_str ry
    exact .inr (.inl ⟨_, _, _, rfl, hg, .str c, ans⟩)
  | nr h =>
    obtain ⟨gs, hg, _⟩ := r.ins h
    cases rd_ref ry
    cases rd_non rx
    exact .inr (.inr (.inl ⟨_, _, _, rfl, hg, .non, ans⟩))
  | br h c =>
    obtain ⟨gs, hg, _⟩ := r.ins h
    cases rd_ref ry
    have hv : v = .bl c := by cases rx; rfl
    subst hv
    exact .inr (.inr (.inl ⟨_, _, _, rfl, hg, .bl c, ans⟩))
  | sr h c =>
    obtain ⟨gs, hg, _⟩ := r.ins h
    cases rd_ref ry
    cases rd_str rx
    exact .inr (.inr (.inl ⟨_, _, _, rfl, hg, .str c, ans⟩))
  | rr h h2 =>
    obtain ⟨gs, hg, _⟩ := r.ins h
    obtain ⟨gs2, hg2, _⟩ := r.ins h2
    cases rd_ref rx
    cases rd_ref ry
    exact .inr (.inr (.inr ⟨_, _, _, _, _, _, rfl, rfl, hg, hg2, ans⟩))
section
variable {S : Sto} {k : DK} {C : Addr} {x y : D} {b c : Bool} {s : Str} {i : Int} {a : Addr}
theorem x_eqO : oEqO C x y S k = st2 (oEqO C) x y S k ⟨⟩ := propext Iff.rfl
theorem eqOOf (h : EqA C S x y b) (q : k (.bl b) S) : st2 (oEqO C) x y S k ⟨⟩ := ⟨b, h, q⟩
theorem x_ninA : oNinA x y S k = st2 oNinA x y S k ⟨⟩ := propext Iff.rfl
theorem ninAOf {ds : List D} (hx : x.any = true) (hd : anyL ds = true) (h64 : x.deep ≤ 64) (h60 : deepL ds ≤ 60) (q : k (.bl (!(pyL ds).any fun z => PyData.eqv z x.py)) S) : st2 oNinA x (.list ds) S k ⟨⟩ := ⟨ds, rfl, hx, hd, h64, h60, q⟩
theorem x_catN {l m : List D} : oCatN (.list l) (.list m) S k = few (l.length + m.length) (fresh S (fun p => k (.ref p) (put S p (.lst (l ++ m)))) ⟨⟩) ⟨⟩ := propext Iff.rfl
theorem x_isBB : oIsBl (.bl c) (.bl b) S k = k (.bl (decide (c = b))) S := propext Iff.rfl
theorem x_isBN : oIsBl .non (.bl b) S k = k (.bl false) S := propext Iff.rfl
theorem x_isBI : oIsBl (.int i) (.bl b) S k = k (.bl false) S := propext Iff.rfl
theorem x_isBS : oIsBl (.str s) (.bl b) S k = k (.bl false) S := propext Iff.rfl
theorem x_isBR : oIsBl (.ref a) (.bl b) S k = k (.bl false) S := propext Iff.rfl
end
end DL

set_option Elab.async false
set_option linter.all false
set_option maxRecDepth 100000
/-! ### sorted(dict), its keys numbers, any number of them -/
namespace SD
open PySem PySem.Spec PyProof.Rows L2
/-- what is collected of a dict of numbers -/
theorem ints_got {vs : List (Key × Value)} {ks : List Int} {acc : Array Value} (hkeys : vs.map (·.1) = ks.map Sum.inl) (hal : acc.toList.length = ks.length) (hacc : ∀ (j : Nat) (v : Value), acc[j]? = some v → ∃ (k : Key) (x : Value), vs[j]? = some (k, x) ∧ keyIs k v = true) : IntsAre acc.toList ks := ints_each hal fun j v e => by
  obtain ⟨k, x, e1, e2⟩ := hacc j v (by rw [← Array.getElem?_toList]; exact e)
  have e3 : (ks.map Sum.inl)[j]? = some k := by rw [← hkeys, List.getElem?_map, e1]; rfl
  rw [List.getElem?_map] at e3
  obtain ⟨y, e4, e5⟩ := Option.map_eq_some_iff.mp e3
  subst e5
  rcases keyIs_shape e2 with ⟨i, t, ek, ev⟩ | ⟨z, t, ek, ev⟩
  · cases ek
    exact ⟨y, t, e4, ev⟩
  · cases ek
variable {X : Cx}
def rSortDL : List V → Hp → VK → Prop := fun xs H Q => ∃ (a : Addr) (kvs : List (Key × V)) (ks : List Int), xs = [.ref a] ∧ Rd H a (.dK kvs) ∧ kvs.map (·.1) = ks.map Sum.inl ∧ ks.length ≤ 100000 ∧
    ∀ (ys : List Int) (p : Addr), ys.Perm ks → ys.Pairwise (· ≤ ·) → H p = none → Q (.ref p) (upd H p (.lst (ys.map V.int)))
theorem call_sortedDL (hcalm : X.calm = true) : CallR X (.builtin "sorted") rSortDL := by
  intro pins s σ H xs us Q I r ⟨a, kvs, ks, ex, hd, hks, hz, q⟩
  subst ex
  obtain ⟨u, eu, rx⟩ := vals1 r
  subst eu
  cases rx
  obtain ⟨z, lo, vs, rel, dd⟩ := dk_rd I.hok hd
  obtain ⟨ep, hat⟩ := dd.dictAt
  have hkeys : vs.map (·.1) = ks.map Sum.inl := rel.keys.symm.trans hks
  have hl : vs.length = ks.length := by simpa using congrArg List.length hkeys
  have hsz : ks.length ≤ sizeLine := by rw [sizeLine_eq]; omega
  refine Calls.call_function_entry kind_sorted plain_sorted entry_sorted (args_sorted1 _) ?_
  unfold Builtin.«sorted»
  refine wpAny_bind (m := checkCount "sorted" 1 1 _) (wpAny_pure ?_)
  refine wpAny_bind (PySem.W.kdu_collect (A := X.A.in1) (PySem.W.kdl_dict (knd := mixKind X.prog X.w) (kvs := vs) (ep := ep) lo) (I.ok.hd hcalm) hat (by rw [hl]; exact hsz) fun h' tk acc hk hacc => ?_)
  have hal : acc.toList.length = ks.length := by rw [Array.length_toList, hacc.1, hl]
  have hS : IntsAre acc.toList ks := ints_got hkeys hal hacc.2
  have I1 : Inv X pins σ H { s with heap := h', toks := tk } := I.kept hk
  refine wpAny_bind (wpAny_newList ?_ (by rw [hal]; exact hsz))
  have hoL : (h'.push (seqObj "list" acc.toList.toArray 0)).get? h'.objs.size = some (seqObj "list" acc.toList.toArray 0) := Heap.get?_push_size _ rfl
  show wpAny _ _ _ _ _ { s with heap := h'.push (seqObj "list" acc.toList.toArray 0), toks := tk }
  refine wpAny_bind (wpAny_holding (wpAny_call_entry slot_list_sort ⟨_, hoL, rfl⟩ entry_list_sort
    (SrtO.list_sort_ord (s := { s with heap := h'.push (seqObj "list" acc.toList.toArray 0), toks := tk }) SrtO.swo_int hoL (by rw [hal]; exact hsz) (fun h2 => SrtO.ints_sortable hS h2) fun out g1 g2 => ⟨_, rfl, ?_⟩) (args_list_sort _)))
  obtain ⟨k1, k2, k3⟩ := SrtO.ints_out hS g1 g2
  obtain ⟨e', he'⟩ := sortedHeap_at (vs := acc.toList) (out := out.toArray) hoL
  have hlen : ((out.map SrtO.iv).map V.int).length ≤ sizeLine := by
    rw [List.length_map, k2.length_eq]
    exact hsz
  refine wpAny_pure ⟨_, rfl, .ref h'.objs.size, upd H h'.objs.size (.lst ((out.map SrtO.iv).map V.int)), I1.laid (t' := tk) (fun b u e => ?_) (Nat.le_refl _)
    (show ObjOk X.prog X.w _ _ _ (.lst ((out.map SrtO.iv).map V.int)) from ⟨hlen, out, e', vals_of_ints k1, he'⟩), rfl, q _ _ k2 k3 (I1.hok.fresh (Nat.le_refl _))⟩
  have hb : b < h'.objs.size := Heap.lt_size e
  rw [sortedHeap_old (Nat.ne_of_lt hb) (by rw [size_push']; exact Nat.lt_succ_of_lt hb)]
  exact Heap.get?_push_of_some _ e
end SD
namespace DL
open PySem L2 Evl EX
section
variable {K : PySem.W.Frag}
def oSortDL : List D → Sto → DK → Prop := fun xs S k => match xs with
  | [.ref a] => ∃ (kvs : List (Key × D)) (ks : List Int), S a = some (.dct kvs) ∧ kvs.map (·.1) = ks.map Sum.inl ∧ ks.length ≤ 100000 ∧ ∀ ys : List Int, ys.Perm ks → ys.Pairwise (· ≤ ·) → k (.list (ys.map D.int)) S
  | _ => False
theorem si_sortDL : SimC K SD.rSortDL oSortDL := fun B S H vs xs k Q r rx h1 q => by
  unfold oSortDL at h1
  split at h1
  · obtain ⟨v, rfl, rv⟩ := rdl1 rx
    cases rd_ref rv
    obtain ⟨kvs, ks, hs, hk, hl, h1⟩ := h1
    obtain ⟨gs, hg, rg⟩ := r.dct hs
    refine ⟨_, gs, ks, rfl, .inl hg, by rw [rdkv_keys rg]; exact hk, hl, fun ys p pm pw hp => ?_⟩
    have n := r.new (o := .lst (ys.map V.int)) hp
    exact q _ S _ _ _ (h1 ys pm pw) n.2 n.1 (.lst upd_same (rdl_ints _))
  · exact h1.elim
end
theorem x_sortDL {S : Sto} {k : DK} {xs : List D} : oSortDL xs S k = stC oSortDL xs S k ⟨⟩ := propext Iff.rfl
end DL

set_option Elab.async false
set_option linter.all false
set_option maxRecDepth 100000
/-! ### xs[i] = v for a list that changes; comprehensions that change the store -/
namespace DL
open PySem L2 Evl EX
def setq (o i v : D) (S : Sto) (k : Sto → Prop) (_ : Tag k) : Prop := ∃ p ds n j, o = .ref p ∧ i = .int n ∧ S p = some (.lst ds) ∧ ixN ds.length n = some j ∧ k (put S p (.lst (ds.set j v)))
def gSubD (dO dI : DE) : DG := fun x δ S k => dO δ S fun o S1 => dI δ S1 fun i S2 => setq o i x S2 (fun S3 => k δ S3) ⟨⟩
section
variable {X : Cx} {K : PySem.W.Frag} {o i : Expr} {dO dI : DE} {pos : Pos}
theorem dg_sub (ho : PE X o (lE K dO)) (hi : PE X i (lE K dI))
    (ha : ∀ v, assign (.Subscript o i pos) X.env v = (do
      let ov ← holding [v] (eval o X.env)
      let iv ← holding [v, ov] (eval i X.env)
      standAt pos
      holding [v, ov, iv] (setItem ov iv v)
      release [v, ov, iv] []) := by intro _; rfl) : PG X (.Subscript o i pos) (lG K (gSubD dO dI)) :=
  pgOf (pg_sub ho hi set_list ha) fun v σ H Q ⟨B, δ, S, x, k, s, r, rx, h, q⟩ => ⟨B, δ, S, _, s, r, h, fun y S1 w B1 H1 h1 e1 r1 d1 => ⟨B1, δ, S1, _, s.mono e1, r1, h1, fun z S2 u B2 H2 h2 e2 r2 d2 => by
    obtain ⟨p, ds, n, j, rfl, rfl, hp, hj, h2⟩ := h2
    obtain ⟨xs, hx, rl⟩ := r2.lst hp
    cases rd_ref d1
    cases rd_int d2
    exact ⟨p, xs, n, j, rfl, rfl, hx, by rw [rl.length]; exact hj, q δ _ σ B2 _ h2 (e1.trans e2) (s.mono (e1.trans e2)) (r2.mut hp (.lst (RdL.set (rx.mono (e1.trans e2)) j rl)))⟩⟩⟩
end
section
variable {δ : Dst} {S : Sto} {k : DK} {dO dI : DE} {p : Addr} {ds : List D} {v x : D}
theorem x_gSub {kg : Dst → Sto → Prop} : gSubD dO dI x δ S kg = dO δ S fun o S1 => dI δ S1 fun i S2 => setq o i x S2 (fun S3 => kg δ S3) ⟨⟩ := propext Iff.rfl
theorem setOf {k : Sto → Prop} {n : Int} {j : Nat} (h : S p = some (.lst ds)) (hj : ixN ds.length n = some j) (q : k (put S p (.lst (ds.set j v)))) : setq (.ref p) (.int n) v S k ⟨⟩ := ⟨p, ds, n, j, rfl, rfl, h, hj, q⟩
/-- a comprehension whose elements change the store: I, the store without the list that grows -/
theorem lcOfS {gc : DGc} {t : DT} {de : DE} {vs : List Nat} (I : Nat → List D → Sto → Prop) (hl : ds.length < 100000) (h0 : I 0 [] S)
    (hs : ∀ p, S p = none → ∀ n d acc S', ds[n]? = some d → S' p = none → I n acc S' → gc d (wipeD δ vs) fun δ2 => t δ2 (put S' p (.lst acc)) fun b S2 => branch b (de δ2 S2 (fun y S3 => ∃ S4, S4 p = none ∧ S3 = put S4 p (.lst acc) ∧ I (n + 1) (acc ++ [y]) S4)) (∃ S4, S4 p = none ∧ S2 = put S4 p (.lst acc) ∧ I (n + 1) acc S4) ⟨⟩)
    (hd : ∀ acc S', I ds.length acc S' → k (.list acc) S') : lcC ds gc t de vs δ S k ⟨⟩ :=
  ⟨hl, fun p hp => ⟨I, h0, fun n d acc S' hd' hp' hI => hs p hp n d acc S' hd' hp' hI, fun acc S' _ hI => hd acc S' hI⟩⟩
end
end DL

set_option Elab.async false
set_option linter.all false
set_option maxRecDepth 100000
/-! ### dict(pairs) -/
namespace DL
open PySem L2 Evl EX
def gmerge (kvs : List (Key × D)) (l : List (Key × D)) : List (Key × D) := l.foldl (fun a kv => gput a kv.1 kv.2) kvs
/-- dict([(k, v), ..]) -/
def oDictP : List D → Sto → DK → Prop := fun xs S k => match xs with
  | [.list ds] => ∃ kvs : List (Key × D), ds = kvs.map (fun kv => .tup [dK kv.1, kv.2]) ∧ ∀ p, S p = none → k (.ref p) (put S p (.dct (gmerge [] kvs)))
  | _ => False
section
variable {K : PySem.W.Frag} {B : Hp}
theorem rd_dK {v : V} {k : Key} (h : RdD K B v (dK k)) : v = kV k := by
  cases k with
  | inl i => exact rd_int h
  | inr s => exact rd_str h
theorem pairs_of : ∀ {kvs : List (Key × D)} {vs : List V}, RdL K B vs (kvs.map fun kv => D.tup [dK kv.1, kv.2]) → ∃ (ps : List Addr) (gs : List (Key × V)), vs = ps.map V.ref ∧ Paired (fun p kv => SqT K B p [kV kv.1, kv.2]) ps gs ∧ RdKV K B gs kvs
  | [], _, h => by
    cases h
    exact ⟨[], [], rfl, .nil, .nil⟩
  | kv :: kvs, _, h => by
    cases h with
    | cons h1 r =>
      obtain ⟨ps, gs, rfl, pr, rk⟩ := pairs_of r
      obtain ⟨a, xs, rfl, ha, rl⟩ := rd_tup h1
      cases rl with
      | cons k1 r2 =>
        obtain ⟨v2, rfl, h2⟩ := rdl1 r2
        cases rd_dK k1
        exact ⟨a :: ps, (kv.1, v2) :: gs, rfl, .cons ha pr, .cons ⟨rfl, h2⟩ rk⟩
theorem merge_rd : ∀ {gs : List (Key × V)} {kvs : List (Key × D)} {gs0 : List (Key × V)} {kvs0 : List (Key × D)}, RdKV K B gs kvs → RdKV K B gs0 kvs0 → RdKV K B (mergeK gs0 gs) (gmerge kvs0 kvs)
  | _, _, _, _, .nil, h0 => h0
  | (a, v) :: gs, (b, d) :: kvs, gs0, kvs0, .cons h r, h0 => by
    have h1 : a = b := h.1
    subst h1
    show RdKV K B (mergeK (putK gs0 a v) gs) (gmerge (gput kvs0 a d) kvs)
    exact merge_rd (gs := gs) (kvs := kvs) r (rdkv_gput h.2 h0)
theorem pairs_ex {H : Hp} (e : Ex B H) : ∀ {ps : List Addr} {gs : List (Key × V)}, Paired (fun p kv => SqT K B p [kV kv.1, kv.2]) ps gs → Paired (fun p kv => SqT K H p [kV kv.1, kv.2]) ps gs
  | _, _, .nil => .nil
  | _, _, .cons h r => .cons (ex_t e h) (pairs_ex e r)
theorem si_dictP : SimC K (rDictP K) oDictP := fun B S H vs xs k Q r rx h1 q => by
  unfold oDictP at h1
  split at h1
  · obtain ⟨v, rfl, rv⟩ := rdl1 rx
    obtain ⟨kvs, rfl, h1⟩ := h1
    obtain ⟨a, ys, rfl, ha, rl⟩ := rd_list rv
    obtain ⟨ps, gs, rfl, pr, rk⟩ := pairs_of rl
    refine ⟨a, ps, gs, rfl, sq_of (r.ex _ _ ha), ?_, fun p hp => ?_⟩
    · exact pairs_ex r.ex pr
    · exact q _ _ _ B _ (h1 p (r.fresh hp).2) (Ex.refl B) (r.newS hp (.dct (merge_rd rk .nil))) (.ref p)
  · exact h1.elim
end
theorem x_dictP {S : Sto} {k : DK} {xs : List D} : oDictP xs S k = stC oDictP xs S k ⟨⟩ := propext Iff.rfl
end DL

set_option Elab.async false
set_option linter.all false
set_option maxRecDepth 100000
/-! ### loops over what stands in the store: a list that stays as it is meanwhile, a dict's keys (locked) -/
namespace DL
open PySem L2 Evl EX
/-- what is walked, and what must hold of the store for it to go on -/
abbrev DIS := Dst → Sto → (List D → (Sto → Prop) → Sto → Prop) → Prop
structure ItOkS (K : PySem.W.Frag) (B : Hp) (J : It) (ds : List D) (Φ : Sto → Prop) : Prop where
  go : ∀ i B1 S H, Ex B B1 → R K B1 S H → Φ S → i < ds.length → J.go i H
  stop : ∀ i B1 S H, Ex B B1 → R K B1 S H → Φ S → ds.length ≤ i → J.stop i H
  yld : ∀ i H x H' B1 S, Ex B B1 → R K B1 S H → Φ S → i < ds.length → J.yld i H x H' → ∃ d B2, ds[i]? = some d ∧ Ex B1 B2 ∧ R K B2 S H' ∧ RdD K B2 x d
def lIS (K : PySem.W.Frag) (di : DIS) : TI := fun σ H Rr => ∃ B δ S k, Sl K B σ δ ∧ R K B S H ∧ di δ S k ∧ ∀ ds Φ S' B' H' J, k ds Φ S' → Ex B B' → R K B' S' H' → ItOkS K B' J ds Φ → Rr J H'
def dForS (di : DIS) (g : DG) (b : DS) : DS := fun D δ S => di δ S fun ds Φ S1 => ∃ I : Nat → Dst → Sto → Prop, I 0 δ S1 ∧ Φ S1 ∧
  (∀ n d δ' S', ds[n]? = some d → Φ S' → I n δ' S' → g d δ' S' fun δ2 S2 => b { D with nx := fun δ3 S3 => Φ S3 ∧ I (n + 1) δ3 S3, ct := fun δ3 S3 => Φ S3 ∧ I (n + 1) δ3 S3, bk := D.nx } δ2 S2) ∧ ∀ δ' S', Φ S' → I ds.length δ' S' → D.nx δ' S'
section
variable {X : Cx} {K : PySem.W.Frag} {W : WXD} {d : DS} {pos : Pos}
theorem ds_forS {iter tg : Expr} {body : List Stmt} {di : DIS} {g : DG} (hp : PassesOwn (model X.prog X.w) X.A X.env X.xe) (hc : X.calm = true) (hi : PI X tg iter (lIS K di)) (hg : PG X tg (lG K g)) (hb : PSs X body (lS K W d)) (hs : ∀ x, foldedSetIterable iter X.env x = pure x := by intro _; rfl)
    : PS X (.For tg iter body [] pos) (lS K W (dForS di g d)) := psOf (ps_for hp hc hi hg hb hs) fun E σ H ⟨B, δ, S, D, s, r, h, l⟩ =>
  ⟨B, δ, S, _, s, r, h, fun ds Φ S1 B1 H1 J ⟨I, h0, p0, hs, hd⟩ e1 r1 it => by
    refine ⟨fun i m σ' H' => m = ds.length - i ∧ i ≤ ds.length ∧ ∃ B2 δ2 S2, Ex B1 B2 ∧ Sl K B2 σ' δ2 ∧ R K B2 S2 H' ∧ Φ S2 ∧ I i δ2 S2, ⟨ds.length, rfl, Nat.zero_le _, B1, δ, S1, Ex.refl B1, s.mono e1, r1, p0, h0⟩, ?_⟩
    rintro i m σ' H' ⟨rfl, hi, B2, δ2, S2, e2, s2, r2, p2, hI⟩
    by_cases hlt : i < ds.length
    · refine .inr ⟨it.go i B2 S2 H' e2 r2 p2 hlt, fun σ3 H3 => ∃ B3 δ3 S3, Ex B1 B3 ∧ Sl K B3 σ3 δ3 ∧ R K B3 S3 H3 ∧ Φ S3 ∧ I (i + 1) δ3 S3, fun σ3 H3 hn => ⟨ds.length - (i + 1), by omega, rfl, by omega, hn⟩, fun x H3 hy => ?_⟩
      obtain ⟨d', B3, hd', e3, r3, rd⟩ := it.yld i H' x H3 B2 S2 e2 r2 p2 hlt hy
      refine ⟨B3, δ2, S2, d', _, s2.mono e3, r3, rd, hs i d' δ2 S2 hd' p2 hI, fun δ4 S4 σ4 B4 H4 h4 e4 s4 r4 => ⟨B4, δ4, S4, _, s4, r4, h4, ?_⟩⟩
      have e14 : Ex B1 B4 := e2.trans (e3.trans e4)
      exact ⟨fun δ5 S5 σ5 B5 H5 h5 e5 s5 r5 => ⟨B5, δ5, S5, e14.trans e5, s5, r5, h5⟩, fun x S v B' H' hk e' => l.rt x S v B' H' hk (e1.trans (e14.trans e')), fun δ5 S5 σ5 B5 H5 h5 e5 s5 r5 => l.nx δ5 S5 σ5 B5 H5 h5 (e1.trans (e14.trans e5)) s5 r5,
        fun δ5 S5 σ5 B5 H5 h5 e5 s5 r5 => ⟨B5, δ5, S5, e14.trans e5, s5, r5, h5⟩, fun c od δ5 S5 σ5 B5 H5 h5 e5 => l.xx c od δ5 S5 σ5 B5 H5 h5 (e1.trans (e14.trans e5))⟩
    · have ei : i = ds.length := by omega
      subst ei
      exact .inl ⟨it.stop _ B2 S2 H' e2 r2 p2 (Nat.le_refl _), l.nx δ2 S2 σ' B2 H' (hd δ2 S2 p2 hI) (e1.trans e2) s2 r2⟩⟩
/-- a list of the store -/
def diSL (de : DE) : DIS := fun δ S k => de δ S fun x S1 => ∃ p ds, x = .ref p ∧ S1 p = some (.lst ds) ∧ k ds (fun S' => S' p = some (.lst ds)) S1
theorem di_stl {tg l : Expr} {de : DE} (h : PE X l (lE K de)) (hk : X.K = K := by rfl) : PI X tg l (lIS K (diSL de)) := piOf (piL h hk) fun σ H Q ⟨B, δ, S, k, s, r, h, q⟩ =>
  ⟨B, δ, S, _, s, r, h, fun x S1 v B1 H1 ⟨p, ds, hx, hp, h1⟩ e1 r1 d1 => by
    subst hx
    cases rd_ref d1
    obtain ⟨xs, hx, rl⟩ := r1.lst hp
    refine ⟨p, rfl, ⟨xs, sq_of hx⟩, q _ _ S1 B1 H1 _ h1 e1 r1 ⟨fun i B2 S H e r2 hS hi => ?_, fun i B2 S H e r2 hS hi => ?_, fun i H x H' B2 S e r2 hS hi hy => ?_⟩⟩
    · obtain ⟨ys, hy, ry⟩ := r2.lst hS
      have : i < ys.length := by rw [ry.length]; exact hi
      exact ⟨ys, ys[i], sq_of hy, List.getElem?_eq_getElem this⟩
    · obtain ⟨ys, hy, ry⟩ := r2.lst hS
      exact ⟨ys, sq_of hy, by rw [ry.length]; exact hi⟩
    · obtain ⟨rfl, hy⟩ := hy
      obtain ⟨ys, hz, ry⟩ := r2.lst hS
      obtain ⟨d, hd, rd⟩ := ry.getV (hy ys (sq_of hz))
      exact ⟨d, B2, hd, Ex.refl B2, r2, rd⟩⟩
/-- a dict's keys -/
def diKeys (de : DE) : DIS := fun δ S k => de δ S fun x S1 => ∃ p od xs kvs, x = .ref p ∧ S1 p = some (.lck od xs kvs) ∧ k (kvs.map fun kv => dK kv.1) (fun S' => S' p = some (.lck od xs kvs)) S1
theorem di_keys {tg l : Expr} {de : DE} (h : PE X l (lE K de)) : PI X tg l (lIS K (diKeys de)) := piOf (pi_keys h) fun σ H Q ⟨B, δ, S, k, s, r, h, q⟩ =>
  ⟨B, δ, S, _, s, r, h, fun x S1 v B1 H1 ⟨p, od, xs, kvs, hx, hp, h1⟩ e1 r1 d1 => by
    subst hx
    cases rd_ref d1
    obtain ⟨hx, rl⟩ := r1.lck hp
    have hlen : xs.length = kvs.length := rdkv_len rl
    refine ⟨p, od, rfl, .inl ⟨xs, hx, q _ _ S1 B1 H1 _ h1 e1 r1 ⟨fun i B2 S H e r2 hS hi => ?_, fun i B2 S H e r2 hS hi => ?_, fun i H x H' B2 S e r2 hS hi hy => ?_⟩⟩⟩
    · obtain ⟨hy, ry⟩ := r2.lck hS
      exact ⟨hy, by rw [List.length_map] at hi; omega⟩
    · obtain ⟨hy, ry⟩ := r2.lck hS
      exact ⟨hy, by rw [List.length_map] at hi; omega⟩
    · obtain ⟨rfl, k, v, hkv, rfl⟩ := hy
      have hk := rdkv_keys rl
      refine ⟨dK k, B2, ?_, Ex.refl B2, r2, rd_kV k⟩
      have e2 : (kvs.map fun kv => dK kv.1) = (kvs.map (·.1)).map dK := by rw [List.map_map]; rfl
      rw [e2, ← hk, List.map_map, List.getElem?_map, hkv]
      rfl⟩
/-- a statement while a dict is locked -/
def dLock (d : DS) : DS := fun E δ S => ∃ a kvs, S a = some (.dct kvs) ∧ ∀ od xs, d ⟨fun δ' S' => S' a = some (.lck od xs kvs) ∧ E.nx δ' (put S' a (.dct kvs)), fun v S' => S' a = some (.lck od xs kvs) ∧ E.rt v (put S' a (.dct kvs)),
  fun δ' S' => S' a = some (.lck od xs kvs) ∧ E.bk δ' (put S' a (.dct kvs)), fun δ' S' => S' a = some (.lck od xs kvs) ∧ E.ct δ' (put S' a (.dct kvs)), fun _ _ _ _ => False⟩ δ (put S a (.lck od xs kvs))
theorem ds_lock {st : Stmt} (h : PS X st (lS K W d)) : PS X st (lS K W (dLock d)) := psOf (ps_lock h) fun E σ H ⟨B, δ, S, D, s, r, ⟨a, kvs, ha, h⟩, l⟩ => by
  obtain ⟨xs, hx, rl⟩ := r.dct ha
  refine ⟨a, .dK xs, hx, trivial, fun od => ⟨B, δ, _, _, s, r.mut ha (.lck (od := od) rl), h od xs, ?_⟩⟩
  have back : ∀ {B' : Hp} {S' : Sto} {H' : Hp}, R K B' S' H' → S' a = some (.lck od xs kvs) → H' a = some (.frz od (.dK xs)) ∧ R K B' (put S' a (.dct kvs)) (upd H' a (.dK xs)) := fun r' h' => ⟨(r'.lck h').1, r'.mut h' (.dct (r'.lck h').2)⟩
  exact ⟨fun δ' S' σ' B' H' ⟨h1, h2⟩ e' s' r' => ⟨(back r' h1).1, l.nx δ' _ σ' B' _ h2 e' s' (back r' h1).2⟩,
    fun x S' v B' H' ⟨h1, h2⟩ e' r' rd' => ⟨(back r' h1).1, l.rt x _ v B' _ h2 e' (back r' h1).2 rd'⟩,
    fun δ' S' σ' B' H' ⟨h1, h2⟩ e' s' r' => ⟨(back r' h1).1, l.bk δ' _ σ' B' _ h2 e' s' (back r' h1).2⟩,
    fun δ' S' σ' B' H' ⟨h1, h2⟩ e' s' r' => ⟨(back r' h1).1, l.ct δ' _ σ' B' _ h2 e' s' (back r' h1).2⟩, fun _ _ _ _ _ _ _ z => z.elim⟩
end
/-! stepping -/
def forSC (ds : List D) (Φ : Sto → Prop) (g : DG) (b : DS) (E : DEnds) (δ : Dst) (S : Sto) (_ : Tag (E, g, b)) : Prop := ∃ I : Nat → Dst → Sto → Prop, I 0 δ S ∧ Φ S ∧
  (∀ n d δ' S', ds[n]? = some d → Φ S' → I n δ' S' → g d δ' S' fun δ2 S2 => b { E with nx := fun δ3 S3 => Φ S3 ∧ I (n + 1) δ3 S3, ct := fun δ3 S3 => Φ S3 ∧ I (n + 1) δ3 S3, bk := E.nx } δ2 S2) ∧ ∀ δ' S', Φ S' → I ds.length δ' S' → E.nx δ' S'
def slq (x : D) (S : Sto) (k : List D → (Sto → Prop) → Sto → Prop) (_ : Tag k) : Prop := ∃ p ds, x = .ref p ∧ S p = some (.lst ds) ∧ k ds (fun S' => S' p = some (.lst ds)) S
def skq (x : D) (S : Sto) (k : List D → (Sto → Prop) → Sto → Prop) (_ : Tag k) : Prop := ∃ p od xs kvs, x = .ref p ∧ S p = some (.lck od xs kvs) ∧ k (kvs.map fun kv => dK kv.1) (fun S' => S' p = some (.lck od xs kvs)) S
def lockq (d : DS) (E : DEnds) (δ : Dst) (S : Sto) (_ : Tag (d, E)) : Prop := dLock d E δ S
section
variable {δ : Dst} {S : Sto} {E : DEnds} {de : DE} {d b : DS} {g : DG} {di : DIS} {ds : List D} {Φ : Sto → Prop} {a p : Addr} {kvs : List (Key × D)} {ka : List D → (Sto → Prop) → Sto → Prop}
theorem x_forS : dForS di g b E δ S = di δ S fun ds Φ S1 => forSC ds Φ g b E δ S1 ⟨⟩ := propext Iff.rfl
theorem x_diSL : diSL de δ S ka = de δ S fun x S1 => slq x S1 ka ⟨⟩ := propext Iff.rfl
theorem x_diKeys : diKeys de δ S ka = de δ S fun x S1 => skq x S1 ka ⟨⟩ := propext Iff.rfl
theorem x_lock : dLock d E δ S = lockq d E δ S ⟨⟩ := propext Iff.rfl
theorem slOf (h : S p = some (.lst ds)) (q : ka ds (fun S' => S' p = some (.lst ds)) S) : slq (.ref p) S ka ⟨⟩ := ⟨p, ds, rfl, h, q⟩
theorem skOf {od : Obj} {xs : List (Key × V)} (h : S p = some (.lck od xs kvs)) (q : ka (kvs.map fun kv => dK kv.1) (fun S' => S' p = some (.lck od xs kvs)) S) : skq (.ref p) S ka ⟨⟩ := ⟨p, od, xs, kvs, rfl, h, q⟩
theorem forSOf (I : Nat → Dst → Sto → Prop) (h0 : I 0 δ S) (p0 : Φ S) (hs : ∀ n d δ' S', ds[n]? = some d → Φ S' → I n δ' S' → g d δ' S' fun δ2 S2 => b { E with nx := fun δ3 S3 => Φ S3 ∧ I (n + 1) δ3 S3, ct := fun δ3 S3 => Φ S3 ∧ I (n + 1) δ3 S3, bk := E.nx } δ2 S2)
    (hd : ∀ δ' S', Φ S' → I ds.length δ' S' → E.nx δ' S') : forSC ds Φ g b E δ S ⟨⟩ := ⟨I, h0, p0, hs, hd⟩
theorem lockOf (h : S a = some (.dct kvs)) (q : ∀ od xs, d ⟨fun δ' S' => S' a = some (.lck od xs kvs) ∧ E.nx δ' (put S' a (.dct kvs)), fun v S' => S' a = some (.lck od xs kvs) ∧ E.rt v (put S' a (.dct kvs)),
  fun δ' S' => S' a = some (.lck od xs kvs) ∧ E.bk δ' (put S' a (.dct kvs)), fun δ' S' => S' a = some (.lck od xs kvs) ∧ E.ct δ' (put S' a (.dct kvs)), fun _ _ _ _ => False⟩ δ (put S a (.lck od xs kvs))) : lockq d E δ S ⟨⟩ := ⟨a, kvs, h, q⟩
end
section
variable {S : Sto} {k : DK} {x y p : D}
open Classical in
theorem neSame (hx : res S x = p) (hy : res S y = p) (h1 : p.nb = true) (h3 : p.deep ≤ 64) (h : k (.bl false) S) : st2 (oEqD true) x y S k ⟨⟩ := neDOf hx hy h1 h1 (by rw [Nat.min_self]; exact h3) (by rw [decide_eq_true rfl]; exact h)
open Classical in
theorem eqSame (hx : res S x = p) (hy : res S y = p) (h1 : p.nb = true) (h3 : p.deep ≤ 64) (h : k (.bl true) S) : st2 (oEqD false) x y S k ⟨⟩ := eqDOf hx hy h1 h1 (by rw [Nat.min_self]; exact h3) (by rw [decide_eq_true rfl]; exact h)
end
/-! ### the store read otherwise -/
def Conv (S S1 : Sto) : Prop := ∀ (K : PySem.W.Frag) (B H : Hp), R K B S H → ∃ B', Ex B B' ∧ R K B' S1 H
def convSp (f : SpD) : SpD := fun ds S k x => ∃ S1, Conv S S1 ∧ f ds S1 k x
theorem conv_sp {P : Program} {w : World} {K : PySem.W.Frag} {mg : Str → Option Value} {base : Heap} {k : Nat} {f : Addr} {fd : FuncData} {ps : List Str} {sp : SpD} (F : FnOk P w K mg base CX0 k f fd ps (lSp K sp)) : FnOk P w K mg base CX0 k f fd ps (lSp K (convSp sp)) :=
  F.imp fun vs H Q E ⟨B, ds, S, q, qx, rd, r, ⟨S1, hc, h⟩, hq, hx⟩ => by
    obtain ⟨B', e, r'⟩ := hc K B H r
    exact ⟨B', ds, S1, q, qx, rd.mono e, r', h, fun x S' v B2 H' a b => hq x S' v B2 H' a (e.trans b), fun x o S' B2 H' a b => hx x o S' B2 H' a (e.trans b)⟩
def orSp (f g : SpD) : SpD := fun ds S k x => f ds S k x ∨ g ds S k x
theorem or_sp {P : Program} {w : World} {K : PySem.W.Frag} {mg : Str → Option Value} {base : Heap} {k : Nat} {f : Addr} {fd : FuncData} {ps : List Str} {sp sq : SpD} (F : FnOk P w K mg base CX0 k f fd ps (lSp K sp)) (G : FnOk P w K mg base CX0 k f fd ps (lSp K sq)) : FnOk P w K mg base CX0 k f fd ps (lSp K (orSp sp sq)) :=
  ⟨fun vs H Q E ⟨B, ds, S, q, qx, rd, r, h, hq⟩ => by
    rcases h with h | h
    · exact F.len vs H Q E ⟨B, ds, S, q, qx, rd, r, h, hq⟩
    · exact G.len vs H Q E ⟨B, ds, S, q, qx, rd, r, h, hq⟩, fun A outer s H args us vs Q E hr he hb hv ⟨B, ds, S, q, qx, rd, r, h, hq⟩ => by
    rcases h with h | h
    · exact F.run A outer s H args us vs Q E hr he hb hv ⟨B, ds, S, q, qx, rd, r, h, hq⟩
    · exact G.run A outer s H args us vs Q E hr he hb hv ⟨B, ds, S, q, qx, rd, r, h, hq⟩⟩
end DL

set_option Elab.async false
set_option linter.all false
set_option maxRecDepth 100000
/-! ### xs.count, xs.remove, xs.clear, {k: v}, dict(d), comprehensions over lists of the store and dicts, == of any data -/
namespace DL
open PySem L2 Evl EX
section
variable {K : PySem.W.Frag}
def oCnt : DM := fun x xs S k => ∃ (ns : List Int) (i : Int), SeqD S x (ns.map D.int) ∧ (∀ ds, x ≠ .tup ds) ∧ xs = [.int i] ∧ k (.int (ns.count i : Nat)) S
theorem mtCnt {X : Cx} (h : X.K = K := by rfl) : MtR X "list.count" (rCntI K) := h ▸ mt_lcount
theorem rdl_int {B : Hp} {vs : List V} (ns : List Int) (h : RdL K B vs (ns.map D.int)) : vs = ns.map V.int := rdl_of_map (fun v a r => rd_int r) ns h
theorem si_cnt : SimM K (rCntI K) oCnt := fun B S H v x vs xs k Q r rx rl h1 q => by
  obtain ⟨ns, i, hs, ht, rfl, h1⟩ := h1
  obtain ⟨w, rfl, rw'⟩ := rdl1 rl
  obtain ⟨p, ys, rfl, hp, ry⟩ := seqL_ok hs ht r rx
  cases rd_int rw'
  cases rdl_int ns ry
  exact ⟨p, ns, i, rfl, rfl, hp, q _ S _ B H h1 (Ex.refl B) r (.int _)⟩
theorem rem_at : ∀ (ns : List Int) (n : Int), n ∈ ns → ∃ j : Nat, ns[j]? = some n ∧ (∀ m : Nat, m < j → ns[m]? ≠ some n) ∧ ns.eraseIdx j = ns.erase n
  | [], n, h => by cases h
  | a :: ns, n, h => by
    by_cases e : a = n
    · subst e
      exact ⟨0, rfl, fun m hm => by omega, by simp⟩
    · obtain ⟨j, h1, h2, h3⟩ := rem_at ns n ((List.mem_cons.mp h).resolve_left (Ne.symm e))
      refine ⟨j + 1, by simpa using h1, fun m hm => ?_, ?_⟩
      · cases m with
        | zero => simpa using e
        | succ m => simpa using h2 m (by omega)
      · rw [List.eraseIdx_cons_succ, h3, List.erase_cons, if_neg (by simpa using e)]
def oRem : DM := fun x xs S k => match x, xs with
  | .ref a, [.int n] => ∃ ns : List Int, S a = some (.lst (ns.map D.int)) ∧ n ∈ ns ∧ k .non (put S a (.lst ((ns.erase n).map D.int)))
  | _, _ => False
theorem si_rem : SimM K rRemI oRem := fun B S H v x vs xs k Q r rx rl h1 q => by
  unfold oRem at h1
  split at h1
  · obtain ⟨w, rfl, rw'⟩ := rdl1 rl
    obtain ⟨ns, hs, hn, h1⟩ := h1
    obtain ⟨ys, ha, rr⟩ := r.lst hs
    cases rdl_int ns rr
    cases rd_ref rx
    cases rd_int rw'
    obtain ⟨j, j1, j2, j3⟩ := rem_at ns _ hn
    refine ⟨_, ns, _, j, rfl, rfl, ha, j1, j2, ?_⟩
    rw [j3]
    exact q _ _ _ B _ h1 (Ex.refl B) (r.mut hs (.lst (rdl_ints _))) .non
  · exact h1.elim
def oClr : DM := fun x xs S k => match x, xs with
  | .ref a, [] => ∃ ds, S a = some (.lst ds) ∧ k .non (put S a (.lst []))
  | _, _ => False
theorem si_clr : SimM K rClear oClr := fun B S H v x vs xs k Q r rx rl h1 q => by
  unfold oClr at h1
  split at h1
  · cases rl
    obtain ⟨ds, hs, h1⟩ := h1
    obtain ⟨ys, ha, rr⟩ := r.lst hs
    cases rd_ref rx
    exact ⟨_, ys, rfl, rfl, ha, q _ _ _ B _ h1 (Ex.refl B) (r.mut hs (.lst .nil)) .non⟩
  · exact h1.elim
/-! dict(d) -/
def oDictD : List D → Sto → DK → Prop := fun xs S k => match xs with
  | [.ref a] => ∃ kvs, DctAt S a kvs ∧ ∀ p, S p = none → k (.ref p) (put S p (.dct kvs))
  | _ => False
theorem si_dictD : SimC K (fun xs H Q => ∃ (a : Addr) (kvs : List (Key × V)), xs = [.ref a] ∧ Rd H a (.dK kvs) ∧ ∀ p, H p = none → Q (.ref p) (upd H p (.dK kvs))) oDictD := fun B S H vs xs k Q r rx h1 q => by
  unfold oDictD at h1
  split at h1
  · obtain ⟨v, rfl, rv⟩ := rdl1 rx
    cases rd_ref rv
    obtain ⟨kvs, hs, h1⟩ := h1
    obtain ⟨gs, hg, rg⟩ := r.dctR hs
    exact ⟨_, gs, rfl, hg, fun p hp => q _ _ _ B _ (h1 p (r.fresh hp).2) (Ex.refl B) (r.newS hp (.dct rg)) (.ref p)⟩
  · exact h1.elim
/-! {k: v, ..} -/
def dPairs : List (DE × DE) → Dst → Sto → (List (D × D) → Sto → Prop) → Prop
  | [], _, S, k => k [] S
  | (dk, dv) :: r, δ, S, k => dk δ S fun x S1 => dv δ S1 fun y S2 => dPairs r δ S2 fun ps S3 => k ((x, y) :: ps) S3
def lP (K : PySem.W.Frag) (trs : List (DE × DE)) : List (TE × TE) := trs.map fun p => (lE K p.1, lE K p.2)
theorem dps_nil {X : Cx} {pos : Pos} : PPs X pos [] [] (lP K []) := pps_nil
theorem dps_cons {X : Cx} {pos : Pos} {k v : Expr} {ks : List (Option Expr)} {vs : List Expr} {tk tv : DE} {trs : List (DE × DE)} (hk : PE X k (lE K tk)) (hv : PE X v (lE K tv)) (hr : PPs X pos ks vs (lP K trs)) :
    PPs X pos (some k :: ks) (v :: vs) (lP K ((tk, tv) :: trs)) := pps_cons hk hv hr
/-- pairs as they are read -/
def RdP (K : PySem.W.Frag) (B : Hp) : List (V × V) → List (D × D) → Prop := Paired fun p q => RdD K B p.1 q.1 ∧ RdD K B p.2 q.2
theorem l_pairs {σ : L2.St} {δ : Dst} : ∀ (trs : List (DE × DE)) {B : Hp} {S : Sto} {H : Hp} {k : List (D × D) → Sto → Prop} {Q : List (V × V) → Hp → Prop}, Sl K B σ δ → R K B S H → dPairs trs δ S k →
    (∀ ps S' vs B' H', k ps S' → Ex B B' → R K B' S' H' → RdP K B' vs ps → Q vs H') → tPairs (lP K trs) σ H Q
  | [], B, S, H, k, Q, s, r, h, q => q [] S [] B H h (Ex.refl B) r .nil
  | (dk, dv) :: trs, B, S, H, k, Q, s, r, h, q => ⟨B, δ, S, _, s, r, h, fun x S1 v B1 H1 h1 e1 r1 d1 => ⟨B1, δ, S1, _, s.mono e1, r1, h1, fun y S2 w B2 H2 h2 e2 r2 d2 =>
      l_pairs trs (s.mono (e1.trans e2)) r2 h2 fun ps S' vs B' H' hk e' r' rp => q _ S' _ B' H' hk (e1.trans (e2.trans e')) r' (.cons ⟨d1.mono (e2.trans e'), d2.mono e'⟩ rp)⟩⟩
theorem rdp_kvs {B : Hp} : ∀ {vs : List (V × V)} (kvs : List (Key × D)), RdP K B vs (kvs.map fun kv => (dK kv.1, kv.2)) → ∃ gs : List (Key × V), vs = gs.map (fun kv => (kV kv.1, kv.2)) ∧ RdKV K B gs kvs
  | _, [], .nil => ⟨[], rfl, .nil⟩
  | _, kv :: kvs, .cons (a := p) h r => by
    obtain ⟨gs, rfl, rg⟩ := rdp_kvs kvs r
    obtain ⟨p1, p2⟩ := p
    have e : p1 = kV kv.1 := rd_dK h.1
    subst e
    exact ⟨(kv.1, p2) :: gs, rfl, .cons ⟨rfl, h.2⟩ rg⟩
def dDisp (trs : List (DE × DE)) : DE := fun δ S k => ∀ p, S p = none → dPairs trs δ (put S p (.dct [])) fun ps S2 => S2 p = some (.dct []) ∧ ∃ kvs : List (Key × D), ps = kvs.map (fun kv => (dK kv.1, kv.2)) ∧ kvs.length ≤ 15 ∧ k (.ref p) (put S2 p (.dct (gmerge [] kvs)))
theorem de_disp {X : Cx} {pos : Pos} {keys : List (Option Expr)} {values : List Expr} {trs : List (DE × DE)} (h : PPs X pos keys values (lP K trs)) (hall : keys.all (·.isSome) = true := by rfl) (hl : keys.length = values.length := by rfl) (h0 : keys ≠ [] := by exact nofun)
    (h15 : keys.length ≤ 15 := by decide) : PE X (.Dict keys values pos) (lE K (dDisp trs)) := peOf (pe_disp h hall hl h0 h15) fun σ H Q ⟨B, δ, S, k, s, r, h, q⟩ p hp =>
  l_pairs trs s (r.newS hp (.dct .nil)) (h p (r.fresh hp).2) fun ps S' vs B' H' ⟨h1, kvs, h2, h3, h4⟩ e' r' rp => by
    subst h2
    obtain ⟨gs, rfl, rg⟩ := rdp_kvs kvs rp
    obtain ⟨xs, hx, rx⟩ := r'.dct h1
    cases rx
    exact ⟨hx, gs, rfl, by rw [rdkv_len rg]; exact h3, q _ _ _ B' _ h4 e' (r'.mut h1 (.dct (merge_rd rg .nil))) (.ref p)⟩
/-! == of any data -/
def oEqA (neg : Bool) : DR2 := fun x y S k => (res S x).any = true ∧ (res S y).any = true ∧ min (res S x).deep (res S y).deep ≤ 64 ∧ k (.bl (if neg then !PyData.eqv (res S x).py (res S y).py else PyData.eqv (res S x).py (res S y).py)) S
theorem dpA_res {B H : Hp} {S : Sto} {v : V} {x : D} (r : R K B S H) (rx : RdD K B v x) (h : (res S x).any = true) : Dp K H v (res S x).py := by
  cases x with
  | ref a =>
    simp only [res] at h ⊢
    cases e : S a with
    | none => rw [e] at h; cases h
    | some o =>
      cases o with
      | lst ds =>
        rw [e] at h
        simp only [D.any] at h
        obtain ⟨xs, ha, rl⟩ := r.lst e
        cases rd_ref rx
        simp only [D.py]
        exact .lst (sq_of ha) (dpLA_of r.ex rl h)
      | _ => rw [e] at h; cases h
  | _ => exact dpA_of r.ex rx h
theorem si_eqA (neg : Bool) : Sim2 K (rEqM K neg) (oEqA neg) := fun B S H v w x y k Q r rx ry h1 q => by
  obtain ⟨hx, hy, hm, h1⟩ := h1
  exact ⟨_, _, dpA_res r rx hx, dpA_res r ry hy, pyA_lay _ hx, pyA_lay _ hy, by rw [pyA_deep _ hx, pyA_deep _ hy]; exact hm, q _ S _ B H h1 (Ex.refl B) r (.bl _)⟩
mutual
theorem eqv_refl : ∀ d : D, PyData.eqv d.py d.py = true
  | .non => by simp [D.py, PyData.eqv]
  | .bl b => by simp [D.py, PyData.eqv]
  | .int i => by simp [D.py, PyData.eqv]
  | .str x => by simp [D.py, PyData.eqv]
  | .list ds => by rw [D.py, PyData.eqv]; exact eqvL_refl ds
  | .tup ds => by rw [D.py, PyData.eqv]; exact eqvL_refl ds
  | .scr ds => by rw [D.py, PyData.eqv]; exact eqvL_refl ds
  | .ref _ => by simp [D.py, PyData.eqv]
  | .ty _ => by simp [D.py, PyData.eqv]
theorem eqvL_refl : ∀ ds : List D, PyData.eqvAll (pyL ds) (pyL ds) = true
  | [] => by simp [pyL, PyData.eqvAll]
  | d :: ds => by rw [pyL, PyData.eqvAll, eqv_refl d, eqvL_refl ds]; rfl
end
/-! comprehensions over what stands in the store -/
def dLcS (di : DIS) (g : DGc) (t : DT) (de : DE) (vs : List Nat) : DE := fun δ S k => di δ S fun ds Φ S1 => ds.length < 100000 ∧ ∀ p, S1 p = none → ∃ I : Nat → List D → Sto → Prop, I 0 [] S1 ∧ (∀ n acc S', S' p = none → I n acc S' → Φ (put S' p (.lst acc))) ∧
  (∀ n d acc S', ds[n]? = some d → S' p = none → I n acc S' → g d (wipeD δ vs) fun δ2 => t δ2 (put S' p (.lst acc)) fun b S2 => if b = true then de δ2 S2 (fun y S3 => ∃ S4, S4 p = none ∧ S3 = put S4 p (.lst acc) ∧ I (n + 1) (acc ++ [y]) S4) else ∃ S4, S4 p = none ∧ S2 = put S4 p (.lst acc) ∧ I (n + 1) acc S4) ∧
  ∀ acc S', S' p = none → I ds.length acc S' → k (.list acc) S'
end
section
variable {X : Cx} {K : PySem.W.Frag} {W : WXD}
theorem l_lcS {di : DIS} {g : TG} {gd : DGc} {t : DT} {de : DE} {vs : List Nat} (hg : GcOk K vs g gd) (σ : L2.St) (H : Hp) (Q : VK) : lE K (dLcS di gd t de vs) σ H Q → tLc (lIS K di) g (lT K t) (lE K de) vs σ H Q := fun ⟨B, δ, S, k, s, r, h, q⟩ =>
  ⟨B, δ, S, _, s, r, h, fun ds Φ S1 B1 H1 J ⟨hlen, hp⟩ e1 r1 it => fun Dl hD => by
    have fr := (r1.fresh hD).2
    obtain ⟨I, h0, hΦ, hs, hd⟩ := hp Dl fr
    refine ⟨fun i m H' => m = ds.length - i ∧ i ≤ ds.length ∧ ∃ B2 S2 acc, acc.length ≤ i ∧ S2 Dl = none ∧ Ex B1 B2 ∧ R K B2 (put S2 Dl (.lst acc)) H' ∧ I i acc S2, ⟨ds.length, rfl, Nat.zero_le _, B1, S1, [], Nat.le_refl _, fr, Ex.refl B1, r1.newS hD (.lst .nil), h0⟩, ?_⟩
    rintro i m H' ⟨rfl, hi, B2, S2, acc, hal, n2, e2, r2, hI⟩
    have ph := hΦ i acc S2 n2 hI
    by_cases hlt : i < ds.length
    · refine .inr ⟨it.go i B2 _ H' e2 r2 ph hlt, fun H3 => ∃ B3 S3 acc, acc.length ≤ i + 1 ∧ S3 Dl = none ∧ Ex B1 B3 ∧ R K B3 (put S3 Dl (.lst acc)) H3 ∧ I (i + 1) acc S3, fun H3 hn => ⟨ds.length - (i + 1), by omega, rfl, by omega, hn⟩, fun x H3 hy => ?_⟩
      obtain ⟨d, B3, hd', e3, r3, rd⟩ := it.yld i H' x H3 B2 _ e2 r2 ph hlt hy
      refine hg B3 H3 σ (wipeD δ vs) x d _ _ ((s.mono (e1.trans (e2.trans e3))).wipe vs) r3.ex rd (hs i d acc S2 hd' n2 hI) fun σ2 δ2 hk s2 hw => ⟨hw, ?_⟩
      refine ⟨B3, δ2, _, _, s2, r3, hk, fun b S4 B4 H4 h4 e4 r4 => ?_⟩
      have e14 : Ex B1 B4 := e2.trans (e3.trans e4)
      cases b with
      | false =>
        obtain ⟨S5, n5, rfl, hI5⟩ := h4
        exact ⟨B4, S5, acc, by omega, n5, e14, r4, hI5⟩
      | true =>
        refine ⟨B4, δ2, S4, _, s2.mono e4, r4, h4, fun y S5 v B5 H5 ⟨S6, n6, h6, hI6⟩ e5 r5 d5 => ?_⟩
        subst h6
        obtain ⟨xs, hx, rl⟩ := r5.lst put_same
        have r6 := r5.mut put_same (.lst (rl.append (.one d5)))
        rw [put_put] at r6
        exact ⟨xs, hx, sz_lt (by rw [rl.length]; omega), B5, S6, acc ++ [y], by simp; omega, n6, e14.trans e5, r6, hI6⟩
    · have ei : i = ds.length := by omega
      subst ei
      obtain ⟨B', e', r', rd⟩ := r2.freeze put_same
      rw [del_put n2] at r'
      exact .inl ⟨it.stop _ B2 _ H' e2 r2 ph (Nat.le_refl _), q _ _ _ B' H' (hd acc S2 n2 hI) (e1.trans (e2.trans e')) r' rd⟩⟩
theorem de_lcS {elt tg iter : Expr} {ifs : List Expr} {scope : Scope} {own : List (Str × Nat)} {pos : Pos} {di : DIS} {g : TG} {gd : DGc} {t : DT} {de : DE} (hgc : GcOk K (own.map (·.2)) g gd) (hc : X.calm = true) (hN : X.N.Nodup) (hi : PI X tg iter (lIS K di)) (ok : BlkOk X.N X.env.scope scope own)
    (hg : ∀ (s : Shared) (H : Hp) (C : Addr) (cl : List (Str × Addr)) (fp : List Addr), PG (X.blk s H scope (compEnvC scope cl C X.env) fp) tg g) (ht : ∀ (s : Shared) (H : Hp) (C : Addr) (cl : List (Str × Addr)) (fp : List Addr), PTs (X.blk s H scope (compEnvC scope cl C X.env) fp) ifs (lT K t))
    (he : ∀ (s : Shared) (H : Hp) (C : Addr) (cl : List (Str × Addr)) (fp : List Addr), PE (X.blk s H scope (compEnvC scope cl C X.env) fp) elt (lE K de)) (hs : ∀ x, foldedSetIterable iter X.env x = pure x := by intro _; rfl) :
    PE X (.ListComp elt [⟨tg, iter, ifs, 0⟩] scope pos) (lE K (dLcS di gd t de (own.map (·.2)))) := peOf (pe_lc hc hN hi ok hg ht he hs) (l_lcS hgc)
theorem ds_setLcS {i : Nat} {y : Str} {py : Pos} {elt tg iter : Expr} {ifs : List Expr} {scope : Scope} {own : List (Str × Nat)} {pos spos : Pos} {di : DIS} {g : TG} {gd : DGc} {t : DT} {de : DE} (hgc : GcOk K (own.map (·.2)) g gd) (hc : X.calm = true) (hN : X.N.Nodup) (hy : X.N[i]? = some y) (hyl : X.env.scope.names.lookup y = some .local)
    (hsw : swapsWith (.ListComp elt [⟨tg, iter, ifs, 0⟩] scope pos) (some (.Name y py)) spos.line X.env = pure true) (hi : PI X tg iter (lIS K di)) (ok : BlkOk X.N X.env.scope scope own)
    (hg : ∀ (s : Shared) (H : Hp) (C : Addr) (cl : List (Str × Addr)) (fp : List Addr), PG (X.blk s H scope (compEnvC scope cl C X.env) fp) tg g) (ht : ∀ (s : Shared) (H : Hp) (C : Addr) (cl : List (Str × Addr)) (fp : List Addr), PTs (X.blk s H scope (compEnvC scope cl C X.env) fp) ifs (lT K t))
    (he : ∀ (s : Shared) (H : Hp) (C : Addr) (cl : List (Str × Addr)) (fp : List Addr), PE (X.blk s H scope (compEnvC scope cl C X.env) fp) elt (lE K de)) (hs : ∀ x, foldedSetIterable iter X.env x = pure x := by intro _; rfl) :
    PS X (.Assign [.Name y py] (.ListComp elt [⟨tg, iter, ifs, 0⟩] scope pos) spos) (lS K W (dSet (dLcS di gd t de (own.map (·.2))) i)) := psOf (ps_setLc hc hN hy hyl hsw hi ok hg ht he hs) fun E σ H ⟨B, δ, S, D, s, r, h, l⟩ =>
  l_lcS hgc σ H _ ⟨B, δ, S, _, s, r, h, fun x S1 v B1 H1 h1 e1 r1 d1 => l.nx _ S1 _ B1 H1 h1 e1 ((s.mono e1).set d1 i) r1⟩
/-- an expression while a dict is locked -/
def dLockE (d : DE) : DE := fun δ S k => ∃ a kvs, S a = some (.dct kvs) ∧ ∀ od xs, d δ (put S a (.lck od xs kvs)) fun v S' => S' a = some (.lck od xs kvs) ∧ k v (put S' a (.dct kvs))
theorem de_lock {e : Expr} {d : DE} (h : PE X e (lE K d)) : PE X e (lE K (dLockE d)) := peOf (pe_lock h) fun σ H Q ⟨B, δ, S, k, s, r, ⟨a, kvs, ha, h⟩, q⟩ => by
  obtain ⟨xs, hx, rl⟩ := r.dct ha
  exact ⟨a, .dK xs, hx, trivial, fun od => ⟨B, δ, _, _, s, r.mut ha (.lck (od := od) rl), h od xs, fun x S' v B' H' ⟨h1, h2⟩ e' r' rd' => ⟨(r'.lck h1).1, q x _ v B' _ h2 e' (r'.mut h1 (.dct (r'.lck h1).2)) rd'⟩⟩⟩
end
/-! stepping -/
def lcSC (ds : List D) (Φ : Sto → Prop) (g : DGc) (t : DT) (de : DE) (vs : List Nat) (δ : Dst) (S : Sto) (k : DK) (_ : Tag (k, g, t, de)) : Prop := ds.length < 100000 ∧ ∀ p, S p = none → ∃ I : Nat → List D → Sto → Prop, I 0 [] S ∧ (∀ n acc S', S' p = none → I n acc S' → Φ (put S' p (.lst acc))) ∧
  (∀ n d acc S', ds[n]? = some d → S' p = none → I n acc S' → g d (wipeD δ vs) fun δ2 => t δ2 (put S' p (.lst acc)) fun b S2 => if b = true then de δ2 S2 (fun y S3 => ∃ S4, S4 p = none ∧ S3 = put S4 p (.lst acc) ∧ I (n + 1) (acc ++ [y]) S4) else ∃ S4, S4 p = none ∧ S2 = put S4 p (.lst acc) ∧ I (n + 1) acc S4) ∧
  ∀ acc S', S' p = none → I ds.length acc S' → k (.list acc) S'
def pairsq (trs : List (DE × DE)) (δ : Dst) (S : Sto) (k : List (D × D) → Sto → Prop) (_ : Tag k) : Prop := dPairs trs δ S k
def lockEq (d : DE) (δ : Dst) (S : Sto) (k : DK) (_ : Tag (d, k)) : Prop := dLockE d δ S k
section
variable {δ : Dst} {S : Sto} {k : DK} {de : DE} {gc : DGc} {t : DT} {di : DIS} {ds : List D} {Φ : Sto → Prop} {a p : Addr} {vs : List Nat} {x y : D} {xs : List D} {kvs : List (Key × D)} {trs : List (DE × DE)} {kp : List (D × D) → Sto → Prop}
theorem x_lcS : dLcS di gc t de vs δ S k = di δ S fun ds Φ S1 => lcSC ds Φ gc t de vs δ S1 k ⟨⟩ := propext Iff.rfl
theorem x_lockE : dLockE de δ S k = lockEq de δ S k ⟨⟩ := propext Iff.rfl
theorem x_eqA {neg : Bool} : oEqA neg x y S k = st2 (oEqA neg) x y S k ⟨⟩ := propext Iff.rfl
theorem x_dictD : oDictD xs S k = stC oDictD xs S k ⟨⟩ := propext Iff.rfl
theorem x_disp : dDisp trs δ S k = fresh S (fun p => dPairs trs δ (put S p (.dct [])) fun ps S2 => need (S2 p = some (.dct [])) (∃ kvs : List (Key × D), ps = kvs.map (fun kv => (dK kv.1, kv.2)) ∧ kvs.length ≤ 15 ∧ k (.ref p) (put S2 p (.dct (gmerge [] kvs)))) ⟨⟩) ⟨⟩ := propext Iff.rfl
theorem x_pNil : dPairs [] δ S kp = kp [] S := propext Iff.rfl
theorem x_pCons {dk dv : DE} : dPairs ((dk, dv) :: trs) δ S kp = dk δ S fun x S1 => dv δ S1 fun y S2 => dPairs trs δ S2 fun ps S3 => kp ((x, y) :: ps) S3 := propext Iff.rfl
theorem lockEOf (h : S a = some (.dct kvs)) (q : ∀ od xs, de δ (put S a (.lck od xs kvs)) fun v S' => S' a = some (.lck od xs kvs) ∧ k v (put S' a (.dct kvs))) : lockEq de δ S k ⟨⟩ := ⟨a, kvs, h, q⟩
theorem cntOf {ns : List Int} {i : Int} (h : S a = some (.lst (ns.map D.int))) (q : k (.int (ns.count i : Nat)) S) : stM oCnt (.ref a) [.int i] S k ⟨⟩ := ⟨ns, i, h, fun _ => nofun, rfl, q⟩
theorem remOf {ns : List Int} {i : Int} (h : S a = some (.lst (ns.map D.int))) (hi : i ∈ ns) (q : k .non (put S a (.lst ((ns.erase i).map D.int)))) : stM oRem (.ref a) [.int i] S k ⟨⟩ := ⟨ns, h, hi, q⟩
theorem clrOf (h : S a = some (.lst ds)) (q : k .non (put S a (.lst []))) : stM oClr (.ref a) [] S k ⟨⟩ := ⟨ds, h, q⟩
theorem pop0Of (h : S a = some (.lst (y :: ds))) (q : k y (put S a (.lst ds))) : stM oPop0 (.ref a) [.int 0] S k ⟨⟩ := ⟨ds, y, h, q⟩
theorem dictDOf (h : DctAt S a kvs) (q : ∀ p, S p = none → k (.ref p) (put S p (.dct kvs))) : stC oDictD [.ref a] S k ⟨⟩ := ⟨kvs, h, q⟩
/-- a comprehension over what stands in the store, the store staying as it is -/
theorem lcSOf (P : Nat → List D → Prop) (hl : ds.length < 100000) (hΦ : ∀ p acc, S p = none → Φ (put S p (.lst acc))) (h0 : P 0 [])
    (hs : ∀ p, S p = none → ∀ n d acc, ds[n]? = some d → P n acc → gc d (wipeD δ vs) fun δ2 => t δ2 (put S p (.lst acc)) fun b S2 => branch b (de δ2 S2 (fun y S3 => LcO S p acc (P (n + 1) (acc ++ [y])) S3)) (LcO S p acc (P (n + 1) acc) S2) ⟨⟩) (hd : ∀ acc, P ds.length acc → k (.list acc) S) :
    lcSC ds Φ gc t de vs δ S k ⟨⟩ := by
  refine ⟨hl, fun p hp => ⟨fun n acc S' => S' = S ∧ P n acc, ⟨rfl, h0⟩, ?_, ?_, ?_⟩⟩
  · rintro n acc S' _ ⟨rfl, _⟩
    exact hΦ p acc hp
  · rintro n d acc S' hd' _ ⟨rfl, hP⟩
    exact hs p hp n d acc hd' hP
  · rintro acc S' _ ⟨rfl, hP⟩
    exact hd acc hP
theorem eqASame (hx : res S x = p') (hy : res S y = p') (h1 : p'.any = true) (h3 : p'.deep ≤ 64) (h : k (.bl true) S) : st2 (oEqA false) x y S k ⟨⟩ := by
  subst hx
  refine ⟨h1, by rw [hy]; exact h1, by rw [hy, Nat.min_self]; exact h3, ?_⟩
  rw [hy, eqv_refl]
  exact h
theorem neASame (hx : res S x = p') (hy : res S y = p') (h1 : p'.any = true) (h3 : p'.deep ≤ 64) (h : k (.bl false) S) : st2 (oEqA true) x y S k ⟨⟩ := by
  subst hx
  refine ⟨h1, by rw [hy]; exact h1, by rw [hy, Nat.min_self]; exact h3, ?_⟩
  rw [hy, eqv_refl]
  exact h
theorem eqAOf {u v : D} {b : Bool} (hx : res S x = u) (hy : res S y = v) (h1 : u.any = true) (h2 : v.any = true) (h3 : min u.deep v.deep ≤ 64) (hb : PyData.eqv u.py v.py = b) (h : k (.bl b) S) : st2 (oEqA false) x y S k ⟨⟩ := by
  subst hx hy hb
  exact ⟨h1, h2, h3, h⟩
theorem neAOf {u v : D} {b : Bool} (hx : res S x = u) (hy : res S y = v) (h1 : u.any = true) (h2 : v.any = true) (h3 : min u.deep v.deep ≤ 64) (hb : PyData.eqv u.py v.py = b) (h : k (.bl (!b)) S) : st2 (oEqA true) x y S k ⟨⟩ := by
  subst hx hy hb
  exact ⟨h1, h2, h3, h⟩
end
end DL

set_option Elab.async false
set_option linter.all false
set_option maxRecDepth 100000
/-! ### xs.pop(i) -/
namespace DL
open PySem L2 Evl EX
theorem RdL.eraseIdx {K : PySem.W.Frag} {B : Hp} : ∀ {vs : List V} {ds : List D} (n : Nat), RdL K B vs ds → RdL K B (vs.eraseIdx n) (ds.eraseIdx n)
  | _, _, _, .nil => .nil
  | _, _, 0, .cons _ r => r
  | _, _, n + 1, .cons h r => .cons h (r.eraseIdx n)
def oPopAt : DM := fun x xs S k => match x, xs with
  | .ref a, [.int i] => ∃ ds y, ∃ j : Nat, S a = some (.lst ds) ∧ i = (j : Int) ∧ j < 100000 ∧ ds[j]? = some y ∧ k y (put S a (.lst (ds.eraseIdx j)))
  | _, _ => False
section
variable {K : PySem.W.Frag}
theorem si_popAt : SimM K rPopAt oPopAt := fun B S H v x vs xs k Q r rx rl h1 q => by
  unfold oPopAt at h1
  split at h1
  · obtain ⟨w, rfl, rw'⟩ := rdl1 rl
    obtain ⟨ds, y, j, hs, rfl, hj, hy, h1⟩ := h1
    obtain ⟨ys, ha, rr⟩ := r.lst hs
    obtain ⟨u, hu, ru⟩ := rr.get hy
    cases rd_ref rx
    cases rd_int rw'
    have hlt := (List.getElem?_eq_some_iff.mp hu).1
    refine ⟨_, ys, (j : Int), j, u, rfl, rfl, ha, by omega, by omega, ?_, hu, q _ _ _ B _ h1 (Ex.refl B) (r.mut hs (.lst (rr.eraseIdx j))) ru⟩
    unfold seqIndex?
    have h0 : ¬ ((j : Int) < 0) := by omega
    rw [if_neg h0]
    have h1 : (decide ((0 : Int) ≤ (j : Int)) && decide ((j : Int) < (ys.length : Int))) = true := by simp; omega
    rw [if_pos h1]
    simp
  · exact h1.elim
end
theorem popAtOf {S : Sto} {k : DK} {a : Addr} {ds : List D} {y : D} {j : Nat} (h : S a = some (.lst ds)) (hj : j < 100000) (hy : ds[j]? = some y) (q : k y (put S a (.lst (ds.eraseIdx j)))) : stM oPopAt (.ref a) [.int (j : Int)] S k ⟨⟩ := ⟨ds, y, j, h, rfl, hj, hy, q⟩
/-! -x -/
def dNeg (de : DE) : DE := fun δ S k => de δ S fun x S1 => intq x (fun i => k (.int (-i)) S1) ⟨⟩
theorem de_neg {X : Cx} {K : PySem.W.Frag} {a : Expr} {de : DE} {pos : Pos} (h : PE X a (lE K de)) : PE X (.UnaryOp .USub a pos) (lE K (dNeg de)) := peOf (pe_un un_neg h) fun σ H Q ⟨B, δ, S, k, s, r, h, q⟩ =>
  ⟨B, δ, S, _, s, r, h, fun x S1 v B1 H1 h1 e1 r1 d1 => by
    unfold intq at h1
    split at h1
    · rename_i i
      cases rd_int d1
      exact ⟨i, rfl, q _ S1 _ B1 H1 h1 e1 r1 (.int _)⟩
    · exact h1.elim⟩
theorem x_neg {de : DE} {δ : Dst} {S : Sto} {k : DK} : dNeg de δ S k = de δ S fun x S1 => intq x (fun i => k (.int (-i)) S1) ⟨⟩ := propext Iff.rfl
end DL

set_option Elab.async false
set_option linter.all false
set_option maxRecDepth 100000
/-! ### data: exceptions -/
namespace DL
open PySem L2 Evl EX
/-! an exception made: C(v), its __init__ a def that asks the base's __init__ and then stores one field -/
/-- what the written part says of a class whose __init__ is ValueError's own -/
structure VeC (K : PySem.W.Frag) (CE : Addr) : Prop where
  ga : PySem.W.specialIn K (.ref CE) "__getattribute__" = some (some (.builtin "type.__getattribute__"))
  rd : PySem.W.readsIn K CE (.type "type") = true
  ty : PySem.W.typeIn K (.ref CE) = some (.type "type")
  fi : PySem.W.findCls K (.ref CE) (.type "type") "__init__" = some (.val (.builtin "ValueError.__init__"))
section
variable {X : Cx} {e : Expr} {es : List Expr} {ta : TA} {p1 p2 pos : Pos}
theorem pe_heinit {x : Str} {CE : Addr} {pl : Sem Bool} (T : VeC X.K CE) (hg : Gl X x) (hm : X.mg x = some (.ref CE)) (ha : PA X (e :: es) ta) (hdb : (x == ("__debug__" : Str)) = false := by decide)
    (hc : eval (.Call (.Attribute (.Name x p1) "__init__" p2) (e :: es) [] pos) X.env = (do let o1 ← eval (.Name x p1) X.env; standAt p2.atName; let (g1, fst1) ← holding [o1] (getMethod o1 "__init__" pl); callWith pos g1 fst1 (backTo pos (starEach (e :: es) X.env)) (backToKw pos (keywordEach [] X.env))) := by rfl)
    (he : starEach (e :: es) X.env = (false, eval e X.env) :: starEach es X.env := by rfl) (hpl : (backTo pos (starEach es X.env)).any (·.1) = false := by rfl) :
    PE X (.Call (.Attribute (.Name x p1) "__init__" p2) (e :: es) [] pos) (tVeI X.K ta) := by
  refine ⟨fun pins s σ H Q I h => ?_⟩
  refine PySem.W.methodCall_KW (ld_glob I hg hm ?_ hdb) hc
  obtain ⟨m, fr⟩ := I.fr
  refine PySem.W.method_of_cls fr I.ok.mod.kin T.ga (PySem.W.cls_val fr I.ok.mod.kin T.ty T.rd T.fi (by decide +kernel) ?_)
  show wpAny _ _ (callWith pos (Value.builtin "ValueError.__init__") [] (backTo pos (starEach (e :: es) X.env)) []) _ _ _; refine PyProof.Rows.callWith_method1 (thn (ha.run pos pins _ σ H _ (I.tok _) h) fun ws sA ⟨xs, HA, IA, rA, ad, CA, ys, ex, hly, TA, eA, qA⟩ => ?_) he hpl
  subst ex
  cases rA with
  | @cons _ v0 _ vr rv0 rrest =>
    obtain rfl : v0 = Value.ref ad := rv0; exact oinit_ok TA IA eA (by have := Paired.length rrest; rw [← this, sizeLine_eq]; omega) fun sB JB => ⟨.non, HA, JB, rfl, qA⟩
end
/-- __init__'s promise: one field is stored -/
def spXI (K : PySem.W.Frag) (C : Addr) (f : Str) : Sp := fun vs H Q _ => ∃ (a : Addr) (v : V), vs = [.ref a, v] ∧ OexC K C ∧ PySem.W.findIn K (.ref C) f = some none ∧ H a = some (exo a C none) ∧ ∀ dx, H dx = none → dx ≠ a → Q .non (upd (upd H dx (exd dx [(f, v)])) a (exo a C (some dx)))
/-- all that raise C(v) wants -/
structure MkX (P : Program) (w : World) (K : PySem.W.Frag) (mg : Str → Option Value) (base : Heap) (k : Nat) (x : Str) (C : Addr) (f : Str) : Prop where
  ex : ∃ (fI : Addr) (fd : FuncData) (ps : List Str), OexC K C ∧ PySem.W.findIn K (.ref C) "__init__" = some (some (.ref fI)) ∧ PySem.W.typeIn K (.ref fI) = some (.type "function") ∧ FnOk P w K mg base CX0 k fI fd ps (spXI K C f) ∧ Binds K fd ps [] ∧ mg x = some (.ref C) ∧ PySem.W.findIn K (.ref C) f = some none
/-! readings that may raise -/
abbrev DEX := Dst → Sto → DK → XDK → Prop
abbrev DTX := Dst → Sto → (Bool → Sto → Prop) → XDK → Prop
def lEX (K : PySem.W.Frag) (W : WXD) (d : DEX) : TE := fun σ H Q => ∃ B δ S k kx, Sl K B σ δ ∧ R K B S H ∧ d δ S k kx ∧ (∀ x S' v B' H', k x S' → Ex B B' → R K B' S' H' → RdD K B' v x → Q v H') ∧ ∀ c od S' B' H', kx c od S' → Ex B B' → R K B' S' H' → W c od σ H'
def lTX (K : PySem.W.Frag) (W : WXD) (d : DTX) : TT := fun σ H Q => ∃ B δ S k kx, Sl K B σ δ ∧ R K B S H ∧ d δ S k kx ∧ (∀ b S' B' H', k b S' → Ex B B' → R K B' S' H' → Q b H') ∧ ∀ c od S' B' H', kx c od S' → Ex B B' → R K B' S' H' → W c od σ H'
/-- a def that may raise -/
structure DefX (P : Program) (w : World) (K : PySem.W.Frag) (mg : Str → Option Value) (base : Heap) (k : Nat) (x : Str) (ps : List Str) (sp : SpD) : Prop where
  ex : ∃ (f : Addr) (fd : FuncData), FnOk P w K mg base (L2.CX P w) k f fd ps (lSp K sp) ∧ mg x = some (.ref f) ∧ PySem.W.keepIn K (.ref f) = true ∧ Binds K fd ps []
section
variable {X : Cx} {K : PySem.W.Frag} {W : WXD} {e a b : Expr} {es : List Expr} {da : DA} {pos p : Pos}
def dCallX (f : SpD) (da : DA) : DEX := fun δ S k kx => da δ S fun xs S1 => f xs S1 k kx
theorem dx_call {k : Nat} {x : Str} {ps : List Str} {f : SpD} (h : DefX X.prog X.w X.K X.mg X.base k x ps f) (hr : Room k X.A) (hg : Gl X x) (tk : Takes X W) (ha : PA X (e :: es) (lA K da)) (hK : X.K = K := by rfl)
    (hdb : (x == ("__debug__" : Str)) = false := by decide) (he : starEach (e :: es) X.env = (false, eval e X.env) :: starEach es X.env := by rfl) (hpl : (backTo pos (starEach es X.env)).any (·.1) = false := by rfl) :
    PE X (.Call (.Name x p) (e :: es) [] pos) (lEX K W (dCallX f da)) := by
  obtain ⟨fa, fd, F, hm, hk, hb⟩ := h.ex
  refine peOf (pe_callS F hr hg hm hk hb (fun σ => passAt tk σ) ha hdb he hpl) fun σ H Q ⟨B, δ, S, k, kx, s, r, h, q, qx⟩ => ?_
  subst hK
  exact ⟨B, δ, S, _, s, r, h, fun xs S1 vs B1 H1 h1 e1 r1 d1 => ⟨B1, xs, S1, k, kx, d1, r1, h1, fun x S' v B' H' hk' e' => q x S' v B' H' hk' (e1.trans e'), fun c od S' B' H' hk' e' => qx c od S' B' H' hk' (e1.trans e')⟩⟩
def dUp (de : DE) : DEX := fun δ S k _ => de δ S k
theorem dx_up {de : DE} (h : PE X e (lE K de)) : PE X e (lEX K W (dUp de)) := peOf h fun σ H Q ⟨B, δ, S, k, kx, s, r, h, q, qx⟩ => ⟨B, δ, S, k, s, r, h, q⟩
def dOpX (rd : DR2) (da : DEX) (db : DE) : DEX := fun δ S k kx => da δ S (fun x S1 => db δ S1 fun y S2 => rd x y S2 k) kx
theorem l_opX {r : R2} {rd : DR2} {da : DEX} {db : DE} (hs : Sim2 K r rd) (σ : L2.St) (H : Hp) (Q : VK) : lEX K W (dOpX rd da db) σ H Q → tOp r (lEX K W da) (lE K db) σ H Q := fun ⟨B, δ, S, k, kx, s, r, h, q, qx⟩ =>
  ⟨B, δ, S, _, kx, s, r, h, fun x S1 v B1 H1 h1 e1 r1 d1 => ⟨B1, δ, S1, _, s.mono e1, r1, h1, fun y S2 w B2 H2 h2 e2 r2 d2 => hs B2 S2 H2 v w x y k Q r2 (d1.mono e2) d2 h2 fun z S' u B' H' hk e' r' d' => q z S' u B' H' hk (e1.trans (e2.trans e')) r' d'⟩, qx⟩
theorem dx_ix {r : R2} {rd : DR2} {da : DEX} {db : DE} (ho : IxR X r) (hs : Sim2 K r rd) (ha : PE X a (lEX K W da)) (hb : PE X b (lE K db)) (hp : PlainIx b) : PE X (.Subscript a b pos) (lEX K W (dOpX rd da db)) := peOf (pe_ix ho ha hb hp) (l_opX hs)
def dTestX (de : DEX) : DTX := fun δ S k kx => de δ S (fun x S1 => match x with
  | .bl b => k b S1
  | _ => False) kx
theorem dtx_cmp {op : CmpOp} {r : R2} {rd : DR2} {da : DEX} {db : DE} (ho : OpR X (compareOp op) r) (hs : Sim2 K r rd) (ha : PE X a (lEX K W da)) (hb : PE X b (lE K db)) (hm : behindInMarks op b = false) : PT X (.Compare a [op] [b] pos) (lTX K W (dTestX (dOpX rd da db))) :=
  ptOf (pt_cmpR ho ha hb hm) fun σ H Q ⟨B, δ, S, k, kx, s, r, h, q, qx⟩ => l_opX hs σ H _ ⟨B, δ, S, _, kx, s, r, h, fun x S1 v B1 H1 h1 e1 r1 d1 => by
    split at h1
    · rename_i b
      exact ⟨b, rd_bl d1, q b S1 B1 H1 h1 e1 r1⟩
    · exact h1.elim, qx⟩
/-! statements -/
variable {st : Stmt} {d d2 : DS} {pos' : Pos}
def dSetX (de : DEX) (i : Nat) : DS := fun D δ S => de δ S (fun x S1 => D.nx (δ.set i (some x)) S1) (fun c od S1 => D.xx c od δ S1)
theorem ds_setX {i : Nat} {x : Str} {ex : Expr} {de : DEX} (hN : X.N.Nodup) (hi : X.N[i]? = some x) (hx : Loc X.env.scope x) (h : PE X ex (lEX K W de)) (hs : swapsWith ex (some (.Name x pos')) pos.line X.env = pure false := by rfl) (hf : X.fn x = true ∨ X.env.scope.names.lookup x = some .local := by first | exact .inl rfl | exact .inr rfl | assumption) :
    PS X (.Assign [.Name x pos'] ex pos) (lS K W (dSetX de i)) := psOf (ps_set hN hi hx h hs hf) fun E σ H ⟨B, δ, S, D, s, r, h, l⟩ =>
  ⟨B, δ, S, _, _, s, r, h, fun x S1 v B1 H1 h1 e1 r1 d1 => l.nx _ S1 _ B1 H1 h1 e1 ((s.mono e1).set d1 i) r1, fun c od S1 B1 H1 h1 e1 r1 => l.xx c od δ S1 σ B1 H1 h1 e1 (s.mono e1) r1⟩
def dAsgX (de : DEX) (g : DG) : DS := fun D δ S => de δ S (fun x S1 => g x δ S1 D.nx) (fun c od S1 => D.xx c od δ S1)
theorem ds_asgX {tg ex : Expr} {de : DEX} {g : DG} (h : PE X ex (lEX K W de)) (hg : PG X tg (lG K g)) (hs : swapsWithSole [tg] ex pos.line X.env = pure false := by rfl) (hw : swappedStores [tg] ex X.env = pure none := by rfl)
    (h1 : (assignEach [tg] X.env).map (·.2) = [assign tg X.env] := by rfl) : PS X (.Assign [tg] ex pos) (lS K W (dAsgX de g)) := psOf (ps_asg h hg hs hw h1) fun E σ H ⟨B, δ, S, D, s, r, h, l⟩ =>
  ⟨B, δ, S, _, _, s, r, h, fun x S1 v B1 H1 h1 e1 r1 d1 => ⟨B1, δ, S1, x, _, s.mono e1, r1, d1, h1, fun δ' S' σ' B' H' hk e' s' r' => l.nx δ' S' σ' B' H' hk (e1.trans e') s' r'⟩, fun c od S1 B1 H1 h1 e1 r1 => l.xx c od δ S1 σ B1 H1 h1 e1 (s.mono e1) r1⟩
def dRetX (de : DEX) : DS := fun D δ S => de δ S D.rt (fun c od S1 => D.xx c od δ S1)
theorem ds_retX {ex : Expr} {de : DEX} (h : PE X ex (lEX K W de)) : PS X (.Return (some ex) pos) (lS K W (dRetX de)) := psOf (ps_ret h) fun E σ H ⟨B, δ, S, D, s, r, h, l⟩ =>
  ⟨B, δ, S, _, _, s, r, h, l.rt, fun c od S1 B1 H1 h1 e1 r1 => l.xx c od δ S1 σ B1 H1 h1 e1 (s.mono e1) r1⟩
def dIfX (t : DTX) (d e : DS) : DS := fun D δ S => t δ S (fun b S1 => if b = true then d D δ S1 else e D δ S1) (fun c od S1 => D.xx c od δ S1)
theorem ds_ifX {c : Expr} {t : DTX} {sa sb : List Stmt} (hc : PT X c (lTX K W t)) (ha : PSs X sa (lS K W d)) (hb : PSs X sb (lS K W d2)) : PS X (.If c sa sb pos) (lS K W (dIfX t d d2)) := psOf (ps_if hc ha hb) fun E σ H ⟨B, δ, S, D, s, r, h, l⟩ =>
  ⟨B, δ, S, _, _, s, r, h, fun b S1 B1 H1 h1 e1 r1 => by
    cases b with
    | true => exact ⟨B1, δ, S1, D, s.mono e1, r1, h1, l.mono e1⟩
    | false => exact ⟨B1, δ, S1, D, s.mono e1, r1, h1, l.mono e1⟩, fun c od S1 B1 H1 h1 e1 r1 => l.xx c od δ S1 σ B1 H1 h1 e1 (s.mono e1) r1⟩
/-- raise C(v) -/
def dRaise (C : Addr) (f : Str) (de : DE) : DS := fun D δ S => de δ S fun v S1 => ∀ d, S1 d = none → D.xx (.ref C) (some d) δ (put S1 d (.xd [(f, v)]))
theorem ds_raise {k : Nat} {x f : Str} {C : Addr} {de : DE} (hc : X.calm = true) (T : MkX X.prog X.w X.K X.mg X.base k x C f) (hr : Room (k + 1) X.A) (tk : Takes X W) (hg : Gl X x) (ha : PE X e (lE K de)) (hK : X.K = K := by rfl)
    (hdb : (x == ("__debug__" : Str)) = false := by decide) (he : starEach [e] X.env = (false, eval e X.env) :: starEach [] X.env := by rfl) (hpl : (backTo pos (starEach [] X.env)).any (·.1) = false := by rfl) :
    PS X (.Raise (some (.Call (.Name x p) [e] [] pos)) none pos') (lS K W (dRaise C f de)) := by
  obtain ⟨fI, fd, ps, oc, iC, tI, F1, hb, hm, hnf⟩ := T.ex
  refine psOf (ps_raise hc tk (pmk_oex oc iC tI F1 hr hb .nil pass0 hg hm (da_cons ha da_nil he) hdb he hpl)) fun E σ H ⟨B, δ, S, D, s, r, h, l⟩ => ?_
  refine ⟨B, δ, S, fun xs S1 => match xs with | [v] => ∀ d, S1 d = none → D.xx (.ref C) (some d) δ (put S1 d (.xd [(f, v)])) | _ => False, s, r, h, fun xs S1 vs B1 H1 h1 e1 r1 d1 => ?_⟩
  cases d1 with
  | nil => exact h1.elim
  | cons rv rr =>
    cases rr with
    | cons _ _ => exact h1.elim
    | nil =>
      rename_i v x
      refine ⟨by simp, fun a na => ⟨a, v, rfl, oc, hnf, upd_same, fun dx nd nda => ⟨rfl, dx, [(f, v)], upd_same, ?_, ?_, ?_⟩⟩⟩
      · rw [upd_ne nda, upd_same]
      · rw [upd_ne nda] at nd; exact nd
      · rw [upd_ne nda] at nd
        have eq : upd (L2.del (upd (upd (upd H1 a (exo a C none)) dx (exd dx [(f, v)])) a (exo a C (some dx))) a) dx (.xd [(f, v)]) = upd H1 dx (.xd [(f, v)]) := by
          funext b
          by_cases z : b = dx
          · rw [z, upd_same, upd_same]
          · rw [upd_ne z, upd_ne z]
            by_cases y : b = a
            · rw [y, L2.del_same, na]
            · rw [L2.del_ne y, upd_ne y, upd_ne z, upd_ne y]
        rw [eq]
        exact l.xx (.ref C) (some dx) δ _ σ B1 _ (h1 dx (r1.fresh nd).2) e1 (s.mono e1) (r1.newS nd (.xd (.cons ⟨rfl, rv⟩ .nil)))
/-! try -/
def dTryAs (K : PySem.W.Frag) (c : Value) (i : Nat) (body : DS) (suite : Addr → Value → Option Addr → DS) : DS := fun D δ S => body { D with xx := fun cls od δ' S' => ∃ b, PySem.W.exmOne K cls c = some b ∧
  (b = true → ∀ a, S' a = none → suite a cls od { nx := fun δ2 S2 => D.nx (δ2.set i none) S2, rt := D.rt, bk := fun δ2 S2 => D.bk (δ2.set i none) S2, ct := fun δ2 S2 => D.ct (δ2.set i none) S2 } (δ'.set i (some (.ref a))) S') ∧ (b = false → D.xx cls od δ' S') } δ S
theorem ds_try_as {x n : Str} {c : Value} {i : Nat} {body suite : List Stmt} {b₀ : Stmt} {np : Pos} {db : DS} {du : Addr → Value → Option Addr → DS} (hs : X.stack = X.env :: X.outer) (hf : X.env.frame = some X.env.locals) (hN : X.N.Nodup) (hi : X.N[i]? = some n) (hln : X.env.kindOf n = some .local) (hc : Names X x c) (tk : Takes X W)
    (hb : ∀ (W' : WXD) (pn : List (Addr × Obj)) (xe : Value → Shared → Prop), Takes (X.tr pn xe) W' → PassesOwn (model X.prog X.w) X.A X.env xe → PSs (X.tr pn xe) body (lS K W' db))
    (hsu : ∀ (a : Addr) (oe : Obj) (cls : Value) (d : Option Addr) (pn : List (Addr × Obj)), Zc cls d oe → (∃ vs, oe.data = .fields vs) → PSs (X.suite a ((a, oe) :: pn)) (b₀ :: suite) (lS K (fun _ _ _ _ => False) (du a cls d))) (hK : X.K = K := by rfl) :
    PS X (.Try body [.ExceptHandler (some (.Name x np)) (some n) (b₀ :: suite) pos'] [] [] pos) (lS K W (dTryAs K c i db du)) :=
  psOf (ps_try_as (i := i) (tb := fun W' => lS K W' db) (ts := fun a cls d => lS K (fun _ _ _ _ => False) (du a cls d)) (Wout := W) hs hf hN hi hln hc tk hb hsu) fun E σ H ⟨B, δ, S, D, s, r, h, l⟩ => by
    refine ⟨B, δ, S, _, s, r, h, ⟨l.nx, l.rt, l.bk, l.ct, fun cls od δ' S' σ' B' H' ⟨b, hb1, hy, hn⟩ e' s' r' => ?_⟩⟩
    subst hK
    refine ⟨b, hb1, fun z a na => ⟨B', _, S', _, s'.set (.ref a) i, r', hy z a (r'.fresh na).2, ?_⟩, fun z => l.xx cls od δ' S' σ' B' H' (hn z) e' s' r'⟩
    exact ⟨fun δ2 S2 σ2 B2 H2 h2 e2 s2 r2 => l.nx _ S2 _ B2 H2 h2 (e'.trans e2) (s2.setN i) r2, fun x S2 v B2 H2 h2 e2 => l.rt x S2 v B2 H2 h2 (e'.trans e2), fun δ2 S2 σ2 B2 H2 h2 e2 s2 r2 => l.bk _ S2 _ B2 H2 h2 (e'.trans e2) (s2.setN i) r2,
      fun δ2 S2 σ2 B2 H2 h2 e2 s2 r2 => l.ct _ S2 _ B2 H2 h2 (e'.trans e2) (s2.setN i) r2, fun _ _ _ _ _ _ _ z => z.elim⟩
def dTryO (K : PySem.W.Frag) (c : Value) (body : DS) (suite : Addr → Value → Option Addr → DS) : DS := fun D δ S => body { D with xx := fun cls od δ' S' => ∃ b, PySem.W.exmOne K cls c = some b ∧
  (b = true → ∀ a, S' a = none → suite a cls od { D with xx := fun _ _ _ _ => False } δ' S') ∧ (b = false → D.xx cls od δ' S') } δ S
theorem ds_try_only {x : Str} {c : Value} {body suite : List Stmt} {b₀ : Stmt} {np : Pos} {db : DS} {du : Addr → Value → Option Addr → DS} (hs : X.stack = X.env :: X.outer) (hf : X.env.frame = some X.env.locals) (hc : Names X x c) (tk : Takes X W)
    (hb : ∀ (W' : WXD) (pn : List (Addr × Obj)) (xe : Value → Shared → Prop), Takes (X.tr pn xe) W' → PassesOwn (model X.prog X.w) X.A X.env xe → PSs (X.tr pn xe) body (lS K W' db))
    (hsu : ∀ (a : Addr) (oe : Obj) (cls : Value) (d : Option Addr) (pn : List (Addr × Obj)), Zc cls d oe → (∃ vs, oe.data = .fields vs) → PSs (X.suite a ((a, oe) :: pn)) (b₀ :: suite) (lS K (fun _ _ _ _ => False) (du a cls d))) (hK : X.K = K := by rfl) :
    PS X (.Try body [.ExceptHandler (some (.Name x np)) none (b₀ :: suite) pos'] [] [] pos) (lS K W (dTryO K c db du)) :=
  psOf (ps_try_only (tb := fun W' => lS K W' db) (ts := fun a cls d => lS K (fun _ _ _ _ => False) (du a cls d)) (Wout := W) hs hf hc tk hb hsu) fun E σ H ⟨B, δ, S, D, s, r, h, l⟩ => by
    refine ⟨B, δ, S, _, s, r, h, ⟨l.nx, l.rt, l.bk, l.ct, fun cls od δ' S' σ' B' H' ⟨b, hb1, hy, hn⟩ e' s' r' => ?_⟩⟩
    subst hK
    refine ⟨b, hb1, fun z a na => ⟨B', _, S', _, s', r', hy z a (r'.fresh na).2, ?_⟩, fun z => l.xx cls od δ' S' σ' B' H' (hn z) e' s' r'⟩
    exact ⟨fun δ2 S2 σ2 B2 H2 h2 e2 s2 r2 => l.nx _ S2 _ B2 H2 h2 (e'.trans e2) s2 r2, fun x S2 v B2 H2 h2 e2 => l.rt x S2 v B2 H2 h2 (e'.trans e2), fun δ2 S2 σ2 B2 H2 h2 e2 s2 r2 => l.bk _ S2 _ B2 H2 h2 (e'.trans e2) s2 r2,
      fun δ2 S2 σ2 B2 H2 h2 e2 s2 r2 => l.ct _ S2 _ B2 H2 h2 (e'.trans e2) s2 r2, fun _ _ _ _ _ _ _ z => z.elim⟩
/-- a try whose body lets nothing out -/
theorem ds_thru {body : List Stmt} {h₀ : ExceptHandler} {hs : List ExceptHandler} (hb : PSs X.nox body (lS K W d)) : PS X (.Try body (h₀ :: hs) [] [] pos) (lS K W d) := ps_try_thru0 hb
end
/-! what is caught -/
/-- isinstance(e, ..) of exceptions of C -/
structure XcC (K : PySem.W.Frag) (C : Addr) : Prop where
  cl : (PySem.W.clsIn K C).isSome = true
  ga : PySem.W.findIn K (.ref C) "__getattribute__" = some (some (.builtin "BaseException.__getattribute__"))
  gt : PySem.W.findIn K (.ref C) "__getattr__" = some none
  su : PySem.W.subIn K (.ref C) (.type "BaseException") = some true
  ha : PySem.W.findIn K (.ref C) "__class__" = some (some (.builtin "object.__class__"))
  hn : PySem.W.specialIn K (.builtin "object.__class__") "__get__" = some (some (.builtin "getset_descriptor.__get__"))
  tk : PySem.W.takesIn K (.builtin "object.__class__") = some true
  hm : PySem.W.mroIn K C (.type "object") = some true
  hd : PySem.W.hasDictIn K C = true
def rIsiX (K : PySem.W.Frag) (a : Addr) (cls : Value) (d : Option Addr) : List V → Hp → VK → Prop := fun xs H Q => ∃ (c : V) (u : Value) (b : Bool) (C dd : Addr) (fs : List (Str × V)), xs = [.ref a, c] ∧ ClsV c u ∧ cls = .ref C ∧ XcC K C ∧ d = some dd ∧ H dd = some (.xd fs) ∧ PySem.W.kitOne K cls u = some b ∧ Q (.bl b) H
def clsOf : D → Option Value
  | .ty n => some (.type n)
  | .ref C => some (.ref C)
  | _ => none
def oIsiX (K : PySem.W.Frag) (a : Addr) (cls : Value) (d : Option Addr) : List D → Sto → DK → Prop := fun xs S k => ∃ (c : D) (u : Value) (b : Bool) (C dd : Addr) (fs : List (Str × D)), xs = [.ref a, c] ∧ clsOf c = some u ∧ cls = .ref C ∧ XcC K C ∧ d = some dd ∧ S dd = some (.xd fs) ∧ PySem.W.kitOne K cls u = some b ∧ k (.bl b) S
theorem R.xd {K : PySem.W.Frag} {B H : Hp} {S : Sto} (r : R K B S H) {p : Addr} {gs : List (Str × D)} (h : S p = some (.xd gs)) : ∃ fs, H p = some (.xd fs) ∧ RdKV K B fs gs := by
  obtain ⟨_, ho, h1, h2⟩ := r.own p _ h
  cases h2 with
  | xd rl => exact ⟨_, h1, rl⟩
theorem si_isiX {K : PySem.W.Frag} {a : Addr} {cls : Value} {d : Option Addr} : SimC K (rIsiX K a cls d) (oIsiX K a cls d) := fun B S H vs xs k Q r rx h1 q => by
  obtain ⟨c, u, b, C, dd, fs, rfl, hc, h2, h3, h4, h5, h6, h7⟩ := h1
  cases rx with
  | cons ra rr =>
    cases rr with
    | cons rc rn =>
      cases rn
      cases rd_ref ra
      obtain ⟨gs, hg, _⟩ := r.xd h5
      refine ⟨_, u, b, C, dd, gs, rfl, ?_, h2, h3, h4, hg, h6, q _ S _ B H h7 (Ex.refl B) r (.bl b)⟩
      cases c with
      | ty n => cases rc; cases hc; exact .ty n
      | ref C' => cases rd_ref rc; cases hc; exact .own C'
      | _ => cases hc
section
variable {X : Cx} {K : PySem.W.Frag} {W : WXD} {a : Addr} {cls : Value} {d : Option Addr} {oe : Obj} {pn : List (Addr × Obj)}
theorem call_isiX (hz : Zc cls d oe) (hf : ∃ vs, oe.data = .fields vs) : CallR (X.suite a ((a, oe) :: pn)) (.builtin "isinstance") (rIsiX X.K a cls d) := by
  intro pins s σ H xs us Q I r h
  obtain ⟨c, u, b, C, dd, fs, rfl, k, hC, T, hd', hdd, e, q⟩ := h
  obtain ⟨u1, u2, rfl, r1, r2⟩ := vals2 r
  have e2 := k.eq r2
  subst e2
  cases (show u1 = Value.ref a from r1)
  subst hC
  subst hd'
  obtain ⟨ha, _⟩ := I.pin (a, oe) (List.mem_append_left _ List.mem_cons_self)
  obtain ⟨vs, hd⟩ := hf
  have hx : ObjOk X.prog X.w H s.heap dd (.xd fs) := I.hok dd _ hdd
  obtain ⟨mA, hns, hr⟩ := hx
  obtain ⟨od, ho, hl⟩ := lookIn_ns hns
  exact PySem.W.kia_one (PySem.W.kitx_exc (x := a) (ox := oe) (od := some od) T.cl T.ga T.gt T.su T.ha T.hn T.tk T.hm) I.kIn ⟨ha, hz.1, by unfold PySem.W.notCls; rw [hd] <;> rfl, by rw [hz.2]; exact ho⟩ e (fun z => nomatch z) fun tk => ⟨.bl b, H, I.tok tk, rfl, q⟩
/-- e.f -/
def dXF (K : PySem.W.Frag) (a : Addr) (cls : Value) (d : Option Addr) (f : Str) (de : DE) : DE := fun δ S k => de δ S fun x S1 => x = .ref a ∧ ∃ (C dd : Addr) (fs : List (Str × D)) (v : D), cls = .ref C ∧ XcC K C ∧ PySem.W.findIn K (.ref C) f = some none ∧ d = some dd ∧ S1 dd = some (.xd fs) ∧ fs.lookup f = some v ∧ k v S1
theorem de_xf {e : Expr} {f : Str} {de : DE} {pos : Pos} (hz : Zc cls d oe) (hf : ∃ vs, oe.data = .fields vs) (he : PE (X.suite a ((a, oe) :: pn)) e (lE K de)) (hK : X.K = K := by rfl)
    (hb : attributeBase e f X.env (eval e X.env) = eval e X.env := by rfl) : PE (X.suite a ((a, oe) :: pn)) (.Attribute e f pos) (lE K (dXF K a cls d f de)) := by
  refine ⟨fun pins s σ H Q I ⟨B, δ, S, k, sl, rr, h, q0⟩ => ?_⟩
  refine attr_of hb (thn (he.run pins s σ H (fun v H1 => ∃ B1 S1 x, Ex B B1 ∧ R K B1 S1 H1 ∧ RdD K B1 v x ∧ x = .ref a ∧ ∃ (C dd : Addr) (fs : List (Str × D)) (v : D), cls = .ref C ∧ XcC K C ∧ PySem.W.findIn K (.ref C) f = some none ∧ d = some dd ∧ S1 dd = some (.xd fs) ∧ fs.lookup f = some v ∧ k v S1) I ⟨B, δ, S, _, sl, rr, h, fun x S1 v B1 H1 h1 e1 r1 d1 => ⟨B1, S1, x, e1, r1, d1, h1⟩⟩) fun u s1 hh => ?_)
  obtain ⟨v0, H1, I1, rx, B1, S1, x, e1, r1, d1, rfl, C, dd, gs, v, ec, T, hno, ed, hS, hl, hk⟩ := hh
  subst hK
  cases rd_ref d1
  obtain rfl : u = Value.ref a := rx
  subst ec
  subst ed
  obtain ⟨ha, _⟩ := I1.pin (a, oe) (List.mem_append_left _ List.mem_cons_self)
  obtain ⟨vs, hd⟩ := hf
  obtain ⟨fs, ea, rkv⟩ := r1.xd hS
  obtain ⟨y, hy, ry⟩ := rdkv_lookup rkv hl
  have hx : ObjOk X.prog X.w H1 s1.heap dd (.xd fs) := I1.hok dd _ ea
  obtain ⟨mA, hns, hr⟩ := hx
  obtain ⟨od, ho, hlk⟩ := lookIn_ns hns
  obtain ⟨u, hu, ru⟩ := RelO.some_of (v := y) (o := mA f) (by rw [← hy]; exact hr f)
  have J : PySem.W.InstAt s1.heap a oe C (some od) := ⟨ha, hz.1, by unfold PySem.W.notCls; rw [hd] <;> rfl, by rw [hz.2]; exact ho⟩
  exact HandSPX.exc_get I1.kIn J T.ga T.gt T.su (PySem.W.findObj_own T.hd hno rfl (by rw [hlk, hu])) (handed_of ru) ⟨y, H1, I1.tok _, ru, q0 v S1 y B1 H1 hk e1 r1 ry⟩
end
/-! a def that may raise -/
section
variable {P : Program} {w : World} {K : PySem.W.Frag} {mg : Str → Option Value} {base : Heap}
theorem dokX {x qual : Str} {st : Stmt} {f : Addr} {fd : FuncData} {N ps : List Str} {k : Nat} {sp : SpD} (F : Fun K x qual st f fd) (Sc : FnScope N ps (defScope st)) (len : ∀ ds S q qx, sp ds S q qx → ds.length = ps.length)
    (h : ∃ d : DS, (∀ (cdv : Value) (A : Around) (outer : List Env) (s : Shared) (H : Hp) (E : XK) (W : WXD), Room k (A.deeper (PyProof.Rows.envOfC qual (defScope st) s.heap.objs.size f cdv)) → Takes (cxOf (L2.CX P w) P w K mg base N qual (defScope st) f cdv A outer s H E) W →
        PassesOwn (model P w) (A.deeper (PyProof.Rows.envOfC qual (defScope st) s.heap.objs.size f cdv)) (PyProof.Rows.envOfC qual (defScope st) s.heap.objs.size f cdv) (cxOf (L2.CX P w) P w K mg base N qual (defScope st) f cdv A outer s H E).xe →
        PSs (cxOf (L2.CX P w) P w K mg base N qual (defScope st) f cdv A outer s H E) (defBody st) (lS K W d)) ∧
      ∀ ds S q qx, sp ds S q qx → d { nx := fun _ S' => q .non S', rt := q, xx := fun c od _ S' => qx c od S' } (startD N ds) S) : FnOk P w K mg base (L2.CX P w) (k + 1) f fd ps (lSp K sp) := by
  obtain ⟨d, hd, hs⟩ := h
  refine F.okX Sc (fun vs H Q E ⟨B, ds, S, q, qx, rd, r, h, _⟩ => by rw [rd.length]; exact len ds S q qx h) (fun cdv A outer s H vs Q E hr ⟨B, ds, S, q, qx, rd, r, h, hq, hqx⟩ => ?_)
  refine ⟨_, hd cdv A outer s H E (fun cls d _ H => E cls d H) hr (takes_of rfl rfl rfl rfl) (passes_of rfl), B, startD N ds, S, _, sl_start rd, r, hs ds S q qx h, ?_⟩
  exact ⟨fun δ S' σ B' H' hk e' _ r' => hq .non S' .non B' H' hk e' r' .non, fun x S' v B' H' hk e' r' rd' => hq x S' v B' H' hk e' r' rd', fun _ _ _ _ _ z => z.elim, fun _ _ _ _ _ z => z.elim, fun c od δ S' σ B' H' hk e' _ r' => hqx c od S' B' H' hk e' r'⟩
end
end DL

set_option Elab.async false
set_option linter.all false
set_option maxRecDepth 100000
set_option maxHeartbeats 1000000
/-! ### list.extend(tuple), dict.update(pairs), for .. in reversed(..), range(a, b, -1), sorted(dict of texts) -/
namespace DL
open PySem PySem.Spec PyProof.Rows L2 Evl EX
theorem ext_tup {dq : Option Addr} {sq : Array (Option Value)} (l b : Addr) (xs ys : Array Value) (n m : Nat) (k0 : ¬(!xs.isEmpty && Builtin.List.listTooLong (xs.size + ys.size)) = true) (k1 : xs.size ≤ sizeLine) (k2 : xs.size + ys.size ≤ sizeLine + 1) :
    Meets (Builtin.«list.extend» ⟨[.ref l, .ref b], []⟩) (fun _ R s => s.heap.get? l = some { cls := .type "list", dict := none, data := .seq xs n, slots := #[] } ∧ s.heap.get? b = some { cls := .type "tuple", dict := dq, data := .seq ys m, slots := sq } ∧ R (.ok (.ret .none)) { s with heap := s.heap.update l (Obj.mapSeq (· ++ ys)) }) :=
  .of_wp fun prog w A R s hh => by
    obtain ⟨h1, g1, d1, t1, o1⟩ := s; obtain ⟨e1, e2, q⟩ := hh; have a1 := AutoSeq1.idx_int; have a2 := AutoSeq1.sub_tuple_tuple; have a3 := AutoSeq1.sub_list_list; have a4 := AutoSeq1.sub_tuple_list; have a5 := AutoSeq1.sub_list_tuple
    have hz : (xs ++ ys).size ≤ sizeLine + 1 := by rw [Array.size_append]; exact k2
    wp_walk using (wpAny_updateSeq e1 rfl (hz := k1) (_hz' := hz)), AutoSeq1.wpAny_loadPart' e1, AutoSeq1.wpAny_loadPart' e2; exact ⟨_, rfl, q⟩
/-- l.extend(t), t a tuple -/
def rExtT (K : PySem.W.Frag) : V → List V → Hp → VK → Prop := fun x vs H Q => ∃ l b xs zs, x = .ref l ∧ vs = [.ref b] ∧ H l = some (.lst xs) ∧ SqT K H b zs ∧ xs.length + zs.length ≤ sizeLine ∧ Q .non (upd H l (.lst (xs ++ zs)))
theorem mt_extT {X : Cx} {K : PySem.W.Frag} (hK : X.K = K := by rfl) : MtM X "list.extend" (rExtT K) := by
  intro pins s σ H x vs v us Q I rx rv h
  obtain ⟨l, b, xs, zs, rfl, rfl, hH, hB, hz, q⟩ := h
  subst hK
  cases rx
  obtain ⟨u, rfl, ru⟩ := rv.one
  cases ru
  obtain ⟨z, its, n, r, hl, e⟩ := I.lstM hH
  obtain ⟨its2, r2, ⟨o2, e2, c2, m, d2⟩, z2⟩ := I.tuple hB
  obtain ⟨oc, od, dt, sl⟩ := o2
  simp only at c2 d2
  subst c2 d2
  have l2 := r2.length
  have hs : its.toArray.size + its2.toArray.size ≤ sizeLine := by rw [List.size_toArray, List.size_toArray]; omega
  refine call_meets F.slot_list_extend ⟨_, e, rfl⟩ F.entry_list_extend (F.args_list_extend_2 _ _) (ext_tup l b its.toArray its2.toArray n m (by rw [notLongL hs, Bool.and_false]; exact Bool.false_ne_true) (by rw [List.size_toArray]; omega) (by omega)) ⟨e, e2, ?_⟩
  exact ⟨.non, _, I.lset (its' := its ++ its2) hH e (by simp) (r.append r2) (by rw [List.length_append]; omega), rfl, q⟩
def oExtT : DM := fun x xs S k => match x, xs with
  | .ref a, [.tup es] => ∃ ds, S a = some (.lst ds) ∧ ds.length + es.length ≤ 100000 ∧ k .non (put S a (.lst (ds ++ es)))
  | _, _ => False
section
variable {K : PySem.W.Frag}
theorem si_extT : SimM K (rExtT K) oExtT := fun B S H v x vs xs k Q r rx rl h1 q => by
  unfold oExtT at h1
  split at h1
  · obtain ⟨w, rfl, rw'⟩ := rdl1 rl
    obtain ⟨ds, hs, hl, h1⟩ := h1
    obtain ⟨ys, ha, rr⟩ := r.lst hs
    obtain ⟨b, zs, rfl, hb, rz⟩ := rd_tup rw'
    cases rd_ref rx
    exact ⟨_, b, ys, zs, rfl, rfl, ha, ex_t r.ex hb, sz_of (by rw [rr.length, rz.length]; exact hl), q _ _ _ B _ h1 (Ex.refl B) (r.mut hs (.lst (rr.append rz))) .non⟩
  · exact h1.elim
theorem extTOf {S : Sto} {a : Addr} {ds es : List D} {k : DK} (h : S a = some (.lst ds)) (hl : ds.length + es.length ≤ 100000) (q : k .non (put S a (.lst (ds ++ es)))) : stM oExtT (.ref a) [.tup es] S k ⟨⟩ := ⟨ds, h, hl, q⟩
end
/-! d.update([(k, v), ..]) -/
def rDUpd (K : PySem.W.Frag) : V → List V → Hp → VK → Prop := fun x vs H Q => ∃ (d a : Addr) (kvs0 : List (Key × V)) (ps : List Addr) (kvs : List (Key × V)), x = .ref d ∧ vs = [.ref a] ∧ H d = some (.dK kvs0) ∧ SqL K H a (ps.map V.ref) ∧ Paired (fun p kv => SqT K H p [kV kv.1, kv.2]) ps kvs ∧ kvs0.length + ps.length ≤ 1000000 ∧
  Q .non (upd H d (.dK (mergeK kvs0 kvs)))
theorem mtd_update {X : Cx} (hcalm : X.calm = true) : MtR X "dict.update" (rDUpd X.K) := by
  intro pins s σ H x vs v us Q I rx rv h
  obtain ⟨d, a, kvs0, ps, kvs, rfl, rfl, hd, ha, hp, hz, q⟩ := h
  obtain rfl : v = Value.ref d := rx
  obtain ⟨u, rfl, ru⟩ := rv.one
  obtain rfl : u = Value.ref a := ru
  obtain ⟨z0, lo, vs0, rel0, dd0⟩ := dk_of I.hok hd
  obtain ⟨its, rvs, pl, hzl⟩ := I.list ha
  have ei := refs_at rvs
  subst ei
  obtain ⟨prs, rel, hl, hpr⟩ := L2.pairs_of I hp
  obtain ⟨oe, esd, epd, hoe, hde, _⟩ := id dd0
  have hlen := rel0.length
  -- the pairs as values
  have ex : ∀ j : Nat, ∃ b : Addr × Value, ∀ q', prs[j]? = some q' → (ps[j]? = some b.1 ∧ IsTup s.heap b.1 #[b.2, q'.2] ∧ keyIs q'.1 b.2 = true) := fun j => by
    cases e : prs[j]? with
    | none => exact ⟨(0, .none), fun q' z => by cases z⟩
    | some q' =>
      obtain ⟨b, u, e1, e2, e3⟩ := hpr j q' e
      exact ⟨(b, u), fun q2 z => by cases z; exact ⟨e1, e2, e3⟩⟩
  obtain ⟨F0, hF⟩ := Classical.axiomOfChoice ex
  let pv : List (Value × Value) := (List.range prs.length).map fun j => ((F0 j).2, (prs.getD j (.inl 0, .none)).2)
  have pvl : pv.length = prs.length := by simp [pv]
  have pvg : ∀ (j : Nat) (k1 v1 : Value), pv[j]? = some (k1, v1) → ∃ q', prs[j]? = some q' ∧ k1 = (F0 j).2 ∧ v1 = q'.2 := fun j k1 v1 e => by
    have hj : j < prs.length := by rw [← pvl]; exact (List.getElem?_eq_some_iff.mp e).1
    refine ⟨prs[j], List.getElem?_eq_getElem hj, ?_⟩
    simp only [pv, List.getElem?_map, List.getElem?_range hj, Option.map_some, Option.some.injEq, Prod.mk.injEq] at e
    refine ⟨e.1.symm, ?_⟩
    rw [← e.2, List.getD_eq_getElem?_getD, List.getElem?_eq_getElem hj]
    rfl
  have okL : PlainSeq "list" s.heap a (ps.map Value.ref).toArray ∧ PairItems s.heap (ps.map Value.ref).toArray (fun j => (F0 j).1) pv := by
    obtain ⟨o, n, ho, hc, hdn, hdat⟩ := pl
    refine ⟨⟨o, n, ho, hc, hdn, hdat⟩, by simp [pvl, hl], fun j k1 v1 e => ?_⟩
    obtain ⟨q', e1, rfl, rfl⟩ := pvg j k1 v1 e
    obtain ⟨e2, e3, _⟩ := hF j q' e1
    exact ⟨by simp [e2], .inl e3⟩
  have hnd : d ∉ a :: (List.range pv.length).map (fun j => (F0 j).1) := fun hm => by
    rcases List.mem_cons.mp hm with e | hm
    · obtain ⟨o, n, ho, hc, _⟩ := pl
      rw [← e] at ho
      rw [hoe] at ho
      cases ho
      rw [hde.1] at hc
      simp at hc
    · obtain ⟨j, hj, e⟩ := List.mem_map.mp hm
      have hj' : j < prs.length := by rw [← pvl]; exact List.mem_range.mp hj
      obtain ⟨_, ⟨o, ho, hc, _⟩, _⟩ := hF j prs[j] (List.getElem?_eq_getElem hj')
      rw [e] at ho
      rw [hoe] at ho
      cases ho
      rw [hde.1] at hc
      simp at hc
  refine call_update_pairs (knd := mixKind X.prog X.w) (acc := vs0) (kvs := prs) (PairArg.list a (ps.map Value.ref).toArray (fun j => (F0 j).1) pv) (I.ok.hd hcalm) okL hnd ⟨pvl.symm, fun j key v1 e => ?_⟩ dd0 (by rw [← hlen, pvl, hl, sizeLine_eq]; omega) fun h' tk dd' kp => ?_
  · obtain ⟨q', e1, rfl, rfl⟩ := pvg j key v1 e
    obtain ⟨_, _, e4⟩ := hF j q' e1
    exact ⟨q'.1, e1, e4⟩
  · have he : ∃ q, h'.get? d = some q := let ⟨q, _, _, hq, _⟩ := dd'; ⟨q, hq⟩
    refine ⟨.non, _, I.write (t' := tk) (x := d) (e := d) (o := .dK (mergeK kvs0 kvs)) (by rw [hd]; exact True.intro) (.inl rfl) (fun b o hb e => kp b o hb (by simp) e) he (dk_new ?_ lo (KV.merge rel rel0) dd'), rfl, q⟩
    refine Nat.le_trans (length_mergeK kvs kvs0) ?_
    rw [rel.length, hl, sizeLine_eq]
    omega
def dDUpd (dO de : DE) : DE := fun δ S k => dO δ S fun x S1 => (∃ a kvs, x = .ref a ∧ S1 a = some (.dct kvs)) ∧ de δ S1 fun y S2 => ∃ a kvs kv2, x = .ref a ∧ S2 a = some (.dct kvs) ∧ y = .list (kv2.map fun kv : Key × D => .tup [dK kv.1, kv.2]) ∧ kvs.length + kv2.length ≤ 100000 ∧ k .non (put S2 a (.dct (gmerge kvs kv2)))
theorem de_dupd {X : Cx} {K : PySem.W.Frag} {o e : Expr} {dO de : DE} {apos cpos : Pos} (hcalm : X.calm = true) (ho : PE X o (lE K dO)) (he : PE X e (lE K de)) (hK : X.K = K := by rfl) (hbase : attributeBase o "update" X.env (eval o X.env) = eval o X.env := by rfl)
    (hfew : ((backTo cpos (starEach [e] X.env)).all (fun x => !x.1) && (backToKw cpos (keywordEach [] X.env)).all (fun x => x.1.isSome) && decide (([e] : List Expr).length + ([] : List Keyword).length + (if ([] : List Keyword).isEmpty then 0 else 1) < 30)) = true := by rfl)
    (hline : (apos.endLine == cpos.line) = true := by rfl) (hs : starEach [e] X.env = (false, eval e X.env) :: starEach [] X.env := by rfl) (hplain : (backTo cpos (starEach [] X.env)).any (·.1) = false := by rfl) : PE X (.Call (.Attribute o "update" apos) [e] [] cpos) (lE K (dDUpd dO de)) := by
  refine peOf (pe_bm PySem.F.plainAttrs_dict PySem.F.slot_dict_update PySem.F.type_dict_update (mtd_update hcalm) ho (da_cons he da_nil hs) hbase hfew hline hs hplain) fun σ H Q ⟨B, δ, S, k, s, r, h, q⟩ => ?_
  subst hK
  refine ⟨B, δ, S, _, s, r, h, fun x S1 v B1 H1 ⟨⟨a0, kvs0, ex, ha0⟩, h1⟩ e1 r1 d1 => ?_⟩
  subst ex
  cases rd_ref d1
  obtain ⟨gs0, hg0, _⟩ := r1.dct ha0
  refine ⟨.inr (.inr (.inl ⟨rfl, .inl ⟨gs0, hg0⟩⟩)), B1, δ, S1, fun xs S2 => match xs with | [y] => ∃ a kvs kv2, D.ref a0 = .ref a ∧ S2 a = some (.dct kvs) ∧ y = .list (kv2.map fun kv : Key × D => .tup [dK kv.1, kv.2]) ∧ kvs.length + kv2.length ≤ 100000 ∧ k .non (put S2 a (.dct (gmerge kvs kv2))) | _ => False, s.mono e1, r1, h1, fun xs S2 vs B2 H2 h2 e2 r2 d2 => ?_⟩
  cases d2 with
  | nil => exact h2.elim
  | cons rv rr =>
    cases rr with
    | cons _ _ => exact h2.elim
    | nil =>
      obtain ⟨a, kvs, kv2, ea, ha, ey, hl, hk⟩ := h2
      cases ea
      subst ey
      obtain ⟨gs, hg, rg⟩ := r2.dct ha
      obtain ⟨b, ys, rfl, hb, rl⟩ := rd_list rv
      obtain ⟨ps, gs2, rfl, pr, rk⟩ := DL.pairs_of rl
      have l1 := rdkv_len rg
      have l2 := rl.length
      rw [List.length_map, List.length_map] at l2
      exact ⟨_, b, gs, ps, gs2, rfl, rfl, hg, sq_of (r2.ex _ _ hb), pairs_ex r2.ex pr, by rw [l1, l2]; omega, q _ _ _ B2 _ hk (e1.trans e2) (r2.mut ha (.dct (merge_rd rk rg))) .non⟩
/-! for x in reversed(l), l a list or a tuple -/
section
variable {X : Cx} {K : PySem.W.Frag} {tg e : Expr} {de : DE} {p pos : Pos}
def diRev (de : DE) : DI := fun δ S k => de δ S fun x S1 => match x with
  | .list ds => k ds.reverse S1
  | .tup ds => k ds.reverse S1
  | _ => False
theorem rev_at {α : Type} {l : List α} {i : Nat} (h : i < l.length) : l.reverse[i]? = l[l.length - 1 - i]? := by
  rw [List.getElem?_reverse h]
theorem itok_rev {B : Hp} {a : Addr} {xs : List V} {ds : List D} (h : SqL K B a xs) (r : RdL K B xs ds) : ItOk K B (Itv K a xs.length) ds.reverse := by
  have hl := r.length
  refine ⟨fun i H ex hi => ?_, fun i H ex hi => by rw [List.length_reverse, ← hl] at hi; exact hi, fun i H x H' B1 S e1 r1 hi hy => ?_⟩
  · rw [List.length_reverse, ← hl] at hi
    exact ⟨hi, xs, xs[xs.length - 1 - i], ex_l ex h, List.getElem?_eq_getElem (by omega)⟩
  · rw [List.length_reverse] at hi
    obtain ⟨rfl, hy⟩ := hy
    have hx := hy xs (ex_l (e1.trans r1.ex) h)
    obtain ⟨d, hd, rd⟩ := r.getV hx
    exact ⟨d, B1, by rw [rev_at hi, ← hl]; exact hd, Ex.refl B1, r1, rd.mono e1⟩
theorem itok_revT {B : Hp} {a : Addr} {xs : List V} {ds : List D} (h : SqT K B a xs) (r : RdL K B xs ds) : ItOk K B (RT.ItvT K a xs.length) ds.reverse := by
  have hl := r.length
  refine ⟨fun i H ex hi => ?_, fun i H ex hi => by rw [List.length_reverse, ← hl] at hi; exact hi, fun i H x H' B1 S e1 r1 hi hy => ?_⟩
  · rw [List.length_reverse, ← hl] at hi
    exact ⟨hi, xs, xs[xs.length - 1 - i], ex_t ex h, List.getElem?_eq_getElem (by omega)⟩
  · rw [List.length_reverse] at hi
    obtain ⟨rfl, hy⟩ := hy
    have hx := hy xs (ex_t (e1.trans r1.ex) h)
    obtain ⟨d, hd, rd⟩ := r.getV hx
    exact ⟨d, B1, by rw [rev_at hi, ← hl]; exact hd, Ex.refl B1, r1, rd.mono e1⟩
theorem di_rev (hg : Gl X "reversed") (hm : X.mg "reversed" = none) (he : PE X e (lE K de)) (hs : starEach [e] X.env = (false, eval e X.env) :: starEach [] X.env := by rfl) (hK : X.K = K := by rfl) : PI X tg (.Call (.Name "reversed" p) [e] [] pos) (lI K (diRev de)) :=
  piOf (RT.pi_revA hg hm he hs) fun σ H Q ⟨B, δ, S, k, s, r, h, q⟩ => by
    subst hK
    exact ⟨B, δ, S, _, s, r, h, fun x S1 v B1 H1 h1 e1 r1 d1 => by
      split at h1
      · obtain ⟨a, xs, rfl, ha, rl⟩ := rd_list d1
        exact ⟨a, xs, rfl, .inl ⟨sq_of (r1.ex _ _ ha), q _ S1 B1 H1 _ h1 e1 r1 (itok_rev (sq_of ha) rl)⟩⟩
      · obtain ⟨a, xs, rfl, ha, rl⟩ := rd_tup d1
        exact ⟨a, xs, rfl, .inr ⟨ex_t r1.ex ha, q _ S1 B1 H1 _ h1 e1 r1 (itok_revT ha rl)⟩⟩
      · exact h1.elim⟩
/-! range(a, b, -1) -/
def rngDn (a : Int) (n : Nat) : List D := (List.range n).map fun i : Nat => .int (a - (i : Int))
theorem rngDn_len (a : Int) (n : Nat) : (rngDn a n).length = n := by simp [rngDn]
theorem rngDn_get {a : Int} {n i : Nat} {d : D} (h : (rngDn a n)[i]? = some d) : d = .int (a - (i : Int)) ∧ i < n := by
  unfold rngDn at h
  rw [List.getElem?_map] at h
  by_cases hi : i < n
  · rw [List.getElem?_range hi] at h; cases h; exact ⟨rfl, hi⟩
  · rw [List.getElem?_eq_none (by simpa using hi)] at h; cases h
def diR3 (da : DA) : DI := fun δ S k => da δ S fun xs S1 => match xs with
  | [.int i, .int j, .int c] => c = -1 ∧ -(2 ^ 62) ≤ i ∧ i < 2 ^ 62 ∧ -(2 ^ 62) ≤ j ∧ j < 2 ^ 62 ∧ k (rngDn i (i - j).toNat) S1
  | _ => False
theorem itok_dn {B : Hp} (a : Int) (n : Nat) : ItOk K B (Itc a (-1) n) (rngDn a n) := by
  refine ⟨fun i H e hi => by rw [rngDn_len] at hi; exact hi, fun i H e hi => by rw [rngDn_len] at hi; exact hi, fun i H x H' B1 S e1 r1 hi hy => ?_⟩
  obtain ⟨rfl, rfl⟩ := hy
  rw [rngDn_len] at hi
  refine ⟨.int (a - i), B1, by unfold rngDn; rw [List.getElem?_map, List.getElem?_range hi]; rfl, Ex.refl B1, r1, ?_⟩
  rw [show a + (i : Int) * -1 = a - i by omega]
  exact .int _
theorem di_range3 {a b c : Expr} {da : DA} (hg : Gl X "range") (hm : X.mg "range" = none) (ha : PA X [a, b, c] (lA K da)) (hs : starEach [a, b, c] X.env = (false, eval a X.env) :: starEach [b, c] X.env := by rfl) (hpl : (backTo pos (starEach [b, c] X.env)).any (·.1) = false := by rfl) :
    PI X tg (.Call (.Name "range" p) [a, b, c] [] pos) (lI K (diR3 da)) := piOf (pi_range3 hg hm ha hs hpl) fun σ H Q ⟨B, δ, S, k, s, r, h, q⟩ =>
  ⟨B, δ, S, _, s, r, h, fun xs S1 vs B1 H1 h1 e1 r1 d1 => by
    split at h1
    · rename_i i j c
      obtain ⟨rfl, b1, b2, b3, b4, h1⟩ := h1
      cases d1 with
      | cons v1 t1 =>
        cases t1 with
        | cons v2 t2 =>
          obtain ⟨v3, rfl, h3⟩ := rdl1 t2
          cases rd_int v1; cases rd_int v2; cases rd_int h3
          exact ⟨i, j, -1, _, rfl, RgC.neg b1 b2 b3 b4, q _ S1 B1 H1 _ h1 e1 r1 (itok_dn _ _)⟩
    · exact h1.elim⟩
/-! sorted(dict), its keys texts -/
def oSortDS : List D → Sto → DK → Prop := fun xs S k => match xs with
  | [.ref a] => ∃ (kvs : List (Key × D)) (ks : List Str), S a = some (.dct kvs) ∧ kvs.map (·.1) = ks.map Sum.inr ∧ ks.length < 64 ∧ ∀ ys : List Str, ys.Perm ks → sortedS ys = true → k (.list (ys.map D.str)) S
  | _ => False
theorem si_sortDS : SimC K (fun xs H Q => ∃ (a : Addr) (kvs : List (Key × V)) (ks : List Str), xs = [.ref a] ∧ Rd H a (.dK kvs) ∧ kvs.map (·.1) = ks.map Sum.inr ∧ ks.length < 64 ∧ ∀ ys p, ys.Perm ks → sortedS ys = true → H p = none → Q (.ref p) (upd H p (.lst (ys.map V.str)))) oSortDS := fun B S H vs xs k Q r rx h1 q => by
  unfold oSortDS at h1
  split at h1
  · obtain ⟨v, rfl, rv⟩ := rdl1 rx
    cases rd_ref rv
    obtain ⟨kvs, ks, hs, hk, hl, h1⟩ := h1
    obtain ⟨gs, hg, rg⟩ := r.dct hs
    refine ⟨_, gs, ks, rfl, .inl hg, by rw [rdkv_keys rg]; exact hk, hl, fun ys p pm pw hp => ?_⟩
    have n := r.new (o := .lst (ys.map V.str)) hp
    exact q _ S _ _ _ (h1 ys pm pw) n.2 n.1 (.lst upd_same (rdl_strs _))
  · exact h1.elim
end
/-! stepping -/
def revq (x : D) (S : Sto) (k : List D → Sto → Prop) (_ : Tag k) : Prop := match x with
  | .list ds => k ds.reverse S
  | .tup ds => k ds.reverse S
  | _ => False
section
variable {δ : Dst} {S : Sto} {k : DK} {kl : List D → Sto → Prop} {E : DEnds} {d e : DS} {de : DE} {dx : DEX} {da : DA} {xs ds : List D} {x : D} {i : Nat} {kx : XDK}
theorem x_diRev : diRev de δ S kl = de δ S fun x S1 => revq x S1 kl ⟨⟩ := propext (by unfold diRev revq; exact Iff.rfl)
theorem x_revL : revq (.list ds) S kl ⟨⟩ = kl ds.reverse S := propext Iff.rfl
theorem x_revT : revq (.tup ds) S kl ⟨⟩ = kl ds.reverse S := propext Iff.rfl
theorem x_extT {a : D} : oExtT a xs S k = stM oExtT a xs S k ⟨⟩ := propext Iff.rfl
theorem x_sortDS : oSortDS xs S k = stC oSortDS xs S k ⟨⟩ := propext Iff.rfl
def r3q (xs : List D) (S : Sto) (k : List D → Sto → Prop) (_ : Tag k) : Prop := match xs with
  | [.int i, .int j, .int c] => c = -1 ∧ -(2 ^ 62) ≤ i ∧ i < 2 ^ 62 ∧ -(2 ^ 62) ≤ j ∧ j < 2 ^ 62 ∧ k (rngDn i (i - j).toNat) S
  | _ => False
theorem x_diR3 : diR3 da δ S kl = da δ S fun xs S1 => r3q xs S1 kl ⟨⟩ := propext (by unfold diR3 r3q; exact Iff.rfl)
theorem r3Of {i j : Int} (h1 : -100000 ≤ i) (h2 : i ≤ 100000) (h3 : -100000 ≤ j) (h4 : j ≤ 100000) (q : kl (rngDn i (i - j).toNat) S) : r3q [.int i, .int j, .int (-1)] S kl ⟨⟩ := ⟨rfl, by omega, by omega, by omega, by omega, q⟩
def dupdq (x y : D) (S : Sto) (k : DK) (_ : Tag k) : Prop := ∃ a kvs kv2, x = .ref a ∧ S a = some (.dct kvs) ∧ y = .list (kv2.map fun kv : Key × D => .tup [dK kv.1, kv.2]) ∧ kvs.length + kv2.length ≤ 100000 ∧ k .non (put S a (.dct (gmerge kvs kv2)))
theorem x_dupd {dO : DE} : dDUpd dO de δ S k = dO δ S fun x S1 => need (∃ a kvs, x = .ref a ∧ S1 a = some (.dct kvs)) (de δ S1 fun y S2 => dupdq x y S2 k ⟨⟩) ⟨⟩ := propext Iff.rfl
/-! exceptions -/
def askX (f : SpD) (xs : List D) (S : Sto) (k : DK) (kx : XDK) (_ : Tag (k, kx)) : Prop := f xs S k kx
theorem x_callX {f : SpD} : dCallX f da δ S k kx = da δ S fun xs S1 => askX f xs S1 k kx ⟨⟩ := propext Iff.rfl
theorem x_up : dUp de δ S k kx = de δ S k := propext Iff.rfl
theorem x_opX {rd : DR2} : dOpX rd dx de δ S k kx = dx δ S (fun x S1 => de δ S1 fun y S2 => rd x y S2 k) kx := propext Iff.rfl
theorem x_setX : dSetX dx i E δ S = dx δ S (fun x S1 => E.nx (δ.set i (some x)) S1) (fun c od S1 => E.xx c od δ S1) := propext Iff.rfl
theorem x_asgX {g : DG} : dAsgX dx g E δ S = dx δ S (fun x S1 => g x δ S1 E.nx) (fun c od S1 => E.xx c od δ S1) := propext Iff.rfl
theorem x_retX : dRetX dx E δ S = dx δ S E.rt (fun c od S1 => E.xx c od δ S1) := propext Iff.rfl
theorem x_testX {kb : Bool → Sto → Prop} : dTestX dx δ S kb kx = dx δ S (fun x S1 => tst x S1 kb ⟨⟩) kx := propext (by unfold dTestX tst; exact Iff.rfl)
theorem x_ifX {t : DTX} : dIfX t d e E δ S = t δ S (fun b S1 => branch b (d E δ S1) (e E δ S1) ⟨⟩) (fun c od S1 => E.xx c od δ S1) := propext Iff.rfl
def raiq (C : Addr) (f : Str) (v : D) (S : Sto) (k : Value → Option Addr → Sto → Prop) (_ : Tag k) : Prop := ∀ d, S d = none → k (.ref C) (some d) (put S d (.xd [(f, v)]))
theorem x_raise {C : Addr} {f : Str} : dRaise C f de E δ S = de δ S fun v S1 => raiq C f v S1 (fun c od S2 => E.xx c od δ S2) ⟨⟩ := propext Iff.rfl
def tryq (K : PySem.W.Frag) (c : Value) (i : Nat) (body : DS) (suite : Addr → Value → Option Addr → DS) (E : DEnds) (δ : Dst) (S : Sto) (_ : Tag (E, body, suite)) : Prop := dTryAs K c i body suite E δ S
theorem x_tryAs {K : PySem.W.Frag} {c : Value} {body : DS} {suite : Addr → Value → Option Addr → DS} : dTryAs K c i body suite E δ S = body { E with xx := fun cls od δ' S' => ∃ b, PySem.W.exmOne K cls c = some b ∧
  (b = true → ∀ a, S' a = none → suite a cls od { nx := fun δ2 S2 => E.nx (δ2.set i none) S2, rt := E.rt, bk := fun δ2 S2 => E.bk (δ2.set i none) S2, ct := fun δ2 S2 => E.ct (δ2.set i none) S2 } (δ'.set i (some (.ref a))) S') ∧ (b = false → E.xx cls od δ' S') } δ S := propext Iff.rfl
theorem x_tryO {K : PySem.W.Frag} {c : Value} {body : DS} {suite : Addr → Value → Option Addr → DS} : dTryO K c body suite E δ S = body { E with xx := fun cls od δ' S' => ∃ b, PySem.W.exmOne K cls c = some b ∧
  (b = true → ∀ a, S' a = none → suite a cls od { E with xx := fun _ _ _ _ => False } δ' S') ∧ (b = false → E.xx cls od δ' S') } δ S := propext Iff.rfl
theorem x_isiX {K : PySem.W.Frag} {a : Addr} {cls : Value} {od : Option Addr} : oIsiX K a cls od xs S k = stC (oIsiX K a cls od) xs S k ⟨⟩ := propext Iff.rfl
def xfq (K : PySem.W.Frag) (a : Addr) (cls : Value) (d : Option Addr) (f : Str) (x : D) (S : Sto) (k : DK) (_ : Tag k) : Prop := x = .ref a ∧ ∃ (C dd : Addr) (fs : List (Str × D)) (v : D), cls = .ref C ∧ XcC K C ∧ PySem.W.findIn K (.ref C) f = some none ∧ d = some dd ∧ S dd = some (.xd fs) ∧ fs.lookup f = some v ∧ k v S
theorem x_xf {K : PySem.W.Frag} {a : Addr} {cls : Value} {od : Option Addr} {f : Str} : dXF K a cls od f de δ S k = de δ S fun x S1 => xfq K a cls od f x S1 k ⟨⟩ := propext Iff.rfl
end
/-! comprehensions that map and filter -/
section
variable {δ : Dst} {S : Sto} {k : DK} {ds : List D} {gc : DGc} {t : DT} {de : DE} {vs : List Nat}
theorem lcFM (f : D → Option D) (hl : ds.length < 100000) (hs : ∀ (p : Addr) (acc : List D) (d : D) (k1 : DK) (k0 : Sto → Prop), S p = none → d ∈ ds → (∀ y, f d = some y → k1 y (put S p (.lst acc))) → (f d = none → k0 (put S p (.lst acc))) →
      gc d (wipeD δ vs) fun δ2 => t δ2 (put S p (.lst acc)) fun b S2 => branch b (de δ2 S2 k1) (k0 S2) ⟨⟩) (hk : k (.list (ds.filterMap f)) S) : lcC ds gc t de vs δ S k ⟨⟩ := by
  refine lcOf (fun n acc => acc = (ds.take n).filterMap f) hl rfl ?_ fun acc ha => ?_
  · rintro p hp n d acc hd rfl
    have ht : ds.take (n + 1) = ds.take n ++ [d] := by rw [List.take_add_one, hd]; rfl
    refine hs p _ d _ _ hp (List.mem_of_getElem? hd) (fun y hy => LcO.of hp ?_) (fun hy => LcO.of hp ?_)
    · rw [ht, List.filterMap_append]; simp [hy]
    · rw [ht, List.filterMap_append]; simp [hy]
  · rw [ha, List.take_length]; exact hk
theorem lcSFM {Φ : Sto → Prop} (f : D → Option D) (hl : ds.length < 100000) (hΦ : ∀ p acc, S p = none → Φ (put S p (.lst acc))) (hs : ∀ (p : Addr) (acc : List D) (d : D) (k1 : DK) (k0 : Sto → Prop), S p = none → d ∈ ds → (∀ y, f d = some y → k1 y (put S p (.lst acc))) → (f d = none → k0 (put S p (.lst acc))) →
      gc d (wipeD δ vs) fun δ2 => t δ2 (put S p (.lst acc)) fun b S2 => branch b (de δ2 S2 k1) (k0 S2) ⟨⟩) (hk : k (.list (ds.filterMap f)) S) : lcSC ds Φ gc t de vs δ S k ⟨⟩ := by
  refine lcSOf (fun n acc => acc = (ds.take n).filterMap f) hl hΦ rfl ?_ fun acc ha => ?_
  · rintro p hp n d acc hd rfl
    have ht : ds.take (n + 1) = ds.take n ++ [d] := by rw [List.take_add_one, hd]; rfl
    refine hs p _ d _ _ hp (List.mem_of_getElem? hd) (fun y hy => LcO.of hp ?_) (fun hy => LcO.of hp ?_)
    · rw [ht, List.filterMap_append]; simp [hy]
    · rw [ht, List.filterMap_append]; simp [hy]
  · rw [ha, List.take_length]; exact hk
theorem lcMp (f : D → D) (hl : ds.length < 100000) (hs : ∀ (p : Addr) (acc : List D) (d : D) (k1 : DK) (k0 : Sto → Prop), S p = none → d ∈ ds → k1 (f d) (put S p (.lst acc)) →
      gc d (wipeD δ vs) fun δ2 => t δ2 (put S p (.lst acc)) fun b S2 => branch b (de δ2 S2 k1) (k0 S2) ⟨⟩) (hk : k (.list (ds.map f)) S) : lcC ds gc t de vs δ S k ⟨⟩ :=
  lcFM (fun d => some (f d)) hl (fun p acc d k1 k0 hp hd h1 _ => hs p acc d k1 k0 hp hd (h1 _ rfl)) (by rw [List.filterMap_eq_map']; exact hk)
end
/-! a comprehension whose list will change -/
def dLcN (di : DI) (g : DGc) (t : DT) (de : DE) (vs : List Nat) : DE := fun δ S k => di δ S fun ds S1 => ds.length < 100000 ∧ ∀ p, S1 p = none → ∃ I : Nat → List D → Sto → Prop, I 0 [] S1 ∧
  (∀ n d acc S', ds[n]? = some d → S' p = none → I n acc S' → g d (wipeD δ vs) fun δ2 => t δ2 (put S' p (.lst acc)) fun b S2 => if b = true then de δ2 S2 (fun y S3 => ∃ S4, S4 p = none ∧ S3 = put S4 p (.lst acc) ∧ I (n + 1) (acc ++ [y]) S4) else ∃ S4, S4 p = none ∧ S2 = put S4 p (.lst acc) ∧ I (n + 1) acc S4) ∧
  ∀ acc S', S' p = none → I ds.length acc S' → k (.ref p) (put S' p (.lst acc))
section
variable {X : Cx} {K : PySem.W.Frag} {W : WXD}
theorem l_lcN {di : DI} {g : TG} {gd : DGc} {t : DT} {de : DE} {vs : List Nat} (hg : GcOk K vs g gd) (σ : L2.St) (H : Hp) (Q : VK) : lE K (dLcN di gd t de vs) σ H Q → tLc (lI K di) g (lT K t) (lE K de) vs σ H Q := fun ⟨B, δ, S, k, s, r, h, q⟩ =>
  ⟨B, δ, S, _, s, r, h, fun ds S1 B1 H1 J ⟨hlen, hp⟩ e1 r1 it => fun Dl hD => by
    have fr := (r1.fresh hD).2
    obtain ⟨I, h0, hs, hd⟩ := hp Dl fr
    refine ⟨fun i m H' => m = ds.length - i ∧ i ≤ ds.length ∧ ∃ B2 S2 acc, acc.length ≤ i ∧ S2 Dl = none ∧ Ex B1 B2 ∧ R K B2 (put S2 Dl (.lst acc)) H' ∧ I i acc S2, ⟨ds.length, rfl, Nat.zero_le _, B1, S1, [], Nat.le_refl _, fr, Ex.refl B1, r1.newS hD (.lst .nil), h0⟩, ?_⟩
    rintro i m H' ⟨rfl, hi, B2, S2, acc, hal, n2, e2, r2, hI⟩
    by_cases hlt : i < ds.length
    · refine .inr ⟨it.go i H' (e2.trans r2.ex) hlt, fun H3 => ∃ B3 S3 acc, acc.length ≤ i + 1 ∧ S3 Dl = none ∧ Ex B1 B3 ∧ R K B3 (put S3 Dl (.lst acc)) H3 ∧ I (i + 1) acc S3, fun H3 hn => ⟨ds.length - (i + 1), by omega, rfl, by omega, hn⟩, fun x H3 hy => ?_⟩
      obtain ⟨d, B3, hd', e3, r3, rd⟩ := it.yld i H' x H3 B2 _ e2 r2 hlt hy
      refine hg B3 H3 σ (wipeD δ vs) x d _ _ ((s.mono (e1.trans (e2.trans e3))).wipe vs) r3.ex rd (hs i d acc S2 hd' n2 hI) fun σ2 δ2 hk s2 hw => ⟨hw, ?_⟩
      refine ⟨B3, δ2, _, _, s2, r3, hk, fun b S4 B4 H4 h4 e4 r4 => ?_⟩
      have e14 : Ex B1 B4 := e2.trans (e3.trans e4)
      cases b with
      | false =>
        obtain ⟨S5, n5, rfl, hI5⟩ := h4
        exact ⟨B4, S5, acc, by omega, n5, e14, r4, hI5⟩
      | true =>
        refine ⟨B4, δ2, S4, _, s2.mono e4, r4, h4, fun y S5 v B5 H5 ⟨S6, n6, h6, hI6⟩ e5 r5 d5 => ?_⟩
        subst h6
        obtain ⟨xs, hx, rl⟩ := r5.lst put_same
        have r6 := r5.mut put_same (.lst (rl.append (.one d5)))
        rw [put_put] at r6
        exact ⟨xs, hx, sz_lt (by rw [rl.length]; omega), B5, S6, acc ++ [y], by simp; omega, n6, e14.trans e5, r6, hI6⟩
    · have ei : i = ds.length := by omega
      subst ei
      exact .inl ⟨it.stop _ H' (e2.trans r2.ex) (Nat.le_refl _), q _ _ _ B2 H' (hd acc S2 n2 hI) (e1.trans e2) r2 (.ref Dl)⟩⟩
theorem de_lcN {elt tg iter : Expr} {ifs : List Expr} {scope : Scope} {own : List (Str × Nat)} {pos : Pos} {di : DI} {g : TG} {gd : DGc} {t : DT} {de : DE} (hgc : GcOk K (own.map (·.2)) g gd) (hc : X.calm = true) (hN : X.N.Nodup) (hi : PI X tg iter (lI K di)) (ok : BlkOk X.N X.env.scope scope own)
    (hg : ∀ (s : Shared) (H : Hp) (C : Addr) (cl : List (Str × Addr)) (fp : List Addr), PG (X.blk s H scope (compEnvC scope cl C X.env) fp) tg g) (ht : ∀ (s : Shared) (H : Hp) (C : Addr) (cl : List (Str × Addr)) (fp : List Addr), PTs (X.blk s H scope (compEnvC scope cl C X.env) fp) ifs (lT K t))
    (he : ∀ (s : Shared) (H : Hp) (C : Addr) (cl : List (Str × Addr)) (fp : List Addr), PE (X.blk s H scope (compEnvC scope cl C X.env) fp) elt (lE K de)) (hs : ∀ x, foldedSetIterable iter X.env x = pure x := by intro _; rfl) :
    PE X (.ListComp elt [⟨tg, iter, ifs, 0⟩] scope pos) (lE K (dLcN di gd t de (own.map (·.2)))) := peOf (pe_lc hc hN hi ok hg ht he hs) (l_lcN hgc)
theorem ds_setLcN {i : Nat} {y : Str} {py : Pos} {elt tg iter : Expr} {ifs : List Expr} {scope : Scope} {own : List (Str × Nat)} {pos spos : Pos} {di : DI} {g : TG} {gd : DGc} {t : DT} {de : DE} (hgc : GcOk K (own.map (·.2)) g gd) (hc : X.calm = true) (hN : X.N.Nodup) (hy : X.N[i]? = some y) (hyl : X.env.scope.names.lookup y = some .local)
    (hsw : swapsWith (.ListComp elt [⟨tg, iter, ifs, 0⟩] scope pos) (some (.Name y py)) spos.line X.env = pure true) (hi : PI X tg iter (lI K di)) (ok : BlkOk X.N X.env.scope scope own)
    (hg : ∀ (s : Shared) (H : Hp) (C : Addr) (cl : List (Str × Addr)) (fp : List Addr), PG (X.blk s H scope (compEnvC scope cl C X.env) fp) tg g) (ht : ∀ (s : Shared) (H : Hp) (C : Addr) (cl : List (Str × Addr)) (fp : List Addr), PTs (X.blk s H scope (compEnvC scope cl C X.env) fp) ifs (lT K t))
    (he : ∀ (s : Shared) (H : Hp) (C : Addr) (cl : List (Str × Addr)) (fp : List Addr), PE (X.blk s H scope (compEnvC scope cl C X.env) fp) elt (lE K de)) (hs : ∀ x, foldedSetIterable iter X.env x = pure x := by intro _; rfl) :
    PS X (.Assign [.Name y py] (.ListComp elt [⟨tg, iter, ifs, 0⟩] scope pos) spos) (lS K W (dSet (dLcN di gd t de (own.map (·.2))) i)) := psOf (ps_setLc hc hN hy hyl hsw hi ok hg ht he hs) fun E σ H ⟨B, δ, S, D, s, r, h, l⟩ =>
  l_lcN hgc σ H _ ⟨B, δ, S, _, s, r, h, fun x S1 v B1 H1 h1 e1 r1 d1 => l.nx _ S1 _ B1 H1 h1 e1 ((s.mono e1).set d1 i) r1⟩
end
def lcNC (ds : List D) (g : DGc) (t : DT) (de : DE) (vs : List Nat) (δ : Dst) (S : Sto) (k : DK) (_ : Tag (k, g, t, de)) : Prop := dLcN (fun _ S1 kk => kk ds S1) g t de vs δ S k
section
variable {δ : Dst} {S : Sto} {k : DK} {ds : List D} {gc : DGc} {t : DT} {de : DE} {vs : List Nat} {di : DI}
theorem x_lcN : dLcN di gc t de vs δ S k = di δ S fun ds S1 => lcNC ds gc t de vs δ S1 k ⟨⟩ := propext Iff.rfl
theorem lcNFM (f : D → Option D) (hl : ds.length < 100000) (hs : ∀ (p : Addr) (acc : List D) (d : D) (k1 : DK) (k0 : Sto → Prop), S p = none → d ∈ ds → (∀ y, f d = some y → k1 y (put S p (.lst acc))) → (f d = none → k0 (put S p (.lst acc))) →
      gc d (wipeD δ vs) fun δ2 => t δ2 (put S p (.lst acc)) fun b S2 => branch b (de δ2 S2 k1) (k0 S2) ⟨⟩) (hk : ∀ p, S p = none → k (.ref p) (put S p (.lst (ds.filterMap f)))) : lcNC ds gc t de vs δ S k ⟨⟩ := by
  refine ⟨hl, fun p hp => ⟨fun n acc S' => S' = S ∧ acc = (ds.take n).filterMap f, ⟨rfl, rfl⟩, ?_, ?_⟩⟩
  · rintro n d acc S' hd _ ⟨rfl, rfl⟩
    have ht : ds.take (n + 1) = ds.take n ++ [d] := by rw [List.take_add_one, hd]; rfl
    refine hs p _ d _ _ hp (List.mem_of_getElem? hd) (fun y hy => ⟨_, hp, rfl, rfl, ?_⟩) (fun hy => ⟨_, hp, rfl, rfl, ?_⟩)
    · rw [ht, List.filterMap_append]; simp [hy]
    · rw [ht, List.filterMap_append]; simp [hy]
  · rintro acc S' _ ⟨rfl, rfl⟩
    rw [List.take_length]
    exact hk p hp
end
end DL

set_option Elab.async false
set_option linter.all false
set_option maxRecDepth 100000
set_option maxHeartbeats 1000000
/-! list(reversed(t)), t a tuple -/
namespace LR
open PySem PySem.Spec PyProof.Rows
theorem nolen_rt : typeLookup (.type "reversed") "__len__" = pure none := by rw [typeLookup_type, builtinLookup_eq_fast] <;> kernel_rfl
theorem hint_rt : typeLookup (.type "reversed") "__length_hint__" = pure (some (.builtin "reversed.__length_hint__")) := by rw [typeLookup_type, builtinLookup_eq_fast] <;> kernel_rfl
theorem walks_rt {prog : Program} {w : World} {A : Around} (hh : A.handled = none) (I t : Addr) (hne : t ≠ I) (items : Array Value) (hz : items.size ≤ sizeLine) :
    Walks prog w A I [I, t] [I] items.size (fun i v => items[items.size - 1 - i]? = some v) (fun i h => i ≤ items.size ∧ RT.IsRt h I t ((items.size : Int) - 1 - (i : Int)) ∧ IsTup h t items) where
  sub := fun b hb => List.mem_cons.mpr (.inl (List.mem_singleton.mp hb))
  frame := fun _ _ _ x hk => ⟨x.1, x.2.1.at fun o e => hk I (List.mem_cons_self ..) o e, let ⟨o, e, r⟩ := x.2.2; ⟨o, hk t (List.mem_cons_of_mem _ (List.mem_singleton.mpr rfl)) o e, r⟩⟩
  item := fun i s Q E hi x hQ => by
    have e : (items.size : Int) - 1 - (i : Int) = ((items.size - 1 - i : Nat) : Int) := by omega
    have hx : items[items.size - 1 - i]? = some (items[items.size - 1 - i]'(by omega)) := Array.getElem?_eq_getElem (by omega)
    refine RT.next_rt_item (e ▸ x.2.1) x.2.2 hx hz fun h' st sb => ?_
    refine hQ _ h' (s.toks + 1) hx ⟨hi, ?_, let ⟨o, e, r⟩ := x.2.2; ⟨o, (sb.2 t hne).trans e, r⟩⟩ fun b o hb eo => (sb.2 b (fun z => hb (List.mem_singleton.mpr z))).trans eo
    rw [show (items.size : Int) - 1 - ((i + 1 : Nat) : Int) = ((items.size - 1 - i : Nat) : Int) - 1 by omega]
    exact st
  done := fun s Q E x hQ => by
    have e : (items.size : Int) - 1 - (items.size : Int) = -1 := by omega
    exact RT.next_rt_end hh (e ▸ x.2.1) fun h' eb => hQ h' s.toks fun b o hb eo => eb b o (fun z => hb (List.mem_singleton.mpr z)) eo
  self := fun _ _ _ _ x hQ => RT.iter_rt x.2.1 hQ
section
variable {prog : Program} {w : World} {A : Around} {E : Value → Shared → Prop} {s : Shared}
theorem slot_rt_hint : Slot "reversed" "__length_hint__" "reversed.__length_hint__" :=
  .of (owner := "reversed") (n := "__length_hint__") (by rw [typeLookup_type, builtinLookup_eq_fast] <;> kernel_rfl) (by decide +kernel) (by decide +kernel) (by decide +kernel) (by first | exact .inl (by decide +kernel) | exact .inr (by decide +kernel)) (by rw [isSubtype_type] <;> kernel_rfl)
theorem entry_rt_hint : entryFor table "reversed.__length_hint__" = some Builtin.«reversed.__length_hint__» := entryFor_of_tree (by kernel_rfl)
theorem args_rt_hint (a : Value) : argsOk "reversed.__length_hint__" ⟨[a], []⟩ := by
  unfold argsOk
  rw [signature?_of (id := "reversed.__length_hint__") (n := "__tnih_htgnel__".toList) (o := "desrever".toList) (by kernel_rfl) RT.owner_rt] <;> kernel_rfl
theorem type_rt_hint : typeOf (.builtin "reversed.__length_hint__") = pure (.type "method_descriptor") := by kernel_rfl
theorem hint_call {it l : Addr} {items : Array Value} {Q : Value → Shared → Prop} (hi : RT.IsRt s.heap it l ((items.size : Int) - 1)) (hl : IsTup s.heap l items) (hn : items.size ≤ sizeLine)
    (h : ∀ tk t, Q (.int (items.size : Int) tk) { s with toks := t }) : wpAny (model prog w) A (call (.builtin "reversed.__length_hint__") [.ref it]) Q E s := by
  have h63 := L2.line63
  refine wpAny_call_entry slot_rt_hint hi.typeIs entry_rt_hint ?_ (args_rt_hint _)
  obtain ⟨o, ho, hc, hd⟩ := hi
  unfold Builtin.«reversed.__length_hint__»
  refine wpAny_bind (wpAny_of_eq (a := Value.ref it) rfl ?_)
  refine wpAny_bind (wpAny_field ho hd (x := .ref l) rfl ?_)
  rw [if_neg (show ¬ ((Value.ref l == Value.none) = true) from Bool.false_ne_true)]
  refine wpAny_bind (len_tuple hl (by omega) ?_)
  refine wpAny_bind (wpAny_of_eq (a := some (items.size : Int)) rfl ?_)
  refine wpAny_bind (wpAny_field (s := { s with toks := s.toks + 1 + 1 }) ho hd (x := rawInt ((items.size : Int) - 1)) rfl ?_)
  show wpAny _ _ (if (items.size : Int) < (items.size : Int) - 1 + 1 then _ else _) _ _ _
  rw [if_neg (by omega)]
  refine wpAny_bind (wpAny_mkInt (wpAny_pure ⟨_, rfl, ?_⟩))
  rw [show (items.size : Int) - 1 + 1 = (items.size : Int) by omega]
  exact h _ _
theorem hint_c {it l : Addr} {items : Array Value} {Q : Bool → Shared → Prop} (hi : RT.IsRt s.heap it l ((items.size : Int) - 1)) (hl : IsTup s.heap l items) (hn : items.size ≤ sizeLine)
    (h : ∀ t, Q ((items.size : Int) != 0) { s with toks := t }) : wpAny (model prog w) A (Builtin.List.listLengthHint (.ref it)) Q E s := by
  have ty := hi.typeIs
  have h63 := L2.line63
  unfold Builtin.List.listLengthHint
  refine wpAny_bind (wpAny_specialOf ty nolen_rt ?_)
  show wpAny _ A (specialOf (Value.ref it) (Str.ofString "__length_hint__") >>= _) _ _ _
  refine wpAny_bind (wpAny_specialOf ty hint_rt ?_)
  generalize hnm : ("reversed.__length_hint__" : String) = nm
  wp_delta
  rw [show splitId nm = some ("reversed", "__length_hint__") from by subst hnm; decide +kernel]
  subst hnm
  refine wpAny_bind (wpAny_isInstance (b := true) ty (by rw [isSubtype_type] <;> kernel_rfl) ?_)
  rw [if_neg (by decide)]
  refine wpAny_bind (wpAny_rule ?_)
  refine wpAny_bind ?_
  unfold bindSpecial
  refine wpAny_bind (wpAny_of_eq type_rt_hint ?_)
  rw [if_pos (by decide)]
  refine wpAny_pure ?_
  refine wpAny_bind (wpAny_attempt (hint_call hi hl hn fun tk t => ?_))
  have ea : asInt? (Value.int (items.size : Int) tk) = pure (some (items.size : Int)) := rfl
  have f1 : Builtin.List.listFitsIndex (items.size : Int) = true := by
    unfold Builtin.List.listFitsIndex
    simp only [Bool.and_eq_true, decide_eq_true_eq]
    omega
  have f2 : Builtin.List.listTooLong (items.size : Int).toNat = false := by rw [Int.toNat_natCast]; exact L2.notLongL hn
  have h0 : ¬ (items.size : Int) < 0 := by omega
  dsimp only
  generalize Builtin.List.listFitsIndex = Fx at f1 ⊢
  generalize Builtin.List.listTooLong = Gx at f2 ⊢
  generalize (items.size : Int) = z at ea f1 f2 h h0 ⊢
  refine wpAny_bind (wpAny_of_eq ea ?_)
  dsimp only
  rw [if_neg (by rw [f1]; exact Bool.false_ne_true), if_neg h0, if_neg (by rw [f2]; exact Bool.false_ne_true)]
  exact wpAny_pure (h t)
theorem list_revT {it l : Addr} {items : Array Value} {Q : Value → Shared → Prop} (hh : A.handled = none) (hi : RT.IsRt s.heap it l ((items.size : Int) - 1)) (hl : IsTup s.heap l items) (hne : l ≠ it) (hn : items.size ≤ sizeLine)
    (h : ∀ (h' : Heap) (tk : Nat) (acc : Array Value) (c : Nat), (∀ b o, b ≠ it → s.heap.get? b = some o → h'.get? b = some o) → h'.get? s.heap.objs.size = some { cls := .type "list", dict := none, data := .seq acc c, slots := #[] } →
      ItemsOf (fun i v => items[items.size - 1 - i]? = some v) acc items.size → Q (.ref s.heap.objs.size) { s with heap := h', toks := tk }) :
    wpAny (model prog w) A (call (.type "list") [.ref it]) Q E s := by
  refine callType_codes (Q₁ := fun x s1 => x = .ref s.heap.objs.size ∧ s1 = { s with heap := s.heap.push { cls := .type "list", data := .seq #[] } }) PySem.F.called_list (PySem.F.typeCall_list_1 _) PySem.F.entry_list_init (code_list_new _ ⟨rfl, rfl⟩) ?_
  rintro x s1 ⟨rfl, rfl⟩
  have n1 : (s.heap.push { cls := .type "list", data := .seq #[] }).get? s.heap.objs.size = some { cls := .type "list", data := .seq #[] } := Heap.get?_push_size _ rfl
  refine ⟨⟨_, n1, rfl⟩, PySem.F.args_list_init_2 _ _, ?_⟩
  show wpAny _ A.in1.in1 (do let old ← Builtin.List.listItems (.ref s.heap.objs.size); Builtin.List.listUpdate (.ref s.heap.objs.size) (fun _ => #[]); letGo old.toList.reverse; Builtin.List.listExtendWith (.ref s.heap.objs.size) (.ref it) .none) _ _ _
  refine wpAny_bind ?_
  unfold Builtin.List.listItems
  refine wpAny_bind (wpAny_seqItems n1 rfl (wpAny_pure ?_))
  refine wpAny_bind (show wpAny _ A.in1.in1 (updateSeq s.heap.objs.size (fun _ => #[])) _ _ _ from wpAny_updateSeq n1 rfl ?_)
  refine wpAny_bind (wpAny_letGo ?_)
  have n2 := Heap.get?_update_self (Obj.mapSeq (fun _ => (#[] : Array Value))) n1 rfl
  have hil : it < s.heap.objs.size := let ⟨o, e, _⟩ := hi; Heap.lt_size e
  have hll : l < s.heap.objs.size := let ⟨o, e, _⟩ := hl; Heap.lt_size e
  have keep : ∀ b o, s.heap.get? b = some o → ((s.heap.push { cls := .type "list", data := .seq #[] }).update s.heap.objs.size (Obj.mapSeq (fun _ => (#[] : Array Value)))).get? b = some o := fun b o e =>
    (Heap.get?_update_other _ _ (Nat.ne_of_gt (Heap.lt_size e))).trans (Heap.get?_push_of_some _ e)
  have hi2 := hi.at fun o e => keep it o e
  have hl2 := (show ∀ {h h' : Heap}, IsTup h l items → (∀ o, h.get? l = some o → h'.get? l = some o) → IsTup h' l items from fun x k => let ⟨o, e, r⟩ := x; ⟨o, k o e, r⟩) hl fun o e => keep l o e
  have hd2 : Obj.mapSeq (fun _ => (#[] : Array Value)) { cls := .type "list", data := .seq #[] } = { cls := .type "list", data := .seq #[] } := rfl
  rw [hd2] at n2
  clear n1
  generalize (s.heap.push { cls := .type "list", data := .seq #[] }).update s.heap.objs.size (Obj.mapSeq (fun _ => (#[] : Array Value))) = h2 at n2 keep hi2 hl2
  have ty : ({ s with heap := h2 } : Shared).TypeIs (.ref it) "reversed" := RT.IsRt.typeIs (s := { s with heap := h2 }) hi2
  have sr : Builtin.List.listSameRef (.ref s.heap.objs.size) (.ref it) = false := by simp [Builtin.List.listSameRef, Nat.ne_of_gt hil]
  unfold Builtin.List.listExtendWith
  refine wpAny_bind (wpAny_typeOf ty ?_)
  rw [if_neg (by rw [sr]; decide)]
  refine wpAny_bind (RT.iter_rt (s := { s with heap := h2 }) hi2 (wpAny_bind (wpAny_holding ?_)))
  refine hint_c (s := { s with heap := h2 }) hi2 hl2 hn fun tk => ?_
  have z0 : ((items.size : Nat) : Int) - 1 - ((0 : Nat) : Int) = (items.size : Int) - 1 := by omega
  have W := (walks_rt (prog := prog) (w := w) (A := A.in1.in1) hh it l hne items hn).toS
  obtain ⟨c2, n2⟩ : ∃ c2, h2.get? s.heap.objs.size = some { cls := .type "list", dict := none, data := .seq #[] c2, slots := #[] } := ⟨_, n2⟩
  by_cases hz : items.size = 0
  case' pos =>
    rw [show ((items.size : Int) != 0) = false by simp [hz]]
    rw [if_neg (by decide +kernel)]
  case' neg =>
    rw [show ((items.size : Int) != 0) = true by simp [hz]]
    rw [if_pos (Bool.true_or _)]
    refine wpAny_bind (wpAny_rule ?_)
    unfold Builtin.List.listTouch
    refine wpAny_bind ?_
    refine wpAny_bind (show wpAny _ A.in1.in1 (updateSeq s.heap.objs.size (fun x => x.push .none)) _ _ _ from wpAny_updateSeq (s := { s with heap := h2, toks := tk }) n2 rfl ?_)
    have n3 := Heap.get?_update_self (Obj.mapSeq (fun x : Array Value => x.push .none)) n2 rfl
    refine (show wpAny _ A.in1.in1 (updateSeq s.heap.objs.size (fun x => x.pop)) _ _ _ from wpAny_updateSeq (s := { s with heap := h2.update s.heap.objs.size (Obj.mapSeq (fun x : Array Value => x.push .none)), toks := tk }) n3 rfl ?_)
    have n4 := Heap.get?_update_self (Obj.mapSeq (fun x : Array Value => x.pop)) n3 rfl
    have k4 : ∀ b o, b ≠ s.heap.objs.size → h2.get? b = some o → ((h2.update s.heap.objs.size (Obj.mapSeq (fun x : Array Value => x.push .none))).update s.heap.objs.size (Obj.mapSeq (fun x : Array Value => x.pop))).get? b = some o := fun b o hb e => (Heap.get?_update_other _ _ (Ne.symm hb)).trans ((Heap.get?_update_other _ _ (Ne.symm hb)).trans e)
    replace hi2 := hi2.at fun o e => k4 it o (Nat.ne_of_lt hil) e
    replace hl2 : IsTup _ l items := let ⟨o, e, r⟩ := hl2; ⟨o, k4 l o (Nat.ne_of_lt hll) e, r⟩
    replace keep := fun b o e => k4 b o (Nat.ne_of_lt (Heap.lt_size e)) (keep b o e)
    clear n2 n3 k4
    obtain ⟨c2, n2⟩ : ∃ c2, ((h2.update s.heap.objs.size (Obj.mapSeq (fun x : Array Value => x.push .none))).update s.heap.objs.size (Obj.mapSeq (fun x : Array Value => x.pop))).get? s.heap.objs.size = some { cls := .type "list", dict := none, data := .seq #[] c2, slots := #[] } := ⟨_, n4⟩
    clear n4
    generalize (h2.update s.heap.objs.size (Obj.mapSeq (fun x : Array Value => x.push .none))).update s.heap.objs.size (Obj.mapSeq (fun x : Array Value => x.pop)) = h4 at n2 keep hi2 hl2
  all_goals
    refine wpAny_pure ⟨plainId_quiet PySem.F.plain_extend_loop _, codeAny_extend_loopS W hn _ (fun q => ?_) _ items.size 0 _ _ _ rfl (Nat.zero_le _) ⟨Nat.zero_le _, by rw [z0]; exact hi2, hl2⟩ n2 (ItemsOf.nil _) fun s' acc c hm at' hacc => ?_⟩
    · rcases List.mem_cons.mp q with q | q
      · exact absurd q (Nat.ne_of_gt hil)
      · exact absurd (List.mem_singleton.mp q) (Nat.ne_of_gt hll)
    · refine ⟨rfl, ?_⟩
      rw [Moved.eq_with hm]
      refine h s'.heap s'.toks acc c (fun b o hb e => hm.heap b o (fun q => ?_) (keep b o e)) at' hacc
      rcases List.mem_cons.mp q with q | q
      · exact absurd q (Nat.ne_of_lt (Heap.lt_size e))
      · exact hb (List.mem_singleton.mp q)
end
end LR
namespace L2
open PySem PySem.Spec PyProof.Rows
def tListRevT (K : PySem.W.Frag) (te : TE) : TE := fun σ H Q => te σ H fun v H1 => ∃ (a : Addr) (xs : List V), v = .ref a ∧ SqT K H1 a xs ∧ ∀ q, H1 q = none → Q (.ref q) (upd H1 q (.lst xs.reverse))
theorem peListRevT {X : Cx} {K : PySem.W.Frag} {e : Expr} {te : TE} {p p2 pos pos2 : Pos} (hc : X.calm = true) (hg : Gl X "list") (hm : X.mg "list" = none) (hg2 : Gl X "reversed") (hm2 : X.mg "reversed" = none) (he : PE X e te)
    (hs : starEach [e] X.env = (false, eval e X.env) :: starEach [] X.env := by rfl)
    (hs2 : starEach [.Call (.Name "reversed" p2) [e] [] pos2] X.env = (false, eval (.Call (.Name "reversed" p2) [e] [] pos2) X.env) :: starEach [] X.env := by rfl) (hK : X.K = K := by rfl) :
    PE X (.Call (.Name "list" p) [.Call (.Name "reversed" p2) [e] [] pos2] [] pos) (tListRevT K te) := by
  subst hK
  refine ⟨fun pins s σ H Q I h => Call_ (ld_blt I hg hm (show bootBuiltins "list" = some (.type "list") by decide +kernel) (PyProof.Rows.callWith_type1 (args_cons (Call_ (ld_blt I hg2 hm2 PyProof.Rows.boot_reversed (PyProof.Rows.callWith_type1 (args_cons (thn (he.run pins s σ H _ I h) fun u s1 ⟨v, H1, I1, r1, a, xs, ev, hq, q⟩ => args_nil ?_) hs) hs rfl))) hs2) hs2 rfl))⟩
  subst ev
  obtain rfl : u = Value.ref a := r1
  obtain ⟨its, rv, pl, hz⟩ := I1.tuple hq
  have hl : IsTup s1.heap a its.toArray := pl
  have hlt : a < s1.heap.objs.size := let ⟨_, e, _⟩ := hl; Heap.lt_size e
  have hn := line63
  refine RT.call_reversed_tup hl (fun A E Q k => len_tuple hl (by have := rv.length; simp only [List.size_toArray]; omega) k) (args_nil ?_)
  have I2 : Inv X pins σ H1 { s1 with heap := s1.heap.push (RT.rtObj a ((its.toArray.size : Int) - 1)), toks := s1.toks + 1 + 1 } := I1.kept (t' := s1.toks + 1 + 1) fun b o e => Heap.get?_push_of_some _ e
  have fp : FpOk X pins H1 s1.heap.objs.size := I1.fpOk (Nat.le_refl _) (I1.hok.fresh (Nat.le_refl _))
  refine LR.list_revT (s := { s1 with heap := s1.heap.push (RT.rtObj a ((its.toArray.size : Int) - 1)), toks := s1.toks + 1 + 1 }) (I1.ok.hd hc) ⟨_, Heap.get?_push_size _ rfl, rfl, rfl⟩ (by obtain ⟨o, e, r⟩ := hl; exact ⟨o, Heap.get?_push_of_some _ e, r⟩) (Nat.ne_of_lt hlt) (by rw [List.size_toArray, ← rv.length]; exact hz) fun h' tk acc c hk at' hi => ?_
  have new : ObjOk X.prog X.w (upd H1 (s1.heap.push (RT.rtObj a ((its.toArray.size : Int) - 1))).objs.size (.lst xs.reverse)) h' (s1.heap.push (RT.rtObj a ((its.toArray.size : Int) - 1))).objs.size (.lst xs.reverse) :=
    ⟨by rw [List.length_reverse]; exact hz, acc.toList, c, RT.vals_rev rv hi, by rw [Array.toArray_toList]; exact at'⟩
  refine ⟨.ref _, _, I2.turnedNew (t' := tk) (ch := [s1.heap.objs.size]) (fun b o hb e => hk b o (fun q => hb (by rw [q]; exact List.mem_singleton.mpr rfl)) e) (fun b hb => by rw [List.mem_singleton.mp hb]; exact fp) (Nat.le_refl _) new, rfl, q _ (I2.hok.fresh (Nat.le_refl _))⟩
end L2
namespace DL
open PySem L2 Evl EX
/-- list(reversed(x)): a list of one's own, or data -/

def dLRNT (de : DE) : DE := fun δ S k => de δ S fun x S1 => ∃ ds, x = .tup ds ∧ ∀ p, S1 p = none → k (.ref p) (put S1 p (.lst ds.reverse))
def dLR (de : DE) : DE := fun δ S k => de δ S fun x S1 => ∃ ds, x = .list ds ∧ k (.list ds.reverse) S1
section
variable {X : Cx} {K : PySem.W.Frag} {e : Expr} {de : DE} {p p2 pos pos2 : Pos}
theorem de_listRev (hc : X.calm = true) (hg : Gl X "list") (hm : X.mg "list" = none) (hg2 : Gl X "reversed") (hm2 : X.mg "reversed" = none) (he : PE X e (lE K de))
    (hs : starEach [e] X.env = (false, eval e X.env) :: starEach [] X.env := by rfl)
    (hs2 : starEach [.Call (.Name "reversed" p2) [e] [] pos2] X.env = (false, eval (.Call (.Name "reversed" p2) [e] [] pos2) X.env) :: starEach [] X.env := by rfl) (hK : X.K = K := by rfl) :
    PE X (.Call (.Name "list" p) [.Call (.Name "reversed" p2) [e] [] pos2] [] pos) (lE K (dLR de)) :=
  peOf (peListRev hc hg hm hg2 hm2 he hs hs2 hK) fun σ H Q ⟨B, δ, S, k, s, r, h, q⟩ => ⟨B, δ, S, _, s, r, h, fun x S1 v B1 H1 ⟨ds, hx, h1⟩ e1 r1 d1 => by
    subst hx
    obtain ⟨a, xs, rfl, ha, rl⟩ := rd_list d1
    refine ⟨a, xs, rfl, sq_of (r1.ex _ _ ha), fun z hz => ?_⟩
    have n := r1.new (o := .lst xs.reverse) hz
    exact q _ S1 _ _ _ h1 (e1.trans n.2) n.1 (.lst upd_same (rl.rev.mono n.2))⟩
theorem de_listRevN (hc : X.calm = true) (hg : Gl X "list") (hm : X.mg "list" = none) (hg2 : Gl X "reversed") (hm2 : X.mg "reversed" = none) (he : PE X e (lE K de))
    (hs : starEach [e] X.env = (false, eval e X.env) :: starEach [] X.env := by rfl)
    (hs2 : starEach [.Call (.Name "reversed" p2) [e] [] pos2] X.env = (false, eval (.Call (.Name "reversed" p2) [e] [] pos2) X.env) :: starEach [] X.env := by rfl) (hK : X.K = K := by rfl) :
    PE X (.Call (.Name "list" p) [.Call (.Name "reversed" p2) [e] [] pos2] [] pos) (lE K (dLRNT de)) :=
  peOf (peListRevT hc hg hm hg2 hm2 he hs hs2 hK) fun σ H Q ⟨B, δ, S, k, s, r, h, q⟩ => ⟨B, δ, S, _, s, r, h, fun x S1 v B1 H1 ⟨ds, hx, h1⟩ e1 r1 d1 => by
    subst hx
    obtain ⟨a, xs, rfl, ha, rl⟩ := rd_tup d1
    exact ⟨a, xs, rfl, ex_t r1.ex ha, fun z hz => q _ _ _ B1 _ (h1 z (r1.fresh hz).2) e1 (r1.newS hz (.lst rl.rev)) (.ref z)⟩⟩
end
def lrq (x : D) (S : Sto) (k : DK) (_ : Tag k) : Prop := ∃ ds, x = .list ds ∧ k (.list ds.reverse) S
def lrTq (x : D) (S : Sto) (k : DK) (_ : Tag k) : Prop := ∃ ds, x = .tup ds ∧ ∀ p, S p = none → k (.ref p) (put S p (.lst ds.reverse))
section
variable {de : DE} {δ : Dst} {S : Sto} {k : DK} {ds : List D}
theorem x_lr : dLR de δ S k = de δ S fun x S1 => lrq x S1 k ⟨⟩ := propext Iff.rfl
theorem x_lrT : dLRNT de δ S k = de δ S fun x S1 => lrTq x S1 k ⟨⟩ := propext Iff.rfl
theorem lrOf (q : k (.list ds.reverse) S) : lrq (.list ds) S k ⟨⟩ := ⟨ds, rfl, q⟩
theorem lrTOf (q : ∀ p, S p = none → k (.ref p) (put S p (.lst ds.reverse))) : lrTq (.tup ds) S k ⟨⟩ := ⟨ds, rfl, q⟩
end
end DL

set_option Elab.async false
set_option linter.all false
set_option maxRecDepth 100000
namespace NM
open PySem L2 DL
theorem str_eq (a b : String) : (Str.ofString a = Str.ofString b) = (a = b) := by
  refine propext ⟨fun h => ?_, fun h => by rw [h]⟩
  rw [Str.ofString_eq_toList, Str.ofString_eq_toList] at h
  injection h with h
  have h1 := congrArg Array.toList h
  simp only [List.toList_toArray] at h1
  have h2 : ∀ l m : List Char, l.map Char.toNat = m.map Char.toNat → l = m := by
    intro l
    induction l with
    | nil => intro m hm; cases m with
      | nil => rfl
      | cons c m => cases hm
    | cons c l ih => intro m hm; cases m with
      | nil => cases hm
      | cons d m =>
        rw [List.map_cons, List.map_cons] at hm
        injection hm with e1 e2
        rw [ih m e2]
        congr 1
        exact Char.toNat_inj.mp e1
  exact String.toList_inj.mp (h2 _ _ h1)
end NM
namespace DL
open PySem L2 Evl EX
/-- a new list that was told, from now on data -/
def dFrzE (de : DE) : DE := fun δ S k => de δ S fun x S1 => frzq x S1 k ⟨⟩
theorem de_frzE {X : Cx} {K : PySem.W.Frag} {e : Expr} {de : DE} (h : PE X e (lE K de)) : PE X e (lE K (dFrzE de)) := peOf h fun σ H Q ⟨B, δ, S, k, sl, r, d, q⟩ =>
  ⟨B, δ, S, fun x S1 => frzq x S1 k ⟨⟩, sl, r, d, fun x S' v B' H' hx ex r' rv => by
    obtain ⟨a, ds, rfl, hS, hk⟩ := hx
    obtain ⟨B2, e2, r2, rd⟩ := r'.freeze hS
    cases rd_ref rv
    exact q _ _ _ B2 H' hk (ex.trans e2) r2 rd⟩
theorem x_frzE {de : DE} {δ : Dst} {S : Sto} {k : DK} : dFrzE de δ S k = de δ S fun x S1 => frzq x S1 k ⟨⟩ := propext Iff.rfl
end DL

set_option Elab.async false
set_option linter.all false
set_option maxRecDepth 100000
/-! rows parted into pieces, as a function of the row's signs -/
namespace TK
open PySem L2 PC
abbrev mk (l : List Nat) : Str := ⟨l.toArray⟩
theorem mk_cps (l : List Nat) : (mk l).cps.toList = l := by simp [mk]
theorem mk_len (l : List Nat) : (mk l).length = l.length := by rw [K.len_cps, mk_cps]
theorem mk_of {s : Str} {l : List Nat} (h : s.cps.toList = l) : s = mk l := K.str_ext (by rw [h, mk_cps])
def numPc (l : List Nat) : Option Pc :=
  if 9 < l.length ∨ ¬ (∀ c ∈ l, c ∈ FGl) then none
  else if l.head? = some 48 ∧ l ≠ [48] then none
  else some (.num (NumText.digitsVal l))
def runPc (l : List Nat) : Option Pc :=
  if l.headD 0 ∈ FGl then numPc l
  else if mk l ∈ WDs then some (.word (mk l))
  else if 12 < l.length then none
  else some (.name (mk l))
/-- the piece that stands ahead, and what is behind it -/
def pieceAt : List Nat → Option (Pc × List Nat)
  | [] => none
  | c :: r =>
    if rc c = true then (runPc ((c :: r).takeWhile rc)).map fun p => (p, (c :: r).dropWhile rc)
    else if c = 34 then (if 34 ∈ r ∧ (r.takeWhile (· != 34)).length ≤ 40 then some (.text (mk (r.takeWhile (· != 34))), (r.dropWhile (· != 34)).tail) else none)
    else if c = 61 ∧ r.head? = some 61 then some (.sign "==", r.tail)
    else if c ∈ SGl then some (.sign (mk [c]), r)
    else none
theorem pieceAt_eq (c : Nat) (r : List Nat) : pieceAt (c :: r) =
    if rc c = true then (runPc ((c :: r).takeWhile rc)).map fun p => (p, (c :: r).dropWhile rc)
    else if c = 34 then (if 34 ∈ r ∧ (r.takeWhile (· != 34)).length ≤ 40 then some (.text (mk (r.takeWhile (· != 34))), (r.dropWhile (· != 34)).tail) else none)
    else if c = 61 ∧ r.head? = some 61 then some (.sign "==", r.tail)
    else if c ∈ SGl then some (.sign (mk [c]), r)
    else none := rfl
theorem dw_len {q : Nat → Bool} : ∀ l : List Nat, (l.takeWhile q).length + (l.dropWhile q).length = l.length := fun l => by
  rw [← List.length_append, List.takeWhile_append_dropWhile]
theorem pieceAt_lt {l rest : List Nat} {p : Pc} (h : pieceAt l = some (p, rest)) : rest.length < l.length := by
  unfold pieceAt at h
  split at h
  · cases h
  · rename_i c r
    split at h
    · rename_i hc
      cases hp : runPc ((c :: r).takeWhile rc) with
      | none => rw [hp] at h; cases h
      | some p' =>
        rw [hp] at h
        cases h
        have := dw_len (q := rc) (c :: r)
        rw [List.takeWhile_cons, hc, if_pos rfl] at this
        simp only [List.length_cons] at this ⊢
        omega
    · split at h
      · split at h
        · cases h
          have := dw_len (q := (· != 34)) r
          rw [List.length_tail, List.length_cons]
          omega
        · cases h
      · split at h
        · cases h
          rw [List.length_tail, List.length_cons]
          omega
        · split at h
          · cases h
            rw [List.length_cons]; omega
          · cases h
theorem mem_tw {q : Nat → Bool} {x : Nat} : ∀ {l : List Nat}, x ∈ l.takeWhile q → q x = true
  | [], h => by cases h
  | c :: r, h => by
    rw [List.takeWhile_cons] at h
    split at h
    · rename_i hc
      rcases List.mem_cons.mp h with rfl | h
      · exact hc
      · exact mem_tw h
    · cases h
theorem split34 {l : List Nat} (h : 34 ∈ l) : l = l.takeWhile (· != 34) ++ 34 :: (l.dropWhile (· != 34)).tail ∧ 34 ∉ l.takeWhile (· != 34) := by
  have e := List.takeWhile_append_dropWhile (p := (· != 34)) (l := l)
  have hn : 34 ∉ l.takeWhile (· != 34) := fun z => by
    have := mem_tw z
    simp at this
  refine ⟨?_, hn⟩
  cases hd : l.dropWhile (· != 34) with
  | nil =>
    rw [hd, List.append_nil] at e
    exact absurd (by rw [e]; exact h) hn
  | cons x r =>
    have hx : ¬ (x != 34) = true := by
      have := List.head?_dropWhile_not (· != 34) l
      rw [hd] at this
      simpa using this
    have : x = 34 := by simpa using hx
    subst this
    rw [hd] at e
    exact e.symm
theorem pieceAt_suf {l rest : List Nat} {p : Pc} (h : pieceAt l = some (p, rest)) : ∃ pre, l = pre ++ rest := by
  unfold pieceAt at h
  split at h
  · cases h
  · rename_i c r
    split at h
    · cases hp : runPc ((c :: r).takeWhile rc) with
      | none => rw [hp] at h; cases h
      | some p' =>
        rw [hp] at h
        cases h
        exact ⟨_, (List.takeWhile_append_dropWhile).symm⟩
    · split at h
      · split at h
        · rename_i h3
          cases h
          have := (split34 h3.1).1
          exact ⟨c :: (r.takeWhile (· != 34) ++ [34]), by rw [List.cons_append, List.append_assoc]; exact congrArg (c :: ·) this⟩
        · cases h
      · split at h
        · rename_i h3
          cases h
          cases r with
          | nil => exact absurd h3.2 nofun
          | cons d r => exact ⟨[c, d], rfl⟩
        · split at h
          · cases h; exact ⟨[c], rfl⟩
          · cases h
theorem pieceAt_drop {l rest : List Nat} {p : Pc} (h : pieceAt l = some (p, rest)) : rest = l.drop (l.length - rest.length) := by
  obtain ⟨pre, e⟩ := pieceAt_suf h
  rw [e, List.length_append, Nat.add_sub_cancel, List.drop_left']
  rfl
def tokN : Nat → List Nat → Option (List Pc)
  | _, [] => some []
  | 0, _ :: _ => none
  | n + 1, c :: r => if c = 32 then tokN n r else match pieceAt (c :: r) with
    | none => none
    | some (p, rest) => (tokN n rest).map (p :: ·)
def tokF (l : List Nat) : Option (List Pc) := tokN l.length l
theorem tokN_eq : ∀ (m n : Nat) (l : List Nat), l.length ≤ m → l.length ≤ n → tokN m l = tokN n l
  | _, _, [], _, _ => by rw [tokN, tokN]
  | 0, _, _ :: _, h, _ => by simp at h
  | _, 0, _ :: _, _, h => by simp at h
  | m + 1, n + 1, c :: r, h1, h2 => by
    rw [List.length_cons] at h1 h2
    rw [tokN, tokN]
    split
    · exact tokN_eq m n r (by omega) (by omega)
    · cases hp : pieceAt (c :: r) with
      | none => rfl
      | some x =>
        obtain ⟨p, rest⟩ := x
        have := pieceAt_lt hp
        rw [List.length_cons] at this
        dsimp only
        rw [tokN_eq m n rest (by omega) (by omega)]
theorem tokF_nil : tokF [] = some [] := rfl
theorem tokF_blank (r : List Nat) : tokF (32 :: r) = tokF r := by
  show tokN (r.length + 1) (32 :: r) = _
  rw [tokN, if_pos rfl]
  rfl
theorem tokF_cons {c : Nat} {r : List Nat} (h : c ≠ 32) : tokF (c :: r) = match pieceAt (c :: r) with
    | none => none
    | some (p, rest) => (tokF rest).map (p :: ·) := by
  show tokN (r.length + 1) (c :: r) = _
  rw [tokN, if_neg h]
  cases hp : pieceAt (c :: r) with
  | none => rfl
  | some x =>
    obtain ⟨p, rest⟩ := x
    have := pieceAt_lt hp
    rw [List.length_cons] at this
    dsimp only
    rw [tokN_eq r.length rest.length rest (by omega) (Nat.le_refl _)]
    rfl
def blanksN (l : List Nat) : Nat := (l.takeWhile (· == 32)).length
/-- what pieces_of tells, or none -/
def piecesF (l : List Nat) : Option (Nat × List Pc) := match tokF l with
  | some (p :: ps) => some (blanksN l, p :: ps)
  | _ => none
/-- a row that is laid of pieces tells these -/
theorem runPc_ok {p : Pc} (h : p.ok) (hr : p.isRun = true) : runPc p.txt = some p := by
  cases p with
  | name s =>
    obtain ⟨h1, h2, h3, h4, h5⟩ := h
    show runPc s.cps.toList = _
    have hm : mk s.cps.toList = s := (mk_of rfl).symm
    unfold runPc
    have hh : s.cps.toList.headD 0 ∉ FGl := by
      cases hs : s.cps.toList with
      | nil => exact absurd hs h1
      | cons c r => exact lt_not_fg c (h2 c (by rw [hs]; rfl))
    rw [if_neg hh, hm, if_neg h5, if_neg (by rw [← K.len_cps]; omega)]
  | word s =>
    obtain ⟨h1, h2, h3⟩ := words_fact s h
    show runPc s.cps.toList = _
    have hm : mk s.cps.toList = s := (mk_of rfl).symm
    unfold runPc
    have hh : s.cps.toList.headD 0 ∉ FGl := by
      cases hs : s.cps.toList with
      | nil => exact absurd hs h1
      | cons c r => exact lt_not_fg c (h2 c (by rw [hs]; exact List.mem_cons_self))
    rw [if_neg hh, hm, if_pos (show s ∈ WDs from h)]
  | num n =>
    show runPc (TL.numL n) = _
    have hd := TL.numL_digits n
    have hne := TL.numL_ne n
    have hfg : ∀ c ∈ TL.numL n, c ∈ FGl := fun c hc => fg_of (hd c hc).1 (hd c hc).2
    unfold runPc
    rw [if_pos (by
      cases hs : TL.numL n with
      | nil => exact absurd hs hne
      | cons c r => exact hfg c (by rw [hs]; exact List.mem_cons_self))]
    unfold numPc
    have hl : (TL.numL n).length ≤ 9 := TL.numL_len (k := 9) (by decide) h
    rw [if_neg (fun z => z.elim (fun z => by omega) fun z => z hfg)]
    rw [if_neg (fun z => ?_), TL.numL_val]
    have := K.numL_head n z.1
    rw [this] at z
    exact z.2 (by decide +kernel)
  | text s => cases hr
  | sign s => cases hr
theorem pieceAt_ok {p : Pc} {rest : List Nat} (h : p.ok) (hb : Bnd p rest) : pieceAt (p.txt ++ rest) = some (p, rest) := by
  have hrl := Pc.run_len h hb
  cases hr : p.isRun with
  | true =>
    rw [hr, if_pos rfl] at hrl
    cases ht : p.txt with
    | nil => exact absurd ht (p.txt_ne h)
    | cons c r =>
      have hc := p.run_all h hr c (by rw [ht]; exact List.mem_cons_self)
      have h2 : (p.txt ++ rest).dropWhile rc = rest := by
        have := List.takeWhile_append_dropWhile (p := rc) (l := p.txt ++ rest)
        rw [hrl] at this
        exact List.append_cancel_left this
      rw [ht] at hrl h2
      have hx : runPc (c :: r) = some p := by rw [← ht]; exact runPc_ok h hr
      show pieceAt (c :: (r ++ rest)) = _
      have hrl : (c :: (r ++ rest)).takeWhile rc = c :: r := hrl
      have h2 : (c :: (r ++ rest)).dropWhile rc = rest := h2
      rw [pieceAt_eq, if_pos hc, hrl, h2, hx]
      rfl
  | false =>
    cases p with
    | name s => cases hr
    | word s => cases hr
    | num n => cases hr
    | text s =>
      show pieceAt (34 :: (s.cps.toList ++ [34]) ++ rest) = _
      rw [List.cons_append, List.append_assoc]
      have ht : (s.cps.toList ++ ([34] ++ rest)).takeWhile (· != 34) = s.cps.toList := takeWhile_run (fun c hc => by
        rw [bne_iff_ne]; exact fun z => h.2.1 (by rw [← z]; exact hc)) (fun c hc => by cases hc; rfl)
      have hd : (s.cps.toList ++ ([34] ++ rest)).dropWhile (· != 34) = 34 :: rest := by
        have := List.takeWhile_append_dropWhile (p := (· != 34)) (l := s.cps.toList ++ ([34] ++ rest))
        rw [ht] at this
        exact List.append_cancel_left this
      have hn : ¬ rc 34 = true := by rw [rc34]; exact nofun
      rw [pieceAt_eq, if_neg hn, if_pos rfl, ht, hd, if_pos ⟨by simp, by rw [← K.len_cps]; exact h.1⟩]
      show some (Pc.text (mk s.cps.toList), rest) = _
      rw [← (mk_of rfl : s = mk s.cps.toList)]
    | sign s =>
      obtain ⟨c, r, e, h1, h2, h3, h4⟩ := signs_fact s h
      have ht : (Pc.sign s).txt = c :: r := e
      rw [ht, List.cons_append, pieceAt_eq]
      rw [if_neg (by rw [h1]; exact nofun), if_neg h2]
      rcases h4 with ⟨a, b, d⟩ | ⟨a, b, d⟩
      · subst a; subst b; subst d
        rw [if_pos ⟨rfl, rfl⟩]
        rfl
      · subst a
        have hm : s = mk [c] := mk_of e
        rw [if_neg (fun z => ?_), if_pos b, ← hm]
        · rfl
        · exact hb.2 (by rw [d z.1]) z.2
theorem tok_lay {ps : List Pc} {l : List Nat} (h : Lay ps l) : tokF l = some ps := by
  induction h with
  | done => rfl
  | blank _ ih => rw [tokF_blank, ih]
  | @piece p ps rest hok hb _ ih =>
    obtain ⟨c, r, e, hc⟩ := p.no_blank hok
    have := pieceAt_ok hok hb
    rw [e, List.cons_append] at this ⊢
    rw [tokF_cons hc, this]
    dsimp only
    rw [ih]
    rfl
theorem blanks_rep {b : Nat} {l : List Nat} (h : ∀ c, l.head? = some c → c ≠ 32) : blanksN (List.replicate b 32 ++ l) = b := by
  unfold blanksN
  rw [takeWhile_run (fun c hc => by rw [(List.mem_replicate.mp hc).2]; rfl) (fun c hc => by have := h c hc; simpa using this), List.length_replicate]
end TK

set_option Elab.async false
set_option linter.all false
set_option maxRecDepth 100000
/-! ### pieces of any row -/
namespace K
open PySem L2 Evl EX PC DL TK
structure TG (K : PySem.W.Frag) (mg : Str → Option Value) (wa CE CR : Addr) : Prop where
  tx : Txt K mg wa
  any : mg "any" = none
  all : mg "all" = none
  len : mg "len" = none
  list : mg "list" = none
  abs : mg "abs" = none
  int : mg "int" = none
  str : mg "str" = none
  range : mg "range" = none
  enumerate : mg "enumerate" = none
  max : mg "max" = none
  isinstance : mg "isinstance" = none
  tuple : mg "tuple" = none
  bool : mg "bool" = none
  ValueError : mg "ValueError" = none
  LETTERS : GlD K mg "LETTERS" (.str PC.LETTERS)
  FIGURES : GlD K mg "FIGURES" (.str PC.FIGURES)
  SIGNS : GlD K mg "SIGNS" (.str PC.SIGNS)
  WORDS : GlD K mg "WORDS" (.tup (PC.WDs.map D.str))
  MOST_NAME : GlD K mg "MOST_NAME" (.int 12)
  MOST_FIGURES : GlD K mg "MOST_FIGURES" (.int 9)
  MOST_TEXT : GlD K mg "MOST_TEXT" (.int 40)
  gHallError : mg "HallError" = some (.ref CE)
  BadRow : GlD K mg "BadRow" (.ref CR)
section
variable {P : Program} {w : World} {K : PySem.W.Frag} {mg : Str → Option Value} {base : Heap} {wa CE CR : Addr}
local macro_rules | `(tactic| walk_at "dl") => `(tactic| try simp only [↓x_frzE, ↓x_lr, ↓x_lrT, ↓x_lcN, ↓x_diRev, x_revL, x_revT, ↓x_extT, ↓x_sortDS, ↓x_diR3, ↓x_dupd, ↓x_callX, ↓x_up, ↓x_opX, ↓x_setX, ↓x_asgX, ↓x_retX, ↓x_testX, ↓x_ifX, ↓x_raise, ↓x_tryAs, ↓x_tryO, ↓x_isiX, ↓x_xf, NM.str_eq, String.reduceEq, ↓x_neg, ↓x_lcS, ↓x_lockE, ↓x_eqA, ↓x_dictD, ↓x_disp, ↓x_pNil, ↓x_pCons, ↓x_forS, ↓x_diSL, ↓x_diKeys, ↓x_lock, ↓x_dictP, ↓x_fld, ↓x_fldS, ↓x_fldA, ↓x_meth, ↓x_make, ↓x_dget, ↓x_din, ↓x_dget1, ↓x_dget2, ↓x_dpop, ↓x_dput, ↓x_listD, ↓x_sortDI, ↓x_lenD, ↓x_isiC, x_icS, x_icI, x_icB, x_icN, x_ioS, x_ioI, x_ioB, x_ioN, ↓x_gSub, ↓x_sortDL, ↓x_eqO, ↓x_ninA, x_catN, x_isBB, x_isBN, x_isBI, x_isBS, x_isBR, ↓x_seq, ↓x_nx, ↓x_pass, ↓x_brk, ↓x_cnt, ↓x_drop, ↓x_ret, ↓x_retN, ↓x_ifS, ↓x_set, ↓x_asg, ↓x_gN, ↓x_gT, ↓x_gsC, ↓x_gsN, ↓x_var, x_rdv, ↓x_c, ↓x_op, ↓x_test, x_tst, ↓x_and, ↓x_or, ↓x_not, ↓x_andV, ↓x_orV, ↓x_notV, x_tstV, ↓x_ifE, x_true, x_false, ↓x_nil, ↓x_cons, ↓x_tup, ↓x_lst, ↓x_new, ↓x_newD, ↓x_call, ↓x_cb, x_oI, x_oIc, x_oS, x_addS, x_isN, x_notN, x_eqI, x_eqS, x_eqIS, x_eqSI, x_eqNS, x_neI, x_neS, x_neB, x_eqB, x_few, x_need, ↓x_ix, x_lenS, x_ixL0, x_ixT0, x_ixT1, x_ixT2, x_ixT3, x_ixT4, x_lenL, x_lenT, x_lenC, x_listL, x_listT, x_tupL, x_tupT, x_strI, x_strS, x_int1, x_intB, x_I1, x_I2, x_cat, x_catT, ↓x_split, ↓x_for, ↓x_cut, ↓x_lc, ↓x_whl, ↓x_diL, ↓x_diT, ↓x_diS, x_itL, x_itC, x_itT, x_itS, ↓x_diR1, ↓x_diR2, ↓x_diE, x_enmL, x_enmC, ↓x_gcN, ↓x_gcT, ↓x_yes, ↓x_ml, ↓x_ms, x_strq, x_ss, x_ssc, x_ssi, ↓x_join, ↓x_aug, x_st2I, ↓x_sl, ↓x_noP, ↓x_part, x_intq, x_slL, x_slC, x_slS, ↓x_in, x_inT, x_inL, x_ninT, x_ninL, x_inN, x_inSS, x_inSI, x_inIS, x_inII, ↓x_sg, x_sgS, x_nsgS, ↓x_eqD, ↓x_inDD, x_mulS, ↓x_isi, x_isiS, x_isiI, x_isiB, x_isiN, x_isiL, x_isiT, ↓x_isTT, x_itI, x_itStr, x_itN, x_itB, x_itLst, x_itTup, ↓x_any, ↓x_all, ↓x_sum, ↓x_srtI, ↓x_srtS, ↓x_intS, ↓x_lenRf, ↓x_tupRf, ↓x_frz', x_flS, x_flI, x_flN, x_flB, x_cs_bool, x_isB_NoneType_bool, x_isB_bool_bool, x_isB_int_bool, x_isB_str_bool, x_isB_list_bool, x_isB_tuple_bool, x_isB_dict_bool, x_cs_int, x_isB_NoneType_int, x_isB_bool_int, x_isB_int_int, x_isB_str_int, x_isB_list_int, x_isB_tuple_int, x_isB_dict_int, x_cs_str, x_isB_NoneType_str, x_isB_bool_str, x_isB_int_str, x_isB_str_str, x_isB_list_str, x_isB_tuple_str, x_isB_dict_str, x_cs_list, x_isB_NoneType_list, x_isB_bool_list, x_isB_int_list, x_isB_str_list, x_isB_list_list, x_isB_tuple_list, x_isB_dict_list, x_cs_tuple, x_isB_NoneType_tuple, x_isB_bool_tuple, x_isB_int_tuple, x_isB_str_tuple, x_isB_list_tuple, x_isB_tuple_tuple, x_isB_dict_tuple, x_cs_dict, x_isB_NoneType_dict, x_isB_bool_dict, x_isB_int_dict, x_isB_str_dict, x_isB_list_dict, x_isB_tuple_dict, x_isB_dict_dict, List.all_cons, List.all_nil, Bool.and_self, Bool.or_false, Bool.or_true, Bool.false_or, Bool.true_or, wipeD, setD, DL.isNon, List.set_cons_zero, List.set_cons_succ, List.getElem?_cons_zero, List.getElem?_cons_succ, List.length_cons, List.length_nil, Nat.zero_add, List.cons_append, List.nil_append, decide_true, decide_false, Bool.not_true, Bool.not_false, true_and, and_true, startD, List.map_cons, List.map_nil, Nat.reduceSub, Nat.reduceLeDiff, Nat.zero_le, Int.reduceLT, Int.reduceLE, and_self, Nat.reduceAdd, List.replicate])
theorem ok_brinit {fa : Addr} {fd : FuncData} (F : Fun K "__init__" "BadRow.__init__" s_BadRow___init__ fa fd) (T : TG K mg wa CE CR) (V : VeC K CE) : FnOk P w K mg base CX0 1 fa fd ["self", "row"] (spXI K CR "row") := by
  refine F.ok sc_BadRow___init__ (fun vs H Q E ⟨a, v, e, _⟩ => by rw [e]; rfl) fun cdv A outer s H vs Q E hr h => ⟨_, pss_cons (ps_expr (pe_heinit V (by rfl) T.gHallError (pa_cons (pv 0) (pa_cons pe_str pa_nil)))) (pss_one (ps_ost (pv 0) (pv 1))), ?_⟩
  obtain ⟨a, v, rfl, oc, hno, ha, hq⟩ := h
  exact ⟨.ref a, rfl, a, CR, _, rfl, by simp, oc, ha, v, rfl, .ref a, rfl, a, CR, rfl, oc, hno, .inl ⟨ha, fun dx h1 h2 => hq dx h1 h2⟩⟩
theorem dr_cons {row : Str} {b c : Nat} (hc : row.cps.toList[b]? = some c) : row.cps.toList.drop b = c :: row.cps.toList.drop (b + 1) := by
  obtain ⟨h1, h2⟩ := List.getElem?_eq_some_iff.mp hc
  rw [List.drop_eq_getElem_cons h1, h2]
def dRunEnd : SpD := fun ds S q _ => ∃ (row : Str) (a : Nat), ds = [.str row, .int (a : Int)] ∧ row.length ≤ 100000 ∧ a ≤ row.length ∧ q (.int ((a + ((row.cps.toList.drop a).takeWhile rc).length : Nat) : Int)) S
theorem tk_run_end {fa : Addr} {fd : FuncData} (F : Fun K "run_end" "run_end" s_run_end fa fd) (T : TG K mg wa CE CR) : FnOk P w K mg base CX0 1 fa fd ["row", "at"] (lSp K dRunEnd) := by
  refine dok F sc_run_end (fun ds S q qx ⟨_, _, e, _⟩ => by rw [e]; rfl) ⟨_, fun cdv A outer s H E hr => dss_cons (ds_while PassesOwn.never (PW.pt (dw_and (dt_cmp op_lt si_lt (de_var 1) (de_callB call_len (si_len rfl) (by rfl) T.len (by decide +kernel) (da_cons (de_var 0) da_nil)) (nomark _)) (dw_and1 (PW.pt (dw_or (dt_cmp op_in_sign si_sg (de_ix ix_seq (si_ix rfl) (de_var 0) (de_var 1) (fun _ _ => rfl)) (de_gl (by rfl) T.LETTERS) (by rfl)) (dw_or1 (dt_cmp op_in_sign si_sg (de_ix ix_seq (si_ix rfl) (de_var 0) (de_var 1) (fun _ _ => rfl)) (de_gl (by rfl) T.FIGURES) (by rfl))))))))
        (dss_one (ds_aug (i := 1) sc_run_end.nd rfl (Or.inl rfl) (de_int) ip_add)))
      (dss_one (ds_ret (de_var 1))), fun ds S q qx ⟨row, a, hd, hz, ha, hq⟩ => ?_⟩
  subst hd
  have hl := len_cps row
  walk_at "dl"
  refine whlOf (fun m δ' S' => ∃ b : Nat, δ' = [some (.str row), some (.int (b : Int))] ∧ S' = S ∧ b ≤ row.length ∧ m = row.length - b ∧ b + ((row.cps.toList.drop b).takeWhile rc).length = a + ((row.cps.toList.drop a).takeWhile rc).length) (row.length - a) ⟨a, rfl, rfl, ha, rfl, rfl⟩ ?_
  rintro m δ' S' ⟨b, rfl, rfl, hb, rfl, hab⟩
  walk_at "dl"
  refine fewOf hz ?_
  walk_at "dl"
  by_cases hlt : b < row.length
  · rw [decide_eq_true (by omega)]
    walk_at "dl"
    obtain ⟨c, hc⟩ : ∃ c, row.cps.toList[b]? = some c := ⟨_, List.getElem?_eq_getElem (by omega)⟩
    refine ixS hz hc ?_
    walk_at "dl"
    have hdr := dr_cons hc
    rw [hdr, List.takeWhile_cons] at hab
    have up : rc c = true → ∃ m', m' < row.length - b ∧ ∃ b2 : Nat, [some (D.str row), some (.int ((b : Int) + 1))] = [some (.str row), some (.int (b2 : Int))] ∧ b2 ≤ row.length ∧ m' = row.length - b2 ∧ b2 + ((row.cps.toList.drop b2).takeWhile rc).length = a + ((row.cps.toList.drop a).takeWhile rc).length := fun h => by
      rw [if_pos h, List.length_cons] at hab
      exact ⟨row.length - (b + 1), by omega, b + 1, rfl, by omega, rfl, by omega⟩
    by_cases h1 : c ∈ LTl
    · rw [decide_eq_true (show c ∈ PC.LETTERS.cps.toList from h1)]
      walk_at "dl"
      exact up (by unfold rc; simp [h1])
    · rw [decide_eq_false (show c ∉ PC.LETTERS.cps.toList from h1)]
      walk_at "dl"
      refine ixS hz hc ?_
      walk_at "dl"
      by_cases h2 : c ∈ FGl
      · rw [decide_eq_true (show c ∈ PC.FIGURES.cps.toList from h2)]
        walk_at "dl"
        exact up (by unfold rc; simp [h2])
      · rw [decide_eq_false (show c ∉ PC.FIGURES.cps.toList from h2)]
        walk_at "dl"
        have : ¬ rc c = true := by unfold rc; simp [h1, h2]
        rw [if_neg this] at hab
        rw [show b = a + ((row.cps.toList.drop a).takeWhile rc).length by simpa using hab]
        exact hq
  · rw [decide_eq_false (by omega)]
    walk_at "dl"
    rw [List.drop_of_length_le (by omega)] at hab
    rw [show b = a + ((row.cps.toList.drop a).takeWhile rc).length by simpa using hab]
    exact hq
def oD : Option Pc → D
  | none => .non
  | some p => p.d
def dNumPc : SpD := fun ds S q _ => ∃ rn : Str, ds = [.str rn] ∧ rn.length ≤ 100000 ∧ rn.cps.toList ≠ [] ∧ q (oD (numPc rn.cps.toList)) S
theorem allFg {l : List Nat} : (l.map fun c => decide (c ∈ FGl)).all id = decide (∀ c ∈ l, c ∈ FGl) := by
  rw [List.all_map]
  rw [Bool.eq_iff_iff]
  simp
theorem tk_number {fa : Addr} {fd : FuncData} (F : Fun K "number_piece" "number_piece" s_number_piece fa fd) (T : TG K mg wa CE CR) : FnOk P w K mg base CX0 1 fa fd ["run"] (lSp K dNumPc) := by
  refine dok F sc_number_piece (fun ds S q qx ⟨_, e, _⟩ => by rw [e]; rfl) ⟨_, fun cdv A outer s H E hr => dss_cons (ds_if (PW.pt (dw_or (dt_cmp op_gt si_gt (de_callB call_len (si_len rfl) (by rfl) T.len (by decide +kernel) (da_cons (de_var 0) da_nil)) (de_gl (by rfl) T.MOST_FIGURES) (nomark _)) (dw_or1 (dt_not (dt_val (de_callB (crAll (K := K)) si_all (by rfl) T.all (by decide +kernel) (da_cons (de_lc (own := [("sign", 1)]) (gc_name (j := 1) (by decide)) rfl sc_number_piece.nd (di_str (de_var 0)) (blkOk_by (N := N_number_piece) (sc := defScope s_number_piece) (by decide +kernel)) (fun _ _ _ _ _ => pg_name (i := 1) sc_number_piece.nd rfl (Or.inl rfl)) (fun _ _ _ _ _ => dts_nil) (fun _ _ _ _ _ => de_cmp op_in_sign si_sg (de_var 1) (de_gl (by rfl) T.FIGURES) (by rfl))) da_nil)))))))
        (dss_one (ds_ret (de_non)))
        (dss_nil))
      (dss_cons (ds_if (PW.pt (dw_and (dt_cmp op_eq si_eq (de_ix ix_seq (si_ix rfl) (de_var 0) (de_int) (fun _ _ => rfl)) (de_str) (nomark _)) (dw_and1 (dt_cmp op_ne si_ne (de_var 0) (de_str) (nomark _)))))
        (dss_one (ds_ret (de_non)))
        (dss_nil))
      (dss_one (ds_ret (de_tup (da_cons (de_str) (da_cons (de_callTy call_int_str si_intS (by rfl) T.int (by decide +kernel) (da_cons (de_var 0) da_nil)) da_nil)))))), fun ds S q qx ⟨rn, hd, hz, hne, hq⟩ => ?_⟩
  subst hd
  have hl := len_cps rn
  walk_at "dl"
  refine fewOf hz ?_
  walk_at "dl"
  unfold numPc at hq
  by_cases h9 : 9 < rn.length
  · rw [if_pos (.inl (by omega))] at hq
    rw [decide_eq_true (by omega)]
    walk_at "dl"
    exact hq
  rw [decide_eq_false (by omega)]
  walk_at "dl"
  refine lcOf (fun i acc => acc = (rn.cps.toList.take i).map fun c => D.bl (decide (c ∈ FGl))) (by rw [List.length_map]; omega) rfl (fun p hp i d acc hd hP => ?_) (fun acc hacc => ?_)
  · rw [List.getElem?_map] at hd
    obtain ⟨c, hc, rfl⟩ := Option.map_eq_some_iff.mp hd
    subst hP
    walk_at "dl"
    refine LcO.of hp ?_
    rw [List.take_add_one, hc, List.map_append]
    rfl
  · rw [List.length_map, List.take_length] at hacc
    subst hacc
    walk_at "dl"
    refine ⟨rn.cps.toList.map fun c => decide (c ∈ FGl), by rw [List.map_map]; rfl, ?_⟩
    rw [allFg]
    by_cases hfg : ∀ c ∈ rn.cps.toList, c ∈ FGl
    · rw [if_neg (fun z => z.elim (fun z => by omega) fun z => z hfg)] at hq
      rw [decide_eq_true hfg]
      walk_at "dl"
      obtain ⟨c, r, hcr⟩ : ∃ c r, rn.cps.toList = c :: r := by
        cases hz : rn.cps.toList with
        | nil => exact absurd hz hne
        | cons c r => exact ⟨c, r, rfl⟩
      refine ixS (j := 0) (c := c) hz (by rw [hcr]; rfl) ?_
      walk_at "dl"
      have e1 : (decide ((⟨#[c]⟩ : Str) = Str.ofString "0")) = decide (c = 48) := by
        apply decide_eq_decide.mpr
        exact ⟨fun z => by have := congrArg (fun s : Str => s.cps.toList) z; rw [show (Str.ofString "0").cps.toList = [48] by decide +kernel] at this; simpa using this, fun z => by rw [z]; rfl⟩
      have fin : ¬ (rn.cps.toList.head? = some 48 ∧ rn.cps.toList ≠ [48]) → stC oIntS [.str rn] S (fun x S1 => few 2 (q (.tup [.str (Str.ofString "number"), x]) S1) ⟨⟩) ⟨⟩ := fun h => by
        rw [if_neg h] at hq
        refine ⟨((NumText.digitsVal rn.cps.toList : Nat) : Int), PySem.intText_digits (fun c hc => ?_) hne (by omega), by omega, fewOf (by decide) hq⟩
        have : ∀ c ∈ FGl, 48 ≤ c ∧ c ≤ 57 := by decide +kernel
        exact this c (hfg c hc)
      rw [e1]
      by_cases h0 : c = 48
      · rw [decide_eq_true h0]
        walk_at "dl"
        by_cases hr : rn = Str.ofString "0"
        · rw [decide_eq_true hr]
          walk_at "dl"
          exact fin fun z => z.2 (by rw [hr]; decide +kernel)
        · rw [decide_eq_false hr]
          walk_at "dl"
          rw [if_pos ⟨by rw [hcr, h0]; rfl, fun z => hr (str_ext (by rw [z]; decide +kernel))⟩] at hq
          exact hq
      · rw [decide_eq_false h0]
        walk_at "dl"
        exact fin fun z => h0 (by rw [hcr] at z; cases z.1; rfl)
    · rw [if_pos (.inr hfg)] at hq
      rw [decide_eq_false hfg]
      walk_at "dl"
      exact hq
def dRunPc : SpD := fun ds S q _ => ∃ rn : Str, ds = [.str rn] ∧ rn.length ≤ 100000 ∧ rn.cps.toList ≠ [] ∧ q (oD (runPc rn.cps.toList)) S
theorem tk_run {fa : Addr} {fd : FuncData} (F : Fun K "run_piece" "run_piece" s_run_piece fa fd) (T : TG K mg wa CE CR) (G_number_piece : DefD P w K mg base 1 "number_piece" ["run"] dNumPc) : FnOk P w K mg base CX0 2 fa fd ["run"] (lSp K dRunPc) := by
  refine dok F sc_run_piece (fun ds S q qx ⟨_, e, _⟩ => by rw [e]; rfl) ⟨_, fun cdv A outer s H E hr => dss_cons (ds_if (dt_cmp op_in_sign si_sg (de_ix ix_seq (si_ix rfl) (de_var 0) (de_int) (fun _ _ => rfl)) (de_gl (by rfl) T.FIGURES) (by rfl))
        (dss_one (ds_ret (de_call G_number_piece (hr.mono (by decide)) (by rfl) (da_cons (de_var 0) da_nil))))
        (dss_nil))
      (dss_cons (ds_if (dt_cmp (opIn (K := K)) (si_in false) (de_var 0) (de_gl (by rfl) T.WORDS) (by rfl))
        (dss_one (ds_ret (de_tup (da_cons (de_str) (da_cons (de_var 0) da_nil)))))
        (dss_nil))
      (dss_cons (ds_if (dt_cmp op_gt si_gt (de_callB call_len (si_len rfl) (by rfl) T.len (by decide +kernel) (da_cons (de_var 0) da_nil)) (de_gl (by rfl) T.MOST_NAME) (nomark _))
        (dss_one (ds_ret (de_non)))
        (dss_nil))
      (dss_one (ds_ret (de_tup (da_cons (de_str) (da_cons (de_var 0) da_nil))))))), fun ds S q qx ⟨rn, hd, hz, hne, hq⟩ => ?_⟩
  subst hd
  have hl := len_cps rn
  obtain ⟨c, r, hcr⟩ : ∃ c r, rn.cps.toList = c :: r := by
    cases hz : rn.cps.toList with
    | nil => exact absurd hz hne
    | cons c r => exact ⟨c, r, rfl⟩
  have hm : mk rn.cps.toList = rn := (mk_of rfl).symm
  unfold runPc at hq
  rw [hm, show rn.cps.toList.headD 0 = c by rw [hcr]; rfl] at hq
  walk_at "dl"
  refine ixS (j := 0) (c := c) hz (by rw [hcr]; rfl) ?_
  walk_at "dl"
  by_cases h1 : c ∈ FGl
  · rw [if_pos h1] at hq
    rw [decide_eq_true (show c ∈ PC.FIGURES.cps.toList from h1)]
    walk_at "dl"
    exact ⟨rn, rfl, hz, hne, hq⟩
  rw [if_neg h1] at hq
  rw [decide_eq_false (show c ∉ PC.FIGURES.cps.toList from h1)]
  walk_at "dl"
  rw [x_inT rfl (flat_strs _), inD_strs]
  by_cases h2 : rn ∈ WDs
  · rw [if_pos h2] at hq
    rw [decide_eq_true h2]
    walk_at "dl"
    exact hq
  rw [if_neg h2] at hq
  rw [decide_eq_false h2]
  walk_at "dl"
  refine fewOf hz ?_
  walk_at "dl"
  by_cases h3 : 12 < rn.length
  · rw [if_pos (by omega)] at hq
    rw [decide_eq_true (by omega)]
    walk_at "dl"
    exact hq
  rw [if_neg (by omega)] at hq
  rw [decide_eq_false (by omega)]
  walk_at "dl"
  exact hq
end
end K

set_option Elab.async false
set_option linter.all false
set_option maxRecDepth 100000
namespace K
open PySem L2 Evl EX PC DL TK
theorem find_no {row : Str} {a : Nat} (h : 34 ∉ row.cps.toList.drop (a + 1)) : Txt.find3 row "\"" ((a : Int) + 1) = -1 := by
  have hq : (Str.ofString "\"") = ⟨#[34]⟩ := by decide +kernel
  have hl := len_cps row
  rw [hq]
  rcases PySem.StrLaws.find3_spec row 34 ((a : Int) + 1) with ⟨h1, _⟩ | ⟨k, h1, h2, h3, h4, h5⟩
  · exact h1
  · exfalso
    have hf : fromIndex row.length ((a : Int) + 1) = a + 1 := by
      have := fromIx row.length (a + 1)
      rwa [Int.natCast_add] at this
    rw [hf] at h2
    refine h ?_
    have hk : k < row.cps.toList.length := by omega
    rw [← PyProof.Rows.getD_list, List.getD_eq_getElem?_getD, List.getElem?_eq_getElem hk] at h4
    have : (row.cps.toList.drop (a + 1))[k - (a + 1)]? = some 34 := by
      rw [List.getElem?_drop, show a + 1 + (k - (a + 1)) = k by omega, List.getElem?_eq_getElem hk]
      exact congrArg some h4
    exact List.mem_of_getElem? this
section
variable {P : Program} {w : World} {K : PySem.W.Frag} {mg : Str → Option Value} {base : Heap} {wa CE CR : Addr}
local macro_rules | `(tactic| walk_at "dl") => `(tactic| try simp only [↓x_frzE, ↓x_lr, ↓x_lrT, ↓x_lcN, ↓x_diRev, x_revL, x_revT, ↓x_extT, ↓x_sortDS, ↓x_diR3, ↓x_dupd, ↓x_callX, ↓x_up, ↓x_opX, ↓x_setX, ↓x_asgX, ↓x_retX, ↓x_testX, ↓x_ifX, ↓x_raise, ↓x_tryAs, ↓x_tryO, ↓x_isiX, ↓x_xf, NM.str_eq, String.reduceEq, ↓x_neg, ↓x_lcS, ↓x_lockE, ↓x_eqA, ↓x_dictD, ↓x_disp, ↓x_pNil, ↓x_pCons, ↓x_forS, ↓x_diSL, ↓x_diKeys, ↓x_lock, ↓x_dictP, ↓x_fld, ↓x_fldS, ↓x_fldA, ↓x_meth, ↓x_make, ↓x_dget, ↓x_din, ↓x_dget1, ↓x_dget2, ↓x_dpop, ↓x_dput, ↓x_listD, ↓x_sortDI, ↓x_lenD, ↓x_isiC, x_icS, x_icI, x_icB, x_icN, x_ioS, x_ioI, x_ioB, x_ioN, ↓x_gSub, ↓x_sortDL, ↓x_eqO, ↓x_ninA, x_catN, x_isBB, x_isBN, x_isBI, x_isBS, x_isBR, ↓x_seq, ↓x_nx, ↓x_pass, ↓x_brk, ↓x_cnt, ↓x_drop, ↓x_ret, ↓x_retN, ↓x_ifS, ↓x_set, ↓x_asg, ↓x_gN, ↓x_gT, ↓x_gsC, ↓x_gsN, ↓x_var, x_rdv, ↓x_c, ↓x_op, ↓x_test, x_tst, ↓x_and, ↓x_or, ↓x_not, ↓x_andV, ↓x_orV, ↓x_notV, x_tstV, ↓x_ifE, x_true, x_false, ↓x_nil, ↓x_cons, ↓x_tup, ↓x_lst, ↓x_new, ↓x_newD, ↓x_call, ↓x_cb, x_oI, x_oIc, x_oS, x_addS, x_isN, x_notN, x_eqI, x_eqS, x_eqIS, x_eqSI, x_eqNS, x_neI, x_neS, x_neB, x_eqB, x_few, x_need, ↓x_ix, x_lenS, x_ixL0, x_ixT0, x_ixT1, x_ixT2, x_ixT3, x_ixT4, x_lenL, x_lenT, x_lenC, x_listL, x_listT, x_tupL, x_tupT, x_strI, x_strS, x_int1, x_intB, x_I1, x_I2, x_cat, x_catT, ↓x_split, ↓x_for, ↓x_cut, ↓x_lc, ↓x_whl, ↓x_diL, ↓x_diT, ↓x_diS, x_itL, x_itC, x_itT, x_itS, ↓x_diR1, ↓x_diR2, ↓x_diE, x_enmL, x_enmC, ↓x_gcN, ↓x_gcT, ↓x_yes, ↓x_ml, ↓x_ms, x_strq, x_ss, x_ssc, x_ssi, ↓x_join, ↓x_aug, x_st2I, ↓x_sl, ↓x_noP, ↓x_part, x_intq, x_slL, x_slC, x_slS, ↓x_in, x_inT, x_inL, x_ninT, x_ninL, x_inN, x_inSS, x_inSI, x_inIS, x_inII, ↓x_sg, x_sgS, x_nsgS, ↓x_eqD, ↓x_inDD, x_mulS, ↓x_isi, x_isiS, x_isiI, x_isiB, x_isiN, x_isiL, x_isiT, ↓x_isTT, x_itI, x_itStr, x_itN, x_itB, x_itLst, x_itTup, ↓x_any, ↓x_all, ↓x_sum, ↓x_srtI, ↓x_srtS, ↓x_intS, ↓x_lenRf, ↓x_tupRf, ↓x_frz', x_flS, x_flI, x_flN, x_flB, x_cs_bool, x_isB_NoneType_bool, x_isB_bool_bool, x_isB_int_bool, x_isB_str_bool, x_isB_list_bool, x_isB_tuple_bool, x_isB_dict_bool, x_cs_int, x_isB_NoneType_int, x_isB_bool_int, x_isB_int_int, x_isB_str_int, x_isB_list_int, x_isB_tuple_int, x_isB_dict_int, x_cs_str, x_isB_NoneType_str, x_isB_bool_str, x_isB_int_str, x_isB_str_str, x_isB_list_str, x_isB_tuple_str, x_isB_dict_str, x_cs_list, x_isB_NoneType_list, x_isB_bool_list, x_isB_int_list, x_isB_str_list, x_isB_list_list, x_isB_tuple_list, x_isB_dict_list, x_cs_tuple, x_isB_NoneType_tuple, x_isB_bool_tuple, x_isB_int_tuple, x_isB_str_tuple, x_isB_list_tuple, x_isB_tuple_tuple, x_isB_dict_tuple, x_cs_dict, x_isB_NoneType_dict, x_isB_bool_dict, x_isB_int_dict, x_isB_str_dict, x_isB_list_dict, x_isB_tuple_dict, x_isB_dict_dict, List.all_cons, List.all_nil, Bool.and_self, Bool.or_false, Bool.or_true, Bool.false_or, Bool.true_or, wipeD, setD, DL.isNon, List.set_cons_zero, List.set_cons_succ, List.getElem?_cons_zero, List.getElem?_cons_succ, List.length_cons, List.length_nil, Nat.zero_add, List.cons_append, List.nil_append, decide_true, decide_false, Bool.not_true, Bool.not_false, true_and, and_true, startD, List.map_cons, List.map_nil, Nat.reduceSub, Nat.reduceLeDiff, Nat.zero_le, Int.reduceLT, Int.reduceLE, and_self, Nat.reduceAdd, List.replicate])
/-- the piece, and the place behind it -/
def PaRes (n : Nat) (l : List Nat) (x : D) : Prop := match pieceAt l with
  | some (p, rest) => x = .tup [p.d, .int ((n - rest.length : Nat) : Int)]
  | none => ∃ e : Int, x = .tup [.non, .int e]
def dPieceAt : SpD := fun ds S q _ => ∃ (row : Str) (a : Nat), ds = [.str row, .int (a : Int)] ∧ row.length ≤ 100000 ∧ a < row.length ∧ ∀ x, PaRes row.length (row.cps.toList.drop a) x → q x S
theorem cutS_mk {z : Str} {a b : Nat} (hab : a ≤ b) (hb : b ≤ z.length) : cutS z (some (a : Int)) (some (b : Int)) = mk ((z.cps.toList.drop a).take (b - a)) := mk_of (cutS_nat hab hb)
theorem sgS1 (c : Nat) (s : String) (d : Nat) (h : (Str.ofString s).cps.toList = [d]) : (decide ((⟨#[c]⟩ : Str) = Str.ofString s)) = decide (c = d) := by
  apply decide_eq_decide.mpr
  exact ⟨fun z => by have := congrArg (fun s : Str => s.cps.toList) z; rw [h] at this; simpa using this, fun z => str_ext (by rw [h, z])⟩
theorem tk_pieceAt {fa : Addr} {fd : FuncData} (F : Fun K "piece_at" "piece_at" s_piece_at fa fd) (T : TG K mg wa CE CR) (G_run_end : DefD P w K mg base 1 "run_end" ["row", "at"] dRunEnd) (G_run_piece : DefD P w K mg base 2 "run_piece" ["run"] dRunPc) : FnOk P w K mg base CX0 3 fa fd ["row", "at"] (lSp K dPieceAt) := by
  refine dok F sc_piece_at (fun ds S q qx ⟨_, _, e, _⟩ => by rw [e]; rfl) ⟨_, fun cdv A outer s H E hr => dss_cons (ds_set (i := 2) sc_piece_at.nd rfl (Or.inl rfl) (de_call G_run_end (hr.mono (by decide)) (by rfl) (da_cons (de_var 0) (da_cons (de_var 1) da_nil))))
      (dss_cons (ds_if (dt_cmp op_gt si_gt (de_var 2) (de_var 1) (nomark _))
        (dss_one (ds_ret (de_tup (da_cons (de_call G_run_piece (hr.mono (by decide)) (by rfl) (da_cons (de_slice sl_str si_slS (de_var 0) (do_some (de_var 1)) (do_some (de_var 2))) da_nil)) (da_cons (de_var 2) da_nil)))))
        (dss_nil))
      (dss_cons (ds_if (dt_cmp op_eq si_eq (de_ix ix_seq (si_ix rfl) (de_var 0) (de_var 1) (fun _ _ => rfl)) (de_str) (nomark _))
        (dss_cons (ds_set (i := 2) sc_piece_at.nd rfl (Or.inl rfl) (de_ms PySem.F.slot_str_find PySem.F.type_str_find mt_find3 si_ssiI (de_var 0) (da_cons (de_str) (da_cons (de_op op_add si_add (de_var 1) (de_int)) da_nil))))
        (dss_cons (ds_if (PW.pt (dw_or (dt_cmp op_lt si_lt (de_var 2) (de_int) (nomark _)) (dw_or1 (dt_cmp op_gt si_gt (de_op op_sub si_sub (de_op op_sub si_sub (de_var 2) (de_var 1)) (de_int)) (de_gl (by rfl) T.MOST_TEXT) (nomark _)))))
          (dss_one (ds_ret (de_tup (da_cons (de_non) (da_cons (de_var 1) da_nil)))))
          (dss_nil))
        (dss_one (ds_ret (de_tup (da_cons (de_tup (da_cons (de_str) (da_cons (de_slice sl_str si_slS (de_var 0) (do_some (de_op op_add si_add (de_var 1) (de_int))) (do_some (de_var 2))) da_nil))) (da_cons (de_op op_add si_add (de_var 2) (de_int)) da_nil)))))))
        (dss_nil))
      (dss_cons (ds_if (dt_val (de_ms PySem.F.slot_str_startswith PySem.F.type_str_startswith mt_startswith3 si_ssiB (de_var 0) (da_cons (de_str) (da_cons (de_var 1) da_nil))))
        (dss_one (ds_ret (de_tup (da_cons (de_tup (da_cons (de_str) (da_cons (de_str) da_nil))) (da_cons (de_op op_add si_add (de_var 1) (de_int)) da_nil)))))
        (dss_nil))
      (dss_cons (ds_if (dt_cmp op_in_sign si_sg (de_ix ix_seq (si_ix rfl) (de_var 0) (de_var 1) (fun _ _ => rfl)) (de_gl (by rfl) T.SIGNS) (by rfl))
        (dss_one (ds_ret (de_tup (da_cons (de_tup (da_cons (de_str) (da_cons (de_ix ix_seq (si_ix rfl) (de_var 0) (de_var 1) (fun _ _ => rfl)) da_nil))) (da_cons (de_op op_add si_add (de_var 1) (de_int)) da_nil)))))
        (dss_nil))
      (dss_one (ds_ret (de_tup (da_cons (de_non) (da_cons (de_var 1) da_nil))))))))), fun ds S q qx ⟨row, a, hd, hz, ha, hq⟩ => ?_⟩
  subst hd
  have hl := len_cps row
  obtain ⟨c, hc⟩ : ∃ c, row.cps.toList[a]? = some c := ⟨_, List.getElem?_eq_getElem (by omega)⟩
  have hdr := dr_cons hc
  generalize hr : row.cps.toList.drop (a + 1) = r at hdr
  have hrl : r.length + (a + 1) = row.length := by rw [← hr, List.length_drop]; omega
  unfold PaRes at hq
  walk_at "dl"
  refine ⟨row, a, rfl, hz, by omega, ?_⟩
  walk_at "dl"
  rw [hdr] at hq ⊢
  rw [pieceAt_eq] at hq
  have hdw := dw_len (q := rc) (c :: r)
  by_cases h1 : rc c = true
  · rw [if_pos h1] at hq
    have htw : ((c :: r).takeWhile rc).length = (r.takeWhile rc).length + 1 := by rw [List.takeWhile_cons, if_pos h1, List.length_cons]
    rw [decide_eq_true (by omega)]
    walk_at "dl"
    refine fewOf hz ?_
    walk_at "dl"
    rw [List.length_cons] at hdw
    have hcut : cutS row (some (a : Int)) (some ((a + ((c :: r).takeWhile rc).length : Nat) : Int)) = mk ((c :: r).takeWhile rc) := by
      rw [cutS_mk (by omega) (by omega), hdr, show a + ((c :: r).takeWhile rc).length - a = ((c :: r).takeWhile rc).length by omega]
      congr 1
      have := List.takeWhile_append_dropWhile (p := rc) (l := c :: r)
      rw [← this]
      conv => lhs; rw [List.take_append_of_le_length (by rw [this]; exact Nat.le_refl _)]
      rw [this, List.take_length]
    rw [hcut]
    refine ⟨_, rfl, by rw [mk_len]; omega, by rw [mk_cps]; intro z; rw [z] at htw; simp at htw, ?_⟩
    rw [mk_cps]
    walk_at "dl"
    cases hp : runPc ((c :: r).takeWhile rc) with
    | none =>
      rw [hp] at hq
      exact hq _ ⟨_, rfl⟩
    | some p =>
      rw [hp] at hq
      simp only [Option.map_some] at hq
      simp only [oD]
      refine hq _ ?_
      congr 4
      omega
  rw [if_neg h1] at hq
  have htw : (c :: r).takeWhile rc = [] := by rw [List.takeWhile_cons, if_neg h1]
  rw [htw]
  rw [decide_eq_false (by simp)]
  walk_at "dl"
  refine ixS hz hc ?_
  walk_at "dl"
  rw [sgS1 c "\"" 34 (by decide +kernel)]
  by_cases h2 : c = 34
  · rw [if_pos h2] at hq
    rw [decide_eq_true h2]
    walk_at "dl"
    by_cases h3 : 34 ∈ r
    · obtain ⟨e1, e2⟩ := split34 h3
      have hf := find34 (row := row) (a := a) (s := r.takeWhile (· != 34)) (rest := (r.dropWhile (· != 34)).tail) (by rw [hdr, h2, ← e1]) e2
      rw [hf]
      have e3 := congrArg List.length e1
      rw [List.length_append, List.length_cons] at e3
      walk_at "dl"
      rw [decide_eq_false (by omega)]
      walk_at "dl"
      by_cases h4 : (r.takeWhile (· != 34)).length ≤ 40
      · rw [if_pos ⟨h3, h4⟩] at hq
        rw [decide_eq_false (by omega)]
        walk_at "dl"
        refine fewOf hz ?_
        walk_at "dl"
        have hcut : cutS row (some ((a : Int) + 1)) (some ((a + 1 + (r.takeWhile (· != 34)).length : Nat) : Int)) = mk (r.takeWhile (· != 34)) := by
          rw [show (a : Int) + 1 = ((a + 1 : Nat) : Int) by omega, cutS_mk (by omega) (by omega), hr, show a + 1 + (r.takeWhile (· != 34)).length - (a + 1) = (r.takeWhile (· != 34)).length by omega]
          congr 1
          have := List.take_left' (l₁ := r.takeWhile (· != 34)) (l₂ := 34 :: (r.dropWhile (· != 34)).tail) rfl
          rw [← e1] at this
          exact this
        rw [hcut]
        refine hq _ ?_
        show D.tup [.tup [.str (Str.ofString "text"), .str (mk (r.takeWhile (· != 34)))], _] = D.tup [.tup [.str (Str.ofString "text"), .str (mk (r.takeWhile (· != 34)))], _]
        congr 4
        omega
      · rw [if_neg (fun z => h4 z.2)] at hq
        rw [decide_eq_true (by omega)]
        walk_at "dl"
        exact hq _ ⟨_, rfl⟩
    · rw [if_neg (fun z => h3 z.1)] at hq
      rw [find_no (by rw [hr]; exact h3)]
      walk_at "dl"
      exact hq _ ⟨_, rfl⟩
  rw [if_neg h2] at hq
  rw [decide_eq_false h2]
  walk_at "dl"
  rw [sw3, hdr]
  have h61 : (((c :: r).take 2 = [61, 61]) ↔ (c = 61 ∧ r.head? = some 61)) := by
    cases r with
    | nil => simp
    | cons d r => simp
  by_cases h3 : c = 61 ∧ r.head? = some 61
  · rw [if_pos h3] at hq
    rw [decide_eq_true (h61.mpr h3)]
    walk_at "dl"
    refine hq _ ?_
    show D.tup [.tup [.str (Str.ofString "sign"), .str (Str.ofString "==")], _] = D.tup [.tup [.str (Str.ofString "sign"), .str (Str.ofString "==")], _]
    have : 0 < r.length := by cases r with | nil => simp at h3 | cons _ _ => simp
    congr 4
    rw [List.length_tail]
    omega
  rw [if_neg h3] at hq
  rw [decide_eq_false (fun z => h3 (h61.mp z))]
  walk_at "dl"
  refine ixS hz hc ?_
  walk_at "dl"
  by_cases h4 : c ∈ SGl
  · rw [if_pos h4] at hq
    rw [decide_eq_true (show c ∈ PC.SIGNS.cps.toList from h4)]
    walk_at "dl"
    refine ixS hz hc ?_
    walk_at "dl"
    refine hq _ ?_
    show D.tup [.tup [.str (Str.ofString "sign"), .str (mk [c])], _] = D.tup [.tup [.str (Str.ofString "sign"), .str (mk [c])], _]
    congr 4
    omega
  · rw [if_neg h4] at hq
    rw [decide_eq_false (show c ∉ PC.SIGNS.cps.toList from h4)]
    walk_at "dl"
    exact hq _ ⟨_, rfl⟩
theorem lstrip_any (row : Str) : (Txt.lstripChars row " ").length + blanksN row.cps.toList = row.length := by
  have e := List.takeWhile_append_dropWhile (p := (· == 32)) (l := row.cps.toList)
  have h1 : row.cps.toList.takeWhile (· == 32) = List.replicate (blanksN row.cps.toList) 32 := by
    refine List.eq_replicate_iff.mpr ⟨rfl, fun c hc => ?_⟩
    have := mem_tw hc
    simpa using this
  rw [h1] at e
  refine lstrip_len e.symm fun c hc => ?_
  have := List.head?_dropWhile_not (· == 32) row.cps.toList
  rw [hc] at this
  simpa using this
/-- what pieces_of does: tells, or refuses -/
def dPieces (CR : Addr) : SpD := fun ds S q qx => ∃ row : Str, ds = [.str row] ∧ row.length ≤ 90000 ∧
  match piecesF row.cps.toList with
  | some (b, ps) => q (.tup [.int (b : Int), .list (ps.map Pc.d)]) S
  | none => ∀ S' d, (∀ a, S a ≠ none → S' a = S a) → S' d = some (.xd [("row", .int 0)]) → qx (.ref CR) (some d) S'
theorem blanks_le (l : List Nat) : blanksN l ≤ l.length := by
  unfold blanksN
  have := dw_len (q := (· == 32)) l
  omega
theorem tok_drop (l : List Nat) : tokF (l.drop (blanksN l)) = tokF l := by
  induction l with
  | nil => rfl
  | cons c r ih =>
    by_cases h : c = 32
    · subst h
      have : blanksN (32 :: r) = blanksN r + 1 := by unfold blanksN; rw [List.takeWhile_cons]; simp
      rw [this, List.drop_succ_cons, ih, tokF_blank]
    · have : blanksN (c :: r) = 0 := by unfold blanksN; rw [List.takeWhile_cons]; simp [h]
      rw [this, List.drop_zero]
theorem ok_pieces {fa : Addr} {fd : FuncData} (F : Fun K "pieces_of" "pieces_of" s_pieces_of fa fd) (T : TG K mg wa CE CR) (G_piece_at : DefD P w K mg base 3 "piece_at" ["row", "at"] dPieceAt) (M_BadRow : MkX P w K mg base 1 "BadRow" CR "row") : FnOk P w K mg base (L2.CX P w) 4 fa fd ["row"] (lSp K (dPieces CR)) := by
  refine dokX F sc_pieces_of (fun ds S q qx ⟨_, e, _⟩ => by rw [e]; rfl) ⟨_, fun cdv A outer s H E W hr tk hp => dss_cons (ds_set (i := 1) sc_pieces_of.nd rfl (Or.inl rfl) (de_op op_sub si_sub (de_callB call_len (si_len rfl) (by rfl) T.len (by decide +kernel) (da_cons (de_var 0) da_nil)) (de_callB call_len (si_len rfl) (by rfl) T.len (by decide +kernel) (da_cons (de_ms PySem.F.slot_str_lstrip PySem.F.type_str_lstrip mt_lstripChars si_sscS (de_var 0) (da_cons (de_str) da_nil)) da_nil))))
      (dss_cons (ds_set (i := 2) sc_pieces_of.nd rfl (Or.inl rfl) (de_new (da_nil)))
      (dss_cons (ds_set (i := 3) sc_pieces_of.nd rfl (Or.inl rfl) (de_var 1))
      (dss_cons (ds_while hp (dt_cmp op_lt si_lt (de_var 3) (de_callB call_len (si_len rfl) (by rfl) T.len (by decide +kernel) (da_cons (de_var 0) da_nil)) (nomark _))
        (dss_one (ds_if (dt_cmp op_eq si_eq (de_ix ix_seq (si_ix rfl) (de_var 0) (de_var 3) (fun _ _ => rfl)) (de_str) (nomark _))
          (dss_one (ds_aug (i := 3) sc_pieces_of.nd rfl (Or.inl rfl) (de_int) ip_add))
          (dss_cons (ds_asg (de_call G_piece_at (hr.mono (by decide)) (by rfl) (da_cons (de_var 0) (da_cons (de_var 3) da_nil))) (dg_tup (n := 2) rfl (dgs_cons (dg_name (i := 4) sc_pieces_of.nd rfl (Or.inl rfl)) (dgs_cons (dg_name (i := 3) sc_pieces_of.nd rfl (Or.inl rfl)) dgs_nil))))
          (dss_cons (ds_if (dt_cmp op_isN si_isN (de_var 4) (de_non) (nomark _))
            (dss_one (ds_raise rfl M_BadRow (hr.mono (by decide)) tk (by rfl) (de_int)))
            (dss_nil))
          (dss_one (ds_expr (de_ml PySem.F.slot_list_append PySem.F.type_list_append mt_append si_app (de_var 2) (da_cons (de_var 4) da_nil)))))))))
      (dss_cons (ds_if (dt_cmp op_eq si_eq (de_callB call_len (si_len rfl) (by rfl) T.len (by decide +kernel) (da_cons (de_var 2) da_nil)) (de_int) (nomark _))
        (dss_one (ds_raise rfl M_BadRow (hr.mono (by decide)) tk (by rfl) (de_int)))
        (dss_nil))
      (dss_one (ds_ret (de_tup (da_cons (de_var 1) (da_cons (de_frz 2) da_nil))))))))), fun ds S q qx ⟨row, hd, hz, hq⟩ => ?_⟩
  subst hd
  have hl := len_cps row
  have hls := lstrip_any row
  have hbl := blanks_le row.cps.toList
  have htd := tok_drop row.cps.toList
  unfold piecesF at hq
  walk_at "dl"
  refine fewOf (by omega) ?_
  walk_at "dl"
  refine needOf (by omega) ?_
  refine fewOf (by omega) ?_
  walk_at "dl"
  rw [show (row.length : Int) - ((Txt.lstripChars row (Str.ofString " ")).length : Int) = ((blanksN row.cps.toList : Nat) : Int) by
    have : (Txt.lstripChars row (Str.ofString " ")).length + blanksN row.cps.toList = row.length := hls
    omega]
  generalize hB : blanksN row.cps.toList = B at hbl htd hq ⊢
  refine freshOf fun pl hpl => ?_
  walk_at "dl"
  have bad : tokF row.cps.toList = none ∨ tokF row.cps.toList = some [] → ∀ S' d, (∀ a, S a ≠ none → S' a = S a) → S' d = some (.xd [("row", .int 0)]) → qx (.ref CR) (some d) S' := fun h S' d h1 h2 => by
    rcases h with h | h <;> rw [h] at hq <;> exact hq S' d h1 h2
  refine whlOf (fun m δ' S' => ∃ (a : Nat) (ps : List Pc) (v4 v5 : Option D), δ' = [some (.str row), some (.int (B : Int)), some (.ref pl), some (.int (a : Int)), v4] ∧ S' = put S pl (.lst (ps.map Pc.d)) ∧ a ≤ row.length ∧ ps.length ≤ a ∧ m = row.length - a ∧ (tokF row.cps.toList = (tokF (row.cps.toList.drop a)).map (ps ++ ·))) (row.length - B) ⟨B, [], _, none, rfl, rfl, by omega, Nat.zero_le _, rfl, by rw [htd]; cases tokF row.cps.toList <;> rfl⟩ ?_
  rintro m δ' S' ⟨a, ps, v4, v5, rfl, rfl, ha, hpsl, rfl, htok⟩
  walk_at "dl"
  refine fewOf (by omega) ?_
  walk_at "dl"
  by_cases hlt : a < row.length
  · rw [decide_eq_true (by omega)]
    walk_at "dl"
    obtain ⟨c, hc⟩ : ∃ c, row.cps.toList[a]? = some c := ⟨_, List.getElem?_eq_getElem (by omega)⟩
    have hdr := dr_cons hc
    refine ixS (by omega) hc ?_
    walk_at "dl"
    rw [sgS1 c " " 32 (by decide +kernel)]
    by_cases h32 : c = 32
    · rw [decide_eq_true h32]
      walk_at "dl"
      refine ⟨row.length - (a + 1), by omega, a + 1, ps, _, none, rfl, rfl, by omega, by omega, rfl, ?_⟩
      rw [htok, hdr, h32, tokF_blank]
    · rw [decide_eq_false h32]
      walk_at "dl"
      refine ⟨row, a, rfl, by omega, hlt, fun x hx => ?_⟩
      unfold PaRes at hx
      rw [hdr] at hx
      rw [hdr, tokF_cons h32] at htok
      cases hp : pieceAt (c :: row.cps.toList.drop (a + 1)) with
      | none =>
        rw [hp] at hx htok
        obtain ⟨e, rfl⟩ := hx
        walk_at "dl"
        intro d hd
        exact bad (.inl htok) _ d (fun a ha => by
          have n1 : a ≠ d := fun z => by
            rw [z] at ha
            by_cases z2 : d = pl
            · rw [z2] at ha; exact ha hpl
            · rw [put_ne z2] at hd; exact ha hd
          have n2 : a ≠ pl := fun z => ha (by rw [z]; exact hpl)
          rw [put_ne n1, put_ne n2]) put_same
      | some y =>
        obtain ⟨p, rest⟩ := y
        rw [hp] at hx htok
        have hpl2 := pieceAt_lt hp
        have hrest : rest = row.cps.toList.drop (row.length - rest.length) := by
          have h1 := pieceAt_drop hp
          rw [List.length_cons, List.length_drop] at hpl2
          rw [← hdr, List.drop_drop, List.length_drop] at h1
          rw [show row.length - rest.length = a + (row.cps.toList.length - a - rest.length) by omega]
          exact h1
        subst hx
        simp only at htok
        unfold Pc.d
        walk_at "dl"
        refine needOf (isLOf put_same) ?_
        walk_at "dl"
        refine appOf put_same (by rw [List.length_map]; omega) ?_
        walk_at "dl"
        rw [List.length_cons, List.length_drop] at hpl2
        refine ⟨row.length - (row.length - rest.length), by omega, row.length - rest.length, ps ++ [p], _, none, rfl, ?_, by omega, by rw [List.length_append, List.length_singleton]; omega, rfl, ?_⟩
        · rw [put_put, List.map_append]
          rfl
        · rw [htok, ← hrest, Option.map_map]
          congr 1
          funext z
          simp
  · rw [decide_eq_false (by omega)]
    rw [List.drop_of_length_le (by omega)] at htok
    walk_at "dl"
    refine lenRf put_same ?_
    walk_at "dl"
    have htok : tokF row.cps.toList = some ps := by rw [htok, tokF_nil]; simp
    cases ps with
    | nil =>
      rw [decide_eq_true (by simp)]
      walk_at "dl"
      intro d hd
      exact bad (.inr htok) _ d (fun a ha => by
        have n1 : a ≠ d := fun z => by
          rw [z] at ha
          by_cases z2 : d = pl
          · rw [z2] at ha; exact ha hpl
          · rw [put_ne z2] at hd; exact ha hd
        have n2 : a ≠ pl := fun z => ha (by rw [z]; exact hpl)
        rw [put_ne n1, put_ne n2]) put_same
    | cons p ps =>
      rw [htok] at hq
      rw [decide_eq_false (by simp; omega)]
      walk_at "dl"
      refine frzOf put_same ?_
      rw [del_put hpl]
      walk_at "dl"
      exact hq
end
end K

set_option Elab.async false
set_option linter.all false
set_option maxRecDepth 100000
/-! rows parted sign by sign: the same pieces -/
namespace TK
open PySem L2 PC
def snocC (f : List (List Nat)) (c : Nat) : List (List Nat) := f.dropLast ++ [f.getLastD [] ++ [c]]
theorem snocC_app (g : List (List Nat)) (x : List Nat) (c : Nat) : snocC (g ++ [x]) c = g ++ [x ++ [c]] := by
  unfold snocC
  rw [List.dropLast_concat, List.getLastD_concat]
/-- states: 0 none, 1 a run, 2 a text, 3 behind = -/
def stepC (y : List (List Nat) × Nat) (c : Nat) : List (List Nat) × Nat :=
  if y.2 = 2 then (snocC y.1 c, if c = 34 then 0 else 2)
  else if (rc c = true ∧ y.2 = 1) ∨ (c = 61 ∧ y.2 = 3) then (snocC y.1 c, if c = 61 then 0 else 1)
  else (y.1 ++ [[c]], if c = 61 then 3 else if c = 34 then 2 else if rc c = true then 1 else 0)
theorem step2 (f : List (List Nat)) (c : Nat) : stepC (f, 2) c = (snocC f c, if c = 34 then 0 else 2) := by simp [stepC]
theorem step0 (f : List (List Nat)) (c : Nat) : stepC (f, 0) c = (f ++ [[c]], if c = 61 then 3 else if c = 34 then 2 else if rc c = true then 1 else 0) := by simp [stepC]
theorem step1r {f : List (List Nat)} {c : Nat} (h : rc c = true) (h2 : c ≠ 61) : stepC (f, 1) c = (snocC f c, 1) := by simp [stepC, h, h2]
theorem step1n {f : List (List Nat)} {c : Nat} (h : ¬ rc c = true) : stepC (f, 1) c = stepC (f, 0) c := by simp [stepC, h]
theorem step3e (f : List (List Nat)) : stepC (f, 3) 61 = (snocC f 61, 0) := by simp [stepC]
theorem step3n {f : List (List Nat)} {c : Nat} (h : c ≠ 61) : stepC (f, 3) c = stepC (f, 0) c := by simp [stepC, h]
def sortF (x : List Nat) : Option Pc :=
  if x.headD 0 ∈ FGl then numPc x
  else if x.headD 0 = 34 then (if x.length < 43 then some (.text (mk x.tail.dropLast)) else none)
  else if mk x ∈ SGs then some (.sign (mk x))
  else if mk x ∈ WDs then some (.word (mk x))
  else if x.headD 0 ∉ LTl ∨ 12 < x.length then none
  else some (.name (mk x))
def seqO : List (Option Pc) → Option (List Pc)
  | [] => some []
  | none :: _ => none
  | some p :: r => (seqO r).map (p :: ·)
def seqC (cs : List (List Nat)) : Option (List Pc) := seqO ((cs.filter (· ≠ [32])).map sortF)
theorem seqC_nil : seqC [] = some [] := rfl
theorem seqC_blank (cs : List (List Nat)) : seqC ([32] :: cs) = seqC cs := by unfold seqC; rw [List.filter_cons_of_neg (by simp)]
theorem seqC_cons {x : List Nat} (h : x ≠ [32]) (cs : List (List Nat)) : seqC (x :: cs) = match sortF x with
    | none => none
    | some p => (seqC cs).map (p :: ·) := by
  unfold seqC
  rw [List.filter_cons_of_pos (by simpa using h), List.map_cons]
  cases sortF x <;> rfl
/-- what is meant: behind the signs of l, from no state on -/
def Fits (l : List Nat) (f : List (List Nat)) (R : List (List Nat) × Nat) : Prop := (R.2 = 2 → tokF l = none) ∧ (R.2 ≠ 2 → ∃ cs, R.1 = f ++ cs ∧ tokF l = seqC cs)
theorem run_fold : ∀ (t : List Nat) (g : List (List Nat)) (x rest : List Nat), (∀ c ∈ t, rc c = true) → List.foldl stepC (g ++ [x], 1) (t ++ rest) = List.foldl stepC (g ++ [x ++ t], 1) rest
  | [], g, x, rest, _ => by rw [List.nil_append, List.append_nil]
  | c :: t, g, x, rest, h => by
    have hc := h c List.mem_cons_self
    have h61 : c ≠ 61 := fun z => by rw [z, rc61] at hc; cases hc
    have e : stepC (g ++ [x], 1) c = (g ++ [x ++ [c]], 1) := by rw [step1r hc h61, snocC_app]
    rw [List.cons_append, List.foldl_cons, e, run_fold t g (x ++ [c]) rest fun d hd => h d (List.mem_cons_of_mem _ hd), List.append_assoc]
    rfl
theorem text_fold : ∀ (t : List Nat) (g : List (List Nat)) (x rest : List Nat), 34 ∉ t → List.foldl stepC (g ++ [x], 2) (t ++ rest) = List.foldl stepC (g ++ [x ++ t], 2) rest
  | [], g, x, rest, _ => by rw [List.nil_append, List.append_nil]
  | c :: t, g, x, rest, h => by
    have hc : c ≠ 34 := fun z => h (by rw [z]; exact List.mem_cons_self)
    have e : stepC (g ++ [x], 2) c = (g ++ [x ++ [c]], 2) := by rw [step2, snocC_app, if_neg hc]
    rw [List.cons_append, List.foldl_cons, e, text_fold t g (x ++ [c]) rest fun z => h (List.mem_cons_of_mem _ z), List.append_assoc]
    rfl
/-- behind a run and behind =: as from no state on -/
theorem shut1 {g : List (List Nat)} {d : Nat} {r : List Nat} (h : ¬ rc d = true) : List.foldl stepC (g, 1) (d :: r) = List.foldl stepC (g, 0) (d :: r) := by rw [List.foldl_cons, List.foldl_cons, step1n h]
theorem shut3 {g : List (List Nat)} {d : Nat} {r : List Nat} (h : d ≠ 61) : List.foldl stepC (g, 3) (d :: r) = List.foldl stepC (g, 0) (d :: r) := by rw [List.foldl_cons, List.foldl_cons, step3n h]
theorem fits_cons {l rest x : List Nat} {f : List (List Nat)} {R : List (List Nat) × Nat} (hx : x ≠ [32]) (ht : tokF l = match sortF x with
    | none => none
    | some p => (tokF rest).map (p :: ·)) (h : Fits rest (f ++ [x]) R) : Fits l f R := by
  refine ⟨fun z => ?_, fun z => ?_⟩
  · rw [ht, h.1 z]
    cases sortF x <;> rfl
  · obtain ⟨cs, e1, e2⟩ := h.2 z
    refine ⟨x :: cs, by rw [e1, List.append_assoc]; rfl, ?_⟩
    rw [ht, seqC_cons hx, e2]
theorem sign_words : ∀ s ∈ SGs, s ∉ WDs := by decide +kernel
theorem sort_run {l : List Nat} (h : ∀ c ∈ l, rc c = true) (hne : l ≠ []) : sortF l = runPc l := by
  cases l with
  | nil => exact absurd rfl hne
  | cons c r =>
    have hc := h c List.mem_cons_self
    unfold sortF runPc
    rw [show (c :: r).headD 0 = c from rfl]
    by_cases h1 : c ∈ FGl
    · rw [if_pos h1, if_pos h1]
    · have h2 : c ∈ LTl := by unfold rc at hc; simpa [h1] using hc
      have h3 : c ≠ 34 := fun z => by rw [z, rc34] at hc; cases hc
      have h4 : mk (c :: r) ∉ SGs := fun z => by
        obtain ⟨d, r', e, a, _⟩ := signs_fact _ z
        rw [mk_cps] at e
        cases e
        rw [hc] at a
        cases a
      rw [if_neg h1, if_neg h1, if_neg h3, if_neg h4]
      by_cases h5 : mk (c :: r) ∈ WDs
      · rw [if_pos h5, if_pos h5]
      · rw [if_neg h5, if_neg h5]
        by_cases h6 : 12 < (c :: r).length
        · rw [if_pos (.inr h6), if_pos h6]
        · rw [if_neg (fun z => z.elim (fun z => z h2) h6), if_neg h6]
theorem sg_in (c : Nat) : c ∈ SGl ↔ mk [c] ∈ SGs := by
  constructor
  · exact (by decide +kernel : ∀ c ∈ SGl, mk [c] ∈ SGs) c
  · intro h
    have key : ∀ s ∈ SGs, s.cps.toList.length = 1 → s.cps.toList.headD 0 ∈ SGl := by decide +kernel
    have := key _ h (by rw [mk_cps]; rfl)
    rwa [mk_cps] at this
theorem sort_one {c : Nat} (h1 : ¬ rc c = true) (h2 : c ≠ 34) : sortF [c] = if c ∈ SGl then some (.sign (mk [c])) else none := by
  have hf : c ∉ FGl := fun z => h1 (by unfold rc; simp [z])
  have hl : c ∉ LTl := fun z => h1 (by unfold rc; simp [z])
  have hw : mk [c] ∉ WDs := fun z => by
    have := (words_fact _ z).2.1 c (by rw [mk_cps]; exact List.mem_cons_self)
    exact hl this
  unfold sortF
  rw [show [c].headD 0 = c from rfl, if_neg hf, if_neg h2, if_neg hw, if_pos (show c ∉ LTl ∨ 12 < [c].length from .inl hl)]
  by_cases h : c ∈ SGl
  · rw [if_pos h, if_pos ((sg_in c).mp h)]
  · rw [if_neg h, if_neg (fun z => h ((sg_in c).mpr z))]
theorem cut_fits : ∀ (n : Nat) (l : List Nat) (f : List (List Nat)), l.length ≤ n → Fits l f (List.foldl stepC (f, 0) l)
  | _, [], f, _ => ⟨(fun z => by cases z), fun _ => ⟨[], (List.append_nil _).symm, rfl⟩⟩
  | 0, _ :: _, _, h => by simp at h
  | n + 1, c :: r, f, h => by
    rw [List.length_cons] at h
    by_cases h1 : rc c = true
    · have h32 : c ≠ 32 := fun z => by rw [z, rc32] at h1; cases h1
      have h61 : c ≠ 61 := fun z => by rw [z, rc61] at h1; cases h1
      have h34 : c ≠ 34 := fun z => by rw [z, rc34] at h1; cases h1
      have e := List.takeWhile_append_dropWhile (p := rc) (l := r)
      have htw : (c :: r).takeWhile rc = c :: r.takeWhile rc := by rw [List.takeWhile_cons, if_pos h1]
      have hdw : (c :: r).dropWhile rc = r.dropWhile rc := by rw [List.dropWhile_cons, if_pos h1]
      have hall : ∀ d ∈ r.takeWhile rc, rc d = true := fun d hd => mem_tw hd
      have hs : sortF (c :: r.takeWhile rc) = runPc (c :: r.takeWhile rc) := sort_run (fun d hd => by
        rcases List.mem_cons.mp hd with rfl | hd
        · exact h1
        · exact hall d hd) (List.cons_ne_nil _ _)
      have hR : List.foldl stepC (f, 0) (c :: r) = List.foldl stepC (f ++ [c :: r.takeWhile rc], 1) (r.dropWhile rc) := by
        rw [List.foldl_cons]
        have : stepC (f, 0) c = (f ++ [[c]], 1) := by
          rw [step0, if_neg h61, if_neg h34, if_pos h1]
        rw [this]
        conv => lhs; rw [← e]
        rw [run_fold _ _ _ _ hall]
        rfl
      have ht : tokF (c :: r) = match sortF (c :: r.takeWhile rc) with
          | none => none
          | some p => (tokF (r.dropWhile rc)).map (p :: ·) := by
        rw [tokF_cons h32, pieceAt_eq, if_pos h1, htw, hdw, hs]
        cases runPc (c :: r.takeWhile rc) <;> rfl
      have hx : c :: r.takeWhile rc ≠ [32] := fun z => by injection z with z _; exact h32 z
      refine fits_cons hx ht ?_
      rw [hR]
      cases hd : r.dropWhile rc with
      | nil => exact ⟨(fun z => by cases z), fun _ => ⟨[], (List.append_nil _).symm, rfl⟩⟩
      | cons d r' =>
        have hnd : ¬ rc d = true := by
          have := List.head?_dropWhile_not rc r
          rw [hd] at this
          have : rc d = false := this
          rw [this]
          exact nofun
        rw [shut1 hnd]
        refine cut_fits n _ _ ?_
        have := dw_len (q := rc) r
        rw [hd] at this
        omega
    · by_cases h2 : c = 34
      · subst h2
        have e0 : stepC (f, 0) 34 = (f ++ [[34]], 2) := by
          rw [step0]
          rfl
        rw [List.foldl_cons, e0]
        by_cases h3 : 34 ∈ r
        · obtain ⟨e1, e2⟩ := split34 h3
          have e3 := congrArg List.length e1
          rw [List.length_append, List.length_cons] at e3
          have hp := pieceAt_eq 34 r
          rw [if_neg h1, if_pos rfl] at hp
          generalize r.takeWhile (· != 34) = t at e1 e2 e3 hp
          generalize (r.dropWhile (· != 34)).tail = rest at e1 e3 hp
          rw [e1, text_fold _ _ _ _ e2, List.foldl_cons]
          have e4 : stepC (f ++ [[34] ++ t], 2) 34 = (f ++ [34 :: (t ++ [34])], 0) := by
            rw [step2, snocC_app, if_pos rfl]
            simp
          rw [e4]
          refine fits_cons (x := 34 :: (t ++ [34])) (by simp) ?_ (cut_fits n rest _ (by omega))
          rw [tokF_cons (by decide), ← e1, hp]
          unfold sortF
          have g1 : (34 :: (t ++ [34])).headD 0 = 34 := rfl
          have g2 : (34 :: (t ++ [34])).tail.dropLast = t := by simp
          rw [g1, if_neg (show (34 : Nat) ∉ FGl by decide +kernel), if_pos (show (34 : Nat) = 34 from rfl), g2]
          by_cases h4 : t.length ≤ 40
          · rw [if_pos ⟨h3, h4⟩, if_pos (by simp; omega)]
          · rw [if_neg (fun z => h4 z.2), if_neg (by simp; omega)]
        · have := text_fold r f [34] [] h3
          rw [List.append_nil] at this
          rw [this, List.foldl_nil]
          refine ⟨fun _ => ?_, fun z => absurd rfl z⟩
          rw [tokF_cons (by decide), pieceAt_eq, if_neg h1, if_pos rfl, if_neg (fun z => h3 z.1)]
      · by_cases h3 : c = 61
        · subst h3
          have e0 : stepC (f, 0) 61 = (f ++ [[61]], 3) := by
            rw [step0, if_pos rfl]
          rw [List.foldl_cons, e0]
          have one : r.head? ≠ some 61 → tokF (61 :: r) = match sortF [61] with
              | none => none
              | some p => (tokF r).map (p :: ·) := fun hn => by
            rw [tokF_cons (by decide), pieceAt_eq, if_neg h1, if_neg h2, if_neg (fun z => hn z.2), sort_one h1 h2]
            by_cases hg : 61 ∈ SGl
            · rw [if_pos hg, if_pos hg]
            · rw [if_neg hg, if_neg hg]
          cases r with
          | nil => exact fits_cons (x := [61]) (by simp) (one nofun) ⟨(fun z => by cases z), fun _ => ⟨[], (List.append_nil _).symm, rfl⟩⟩
          | cons d r =>
            rw [List.length_cons] at h
            by_cases h4 : d = 61
            · subst h4
              have e1 : stepC (f ++ [[61]], 3) 61 = (f ++ [[61, 61]], 0) := by
                rw [step3e, snocC_app]
                rfl
              rw [List.foldl_cons, e1]
              refine fits_cons (x := [61, 61]) (by simp) ?_ (cut_fits n r _ (by omega))
              rw [tokF_cons (by decide), pieceAt_eq, if_neg h1, if_neg h2, if_pos ⟨rfl, rfl⟩]
              have : sortF [61, 61] = some (.sign "==") := by
                unfold sortF
                rw [if_neg (show ([61, 61] : List Nat).headD 0 ∉ FGl by decide +kernel), if_neg (show ¬ ([61, 61] : List Nat).headD 0 = 34 by decide +kernel), if_pos (show mk [61, 61] ∈ SGs by decide +kernel), ← (mk_of (by decide +kernel) : Str.ofString "==" = mk [61, 61])]
              rw [this]
              rfl
            · rw [shut3 h4]
              refine fits_cons (x := [61]) (by simp) (one (fun z => h4 (Option.some.inj z))) (cut_fits n _ _ (by rw [List.length_cons]; omega))
        · have e0 : stepC (f, 0) c = (f ++ [[c]], 0) := by
            rw [step0, if_neg h3, if_neg h2, if_neg h1]
          rw [List.foldl_cons, e0]
          by_cases h32 : c = 32
          · subst h32
            obtain ⟨a, b⟩ := cut_fits n r (f ++ [[32]]) (by omega)
            refine ⟨fun z => by rw [tokF_blank]; exact a z, fun z => ?_⟩
            obtain ⟨cs, e1, e2⟩ := b z
            exact ⟨[32] :: cs, by rw [e1, List.append_assoc]; rfl, by rw [tokF_blank, e2, seqC_blank]⟩
          · refine fits_cons (x := [c]) (fun z => h32 (by injection z)) ?_ (cut_fits n r _ (by omega))
            rw [tokF_cons h32, pieceAt_eq, if_neg h1, if_neg h2, if_neg (fun z => h3 z.1), sort_one h1 h2]
            by_cases hg : c ∈ SGl
            · rw [if_pos hg, if_pos hg]
            · rw [if_neg hg, if_neg hg]
end TK

set_option Elab.async false
set_option linter.all false
set_option maxRecDepth 100000
/-! ### k02: the law's own parting -/
namespace K
open PySem L2 Evl EX PC DL TK
structure TH (K : PySem.W.Frag) (mg : Str → Option Value) (wa CE CR CB : Addr) : Prop extends TG K mg wa CE CR where
  BadTree : GlD K mg "BadTree" (.ref CB)
abbrev PLAIN : Str := "abcdefghijklmnopqrstuvwxyzABCDEFGHIJKLMNOPQRSTUVWXYZ0123456789"
theorem plain_rc (c : Nat) : decide (c ∈ PLAIN.cps.toList) = rc c := by
  have e : PLAIN.cps.toList = LTl ++ FGl := by decide +kernel
  rw [e]
  unfold rc
  simp
def stT (n : Nat) : Str := if n = 1 then Str.ofString "run" else if n = 2 then Str.ofString "text" else if n = 3 then Str.ofString "like" else Str.ofString ""
def chD (x : List Nat) : D := .str (mk x)
section
variable {P : Program} {w : World} {K : PySem.W.Frag} {mg : Str → Option Value} {base : Heap} {wa CE CR CB : Addr}
local macro_rules | `(tactic| walk_at "dl") => `(tactic| try simp only [↓x_frzE, ↓x_lr, ↓x_lrT, ↓x_lcN, ↓x_diRev, x_revL, x_revT, ↓x_extT, ↓x_sortDS, ↓x_diR3, ↓x_dupd, ↓x_callX, ↓x_up, ↓x_opX, ↓x_setX, ↓x_asgX, ↓x_retX, ↓x_testX, ↓x_ifX, ↓x_raise, ↓x_tryAs, ↓x_tryO, ↓x_isiX, ↓x_xf, NM.str_eq, String.reduceEq, ↓x_neg, ↓x_lcS, ↓x_lockE, ↓x_eqA, ↓x_dictD, ↓x_disp, ↓x_pNil, ↓x_pCons, ↓x_forS, ↓x_diSL, ↓x_diKeys, ↓x_lock, ↓x_dictP, ↓x_fld, ↓x_fldS, ↓x_fldA, ↓x_meth, ↓x_make, ↓x_dget, ↓x_din, ↓x_dget1, ↓x_dget2, ↓x_dpop, ↓x_dput, ↓x_listD, ↓x_sortDI, ↓x_lenD, ↓x_isiC, x_icS, x_icI, x_icB, x_icN, x_ioS, x_ioI, x_ioB, x_ioN, ↓x_gSub, ↓x_sortDL, ↓x_eqO, ↓x_ninA, x_catN, x_isBB, x_isBN, x_isBI, x_isBS, x_isBR, ↓x_seq, ↓x_nx, ↓x_pass, ↓x_brk, ↓x_cnt, ↓x_drop, ↓x_ret, ↓x_retN, ↓x_ifS, ↓x_set, ↓x_asg, ↓x_gN, ↓x_gT, ↓x_gsC, ↓x_gsN, ↓x_var, x_rdv, ↓x_c, ↓x_op, ↓x_test, x_tst, ↓x_and, ↓x_or, ↓x_not, ↓x_andV, ↓x_orV, ↓x_notV, x_tstV, ↓x_ifE, x_true, x_false, ↓x_nil, ↓x_cons, ↓x_tup, ↓x_lst, ↓x_new, ↓x_newD, ↓x_call, ↓x_cb, x_oI, x_oIc, x_oS, x_addS, x_isN, x_notN, x_eqI, x_eqS, x_eqIS, x_eqSI, x_eqNS, x_neI, x_neS, x_neB, x_eqB, x_few, x_need, ↓x_ix, x_lenS, x_ixL0, x_ixT0, x_ixT1, x_ixT2, x_ixT3, x_ixT4, x_lenL, x_lenT, x_lenC, x_listL, x_listT, x_tupL, x_tupT, x_strI, x_strS, x_int1, x_intB, x_I1, x_I2, x_cat, x_catT, ↓x_split, ↓x_for, ↓x_cut, ↓x_lc, ↓x_whl, ↓x_diL, ↓x_diT, ↓x_diS, x_itL, x_itC, x_itT, x_itS, ↓x_diR1, ↓x_diR2, ↓x_diE, x_enmL, x_enmC, ↓x_gcN, ↓x_gcT, ↓x_yes, ↓x_ml, ↓x_ms, x_strq, x_ss, x_ssc, x_ssi, ↓x_join, ↓x_aug, x_st2I, ↓x_sl, ↓x_noP, ↓x_part, x_intq, x_slL, x_slC, x_slS, ↓x_in, x_inT, x_inL, x_ninT, x_ninL, x_inN, x_inSS, x_inSI, x_inIS, x_inII, ↓x_sg, x_sgS, x_nsgS, ↓x_eqD, ↓x_inDD, x_mulS, ↓x_isi, x_isiS, x_isiI, x_isiB, x_isiN, x_isiL, x_isiT, ↓x_isTT, x_itI, x_itStr, x_itN, x_itB, x_itLst, x_itTup, ↓x_any, ↓x_all, ↓x_sum, ↓x_srtI, ↓x_srtS, ↓x_intS, ↓x_lenRf, ↓x_tupRf, ↓x_frz', x_flS, x_flI, x_flN, x_flB, x_cs_bool, x_isB_NoneType_bool, x_isB_bool_bool, x_isB_int_bool, x_isB_str_bool, x_isB_list_bool, x_isB_tuple_bool, x_isB_dict_bool, x_cs_int, x_isB_NoneType_int, x_isB_bool_int, x_isB_int_int, x_isB_str_int, x_isB_list_int, x_isB_tuple_int, x_isB_dict_int, x_cs_str, x_isB_NoneType_str, x_isB_bool_str, x_isB_int_str, x_isB_str_str, x_isB_list_str, x_isB_tuple_str, x_isB_dict_str, x_cs_list, x_isB_NoneType_list, x_isB_bool_list, x_isB_int_list, x_isB_str_list, x_isB_list_list, x_isB_tuple_list, x_isB_dict_list, x_cs_tuple, x_isB_NoneType_tuple, x_isB_bool_tuple, x_isB_int_tuple, x_isB_str_tuple, x_isB_list_tuple, x_isB_tuple_tuple, x_isB_dict_tuple, x_cs_dict, x_isB_NoneType_dict, x_isB_bool_dict, x_isB_int_dict, x_isB_str_dict, x_isB_list_dict, x_isB_tuple_dict, x_isB_dict_dict, List.all_cons, List.all_nil, Bool.and_self, Bool.or_false, Bool.or_true, Bool.false_or, Bool.true_or, wipeD, setD, DL.isNon, List.set_cons_zero, List.set_cons_succ, List.getElem?_cons_zero, List.getElem?_cons_succ, List.length_cons, List.length_nil, Nat.zero_add, List.cons_append, List.nil_append, decide_true, decide_false, Bool.not_true, Bool.not_false, true_and, and_true, startD, List.map_cons, List.map_nil, Nat.reduceSub, Nat.reduceLeDiff, Nat.zero_le, Int.reduceLT, Int.reduceLE, and_self, Nat.reduceAdd, List.replicate])
theorem ix2D {S : Sto} {k : DK} {a b : D} {c : Bool} (q : k (if c = true then b else a) S) : ixq (.list [a, b]) (if c = true then 1 else 0) S k ⟨⟩ := by
  cases c with
  | true => exact ixAt (j := 1) (.inl rfl) rfl q
  | false => exact ixAt (j := 0) (.inl rfl) rfl q
theorem ixLast {S : Sto} {k : DK} {a : Addr} {l : List D} {x : D} (h : S a = some (.lst (l ++ [x]))) (q : k x S) : ixq (.ref a) (-1) S k ⟨⟩ := ⟨l ++ [x], x, h, by unfold atI; rw [List.length_append, List.length_singleton, show ixN (l.length + 1) (-1) = some l.length by unfold ixN; simp; omega]; simp, q⟩
theorem ixNLast (l : List D) (x : D) : ixN (l ++ [x]).length (-1) = some l.length := by
  unfold ixN
  simp
  omega
def dCutR : SpD := fun ds S q _ => ∃ row : List Nat, ds = [.str (mk row)] ∧ row.length ≤ 5000 ∧ (∀ c ∈ row, c < 128) ∧
  ∀ S', (∀ a, S a ≠ none → S' a = S a) → q (if (List.foldl stepC ([], 0) row).2 = 2 then .non else .list (((List.foldl stepC ([], 0) row).1.filter (· ≠ [32])).map chD)) S'
structure CutI (f : List (List Nat)) (s n : Nat) : Prop where
  len : f.length ≤ n
  st : s ≤ 3
  ne : s ≠ 0 → f ≠ []
  sum : ∀ x ∈ f, x.length ≤ n
theorem getLastD_mem {f : List (List Nat)} (h : f ≠ []) : ∃ g x, f = g ++ [x] := by
  rcases List.eq_nil_or_concat f with h2 | ⟨g, x, h2⟩
  · exact absurd h2 h
  · exact ⟨g, x, by rw [h2, List.concat_eq_append]⟩
theorem CutI.next {f : List (List Nat)} {s n c : Nat} (h : CutI f s n) : CutI (stepC (f, s) c).1 (stepC (f, s) c).2 (n + 1) := by
  have app : ∀ (t : Nat), t ≤ 3 → CutI (f ++ [[c]]) t (n + 1) := fun t ht => ⟨by rw [List.length_append]; have := h.len; simp; omega, ht, fun _ => by simp, fun x hx => by
    rcases List.mem_append.mp hx with hx | hx
    · have := h.sum x hx; omega
    · rw [List.mem_singleton.mp hx]; simp⟩
  have sn : s ≠ 0 → ∀ t, t ≤ 3 → CutI (snocC f c) t (n + 1) := fun hs t ht => by
    obtain ⟨g, x, rfl⟩ := getLastD_mem (h.ne hs)
    rw [snocC_app]
    have h1 := h.len
    refine ⟨by simp at h1 ⊢; omega, ht, fun _ => by simp, fun y hy => ?_⟩
    rcases List.mem_append.mp hy with hy | hy
    · have := h.sum y (List.mem_append_left _ hy); omega
    · rw [List.mem_singleton.mp hy, List.length_append]
      have := h.sum x (by simp)
      simp
      omega
  have := h.st
  unfold stepC
  split
  · rename_i h2
    exact sn (fun z => by simp at h2; omega) _ (by dsimp only; split <;> omega)
  · split
    · rename_i h2
      exact sn (fun z => by simp at h2; omega) _ (by dsimp only; split <;> omega)
    · exact app _ (by dsimp only; split <;> (try split) <;> (try split) <;> omega)
theorem st_eq {s : Nat} (h : s ≤ 3) {x : String} (n : Nat) (hn : n ≤ 3) (hx : Str.ofString x = stT n) : decide (stT s = Str.ofString x) = decide (s = n) := by
  rw [hx]
  exact (by decide +kernel : ∀ s, s ≤ 3 → ∀ n, n ≤ 3 → decide (stT s = stT n) = decide (s = n)) s h n hn
theorem set_snoc (g : List (List Nat)) (x : List Nat) (c : Nat) : (g.map chD ++ [chD x]).set (g.map chD).length (.str (mk x ++ ⟨#[c]⟩)) = (g ++ [x ++ [c]]).map chD := by
  rw [List.set_append_right _ _ (Nat.le_refl _), Nat.sub_self, List.map_append]
  show _ ++ [_] = _ ++ [chD (x ++ [c])]
  unfold chD
  rw [show mk (x ++ [c]) = mk x ++ ⟨#[c]⟩ from str_ext (by rw [PyProof.Rows.cps_toList_append, mk_cps, mk_cps])]
theorem ok_cut {fa : Addr} {fd : FuncData} (F : Fun K "_law_cut" "_law_cut" s__law_cut fa fd) (T : TH K mg wa CE CR CB) : FnOk P w K mg base CX0 1 fa fd ["_law_row_here"] (lSp K dCutR) := by
  refine dok F sc__law_cut (fun ds S q qx ⟨_, e, _⟩ => by rw [e]; rfl) ⟨_, fun cdv A outer s H E hr => dss_cons (ds_set (i := 1) sc__law_cut.nd rfl (Or.inl rfl) (de_new (da_nil)))
      (dss_cons (ds_set (i := 2) sc__law_cut.nd rfl (Or.inl rfl) (de_str))
      (dss_cons (ds_for PassesOwn.never rfl (di_str (de_var 0)) (dg_name (i := 3) sc__law_cut.nd rfl (Or.inl rfl))
        (dss_cons (ds_set (i := 4) sc__law_cut.nd rfl (Or.inl rfl) (de_cmp op_in_sign si_sg (de_var 3) (de_str) (by rfl)))
        (dss_one (ds_if (dt_cmp op_eq si_eq (de_var 2) (de_str) (nomark _))
          (dss_cons (ds_asg (de_op op_add_str si_addS (de_ix ix_seq (si_ix rfl) (de_var 1) (de_neg (de_int)) (fun _ _ => rfl)) (de_var 3)) (dg_sub (de_var 1) (de_neg (de_int))))
          (dss_one (ds_set (i := 2) sc__law_cut.nd rfl (Or.inl rfl) (de_ix ix_seq (si_ix rfl) (de_lst (da_cons (de_str) (da_cons (de_str) da_nil))) (de_callTy call_int1 si_int1 (by rfl) T.int (by decide +kernel) (da_cons (de_cmp op_eq si_eq (de_var 3) (de_str) (nomark _)) da_nil)) (fun _ _ => rfl)))))
          (dss_one (ds_if (PW.pt (dw_or (PW.pt (dw_and (dt_val (de_var 4)) (dw_and1 (dt_cmp op_eq si_eq (de_var 2) (de_str) (nomark _))))) (dw_or1 (PW.pt (dw_and (dt_cmp op_eq si_eq (de_var 3) (de_str) (nomark _)) (dw_and1 (dt_cmp op_eq si_eq (de_var 2) (de_str) (nomark _))))))))
            (dss_cons (ds_asg (de_op op_add_str si_addS (de_ix ix_seq (si_ix rfl) (de_var 1) (de_neg (de_int)) (fun _ _ => rfl)) (de_var 3)) (dg_sub (de_var 1) (de_neg (de_int))))
            (dss_one (ds_set (i := 2) sc__law_cut.nd rfl (Or.inl rfl) (de_ix ix_seq (si_ix rfl) (de_lst (da_cons (de_str) (da_cons (de_str) da_nil))) (de_callTy call_int1 si_int1 (by rfl) T.int (by decide +kernel) (da_cons (de_cmp op_eq si_eq (de_var 3) (de_str) (nomark _)) da_nil)) (fun _ _ => rfl)))))
            (dss_cons (ds_expr (de_ml PySem.F.slot_list_append PySem.F.type_list_append mt_append si_app (de_var 1) (da_cons (de_var 3) da_nil)))
            (dss_cons (ds_set (i := 2) sc__law_cut.nd rfl (Or.inl rfl) (de_str))
            (dss_cut (ds_if (dt_val (de_var 4))
              (dss_one (ds_set (i := 2) sc__law_cut.nd rfl (Or.inl rfl) (de_str)))
              (dss_nil))
            (dss_cut (ds_if (dt_cmp op_eq si_eq (de_var 3) (de_str) (nomark _))
              (dss_one (ds_set (i := 2) sc__law_cut.nd rfl (Or.inl rfl) (de_str)))
              (dss_nil))
            (dss_one (ds_if (dt_cmp op_eq si_eq (de_var 3) (de_str) (nomark _))
              (dss_one (ds_set (i := 2) sc__law_cut.nd rfl (Or.inl rfl) (de_str)))
              (dss_nil)))))))))))))
      (dss_cons (ds_if (dt_cmp op_eq si_eq (de_var 2) (de_str) (nomark _))
        (dss_one (ds_ret (de_non)))
        (dss_nil))
      (dss_one (ds_ret (de_lc (own := [("_law_one", 5)]) (gc_name (j := 5) (by decide)) rfl sc__law_cut.nd (di_list (K := K) (de_frz 1)) (blkOk_by (N := N__law_cut) (sc := defScope s__law_cut) (by decide +kernel)) (fun _ _ _ _ _ => pg_name (i := 5) sc__law_cut.nd rfl (Or.inl rfl)) (fun _ _ _ _ _ => dts_one (dt_cmp op_ne si_ne (de_var 5) (de_str) (nomark _))) (fun _ _ _ _ _ => de_var 5))))))), fun ds S q qx ⟨row, hd, hz, hc128, hq⟩ => ?_⟩
  subst hd
  walk_at "dl"
  refine freshOf fun fp hfp => ?_
  walk_at "dl"
  refine forOf (fun i δ S' => ∃ f s, (f, s) = List.foldl stepC ([], 0) (row.take i) ∧ CutI f s i ∧ (∃ z3 z4 z5, δ = [some (.str (mk row)), some (.ref fp), some (.str (stT s)), z3, z4, z5]) ∧ S' = put S fp (.lst (f.map chD))) ⟨[], 0, rfl, ⟨Nat.zero_le _, by decide, fun z => absurd rfl z, (fun x hx => by cases hx)⟩, ⟨_, _, _, rfl⟩, rfl⟩ ?_ ?_
  · rintro i d δ S' hi ⟨f, s, hf, hI, ⟨z3, z4, z5, rfl⟩, rfl⟩
    rw [List.getElem?_map] at hi
    obtain ⟨c, hc, rfl⟩ := Option.map_eq_some_iff.mp hi
    have hil := (List.getElem?_eq_some_iff.mp hc).1
    have hnext := hI.next (c := c)
    have hfold : List.foldl stepC ([], 0) (row.take (i + 1)) = stepC (f, s) c := by
      rw [List.take_add_one, hc, List.foldl_append, ← hf]
      rfl
    rw [hfold]
    have hst := hI.st
    have hlen := hI.len
    have hput : put S fp (.lst (f.map chD)) fp = some (.lst (f.map chD)) := put_same
    walk_at "dl"
    rw [plain_rc]
    rw [st_eq hst 2 (by decide) rfl]
    by_cases h2 : s = 2
    · subst h2
      obtain ⟨g, x, rfl⟩ := getLastD_mem (hI.ne (by decide))
      have hx := hI.sum x (by simp)
      rw [step2, snocC_app] at hnext ⊢
      rw [show (g ++ [x]).map chD = g.map chD ++ [chD x] by rw [List.map_append]; rfl] at hput ⊢
      rw [decide_eq_true rfl]
      walk_at "dl"
      refine ixLast hput ?_
      unfold chD
      walk_at "dl"
      refine fewOf (by rw [mk_len]; show _ + 1 ≤ _; omega) ?_
      walk_at "dl"
      refine setOf hput (ixNLast _ _) ?_
      rw [put_put]
      rw [set_snoc]
      walk_at "dl"
      rw [sgS1 c "\"" 34 (by decide +kernel)]
      refine ix2D ?_
      rw [show (if decide (c = 34) = true then D.str (Str.ofString "") else D.str (Str.ofString "text")) = D.str (stT (if c = 34 then 0 else 2)) by
        by_cases h34 : c = 34
        · rw [if_pos h34, if_pos (decide_eq_true h34)]; rfl
        · rw [if_neg h34, if_neg (by simpa using h34)]; rfl]
      exact ⟨_, _, rfl, hnext, ⟨_, _, _, rfl⟩, rfl⟩
    rw [decide_eq_false h2, x_false]
    refine x_ifP (b := (rc c && decide (s = 1)) || (decide (c = 61) && decide (s = 3))) (pv_or (pv_and (fun k hk => ?_) fun _ k hk => ?_) fun _ => pv_and (fun k hk => ?_) fun _ k hk => ?_) ?_
    · walk_at "dl"
      exact hk
    · walk_at "dl"
      rw [st_eq hst 1 (by decide) rfl]
      exact hk
    · walk_at "dl"
      rw [sgS1 c "=" 61 (by decide +kernel)]
      exact hk
    · walk_at "dl"
      rw [st_eq hst 3 (by decide) rfl]
      exact hk
    by_cases h13 : (rc c = true ∧ s = 1) ∨ (c = 61 ∧ s = 3)
    · have hb : ((rc c && decide (s = 1)) || (decide (c = 61) && decide (s = 3))) = true := by
        rcases h13 with ⟨a, b⟩ | ⟨a, b⟩ <;> simp [a, b]
      rw [hb]
      have hs0 : s ≠ 0 := by rcases h13 with ⟨_, b⟩ | ⟨_, b⟩ <;> omega
      obtain ⟨g, x, rfl⟩ := getLastD_mem (hI.ne hs0)
      have hx := hI.sum x (by simp)
      have hstep : stepC (g ++ [x], s) c = (g ++ [x ++ [c]], if c = 61 then 0 else 1) := by
        unfold stepC
        simp only [if_neg h2, if_pos h13, snocC_app]
      rw [hstep] at hnext ⊢
      rw [show (g ++ [x]).map chD = g.map chD ++ [chD x] by rw [List.map_append]; rfl] at hput ⊢
      walk_at "dl"
      refine ixLast hput ?_
      unfold chD
      walk_at "dl"
      refine fewOf (by rw [mk_len]; show _ + 1 ≤ _; omega) ?_
      walk_at "dl"
      refine setOf hput (ixNLast _ _) ?_
      rw [put_put]
      rw [set_snoc]
      walk_at "dl"
      rw [sgS1 c "=" 61 (by decide +kernel)]
      refine ix2D ?_
      rw [show (if decide (c = 61) = true then D.str (Str.ofString "") else D.str (Str.ofString "run")) = D.str (stT (if c = 61 then 0 else 1)) by
        by_cases h34 : c = 61
        · rw [if_pos h34, if_pos (decide_eq_true h34)]; rfl
        · rw [if_neg h34, if_neg (by simpa using h34)]; rfl]
      exact ⟨_, _, rfl, hnext, ⟨_, _, _, rfl⟩, rfl⟩
    · have hb : ((rc c && decide (s = 1)) || (decide (c = 61) && decide (s = 3))) = false := by
        rw [Bool.eq_false_iff]
        intro z
        simp only [Bool.or_eq_true, Bool.and_eq_true, decide_eq_true_eq] at z
        exact h13 z
      rw [hb]
      have hstep : stepC (f, s) c = (f ++ [[c]], if c = 61 then 3 else if c = 34 then 2 else if rc c = true then 1 else 0) := by
        unfold stepC
        simp only [if_neg h2, if_neg h13]
      rw [hstep] at hnext ⊢
      walk_at "dl"
      refine needOf (isLOf hput) ?_
      walk_at "dl"
      refine appOf hput (by rw [List.length_map]; omega) ?_
      rw [put_put]
      walk_at "dl"
      have e1 : f.map chD ++ [.str ⟨#[c]⟩] = (f ++ [[c]]).map chD := by rw [List.map_append]; rfl
      rw [e1]
      refine cutOf (fun δ S' => δ = [some (.str (mk row)), some (.ref fp), some (.str (stT (if rc c = true then 1 else 0))), some (.str ⟨#[c]⟩), some (.bl (rc c)), z5] ∧ S' = put S fp (.lst ((f ++ [[c]]).map chD))) ?_ ?_
      · walk_at "dl"
        cases hrc : rc c with
        | true =>
          walk_at "dl"
          first | exact ⟨rfl, rfl⟩ | exact rfl
        | false =>
          walk_at "dl"
          try first | exact ⟨rfl, rfl⟩ | exact rfl
      rintro δ S' ⟨rfl, rfl⟩
      refine cutOf (fun δ S' => δ = [some (.str (mk row)), some (.ref fp), some (.str (stT (if c = 34 then 2 else if rc c = true then 1 else 0))), some (.str ⟨#[c]⟩), some (.bl (rc c)), z5] ∧ S' = put S fp (.lst ((f ++ [[c]]).map chD))) ?_ ?_
      · walk_at "dl"
        rw [sgS1 c "\"" 34 (by decide +kernel)]
        by_cases h34 : c = 34
        · rw [decide_eq_true h34, if_pos h34]
          walk_at "dl"
          first | exact ⟨rfl, rfl⟩ | exact rfl
        · rw [decide_eq_false h34, if_neg h34]
          walk_at "dl"
      rintro δ S' ⟨rfl, rfl⟩
      walk_at "dl"
      rw [sgS1 c "=" 61 (by decide +kernel)]
      by_cases h61 : c = 61
      · rw [decide_eq_true h61]
        rw [if_pos h61] at hnext ⊢
        walk_at "dl"
        exact ⟨_, _, rfl, hnext, ⟨_, _, _, rfl⟩, rfl⟩
      · rw [decide_eq_false h61]
        rw [if_neg h61] at hnext ⊢
        walk_at "dl"
        exact ⟨_, _, rfl, hnext, ⟨_, _, _, rfl⟩, rfl⟩
  · rintro δ S' ⟨f, s, hf, hI, ⟨z3, z4, z5, rfl⟩, rfl⟩
    rw [List.length_map, List.take_length] at hf
    rw [← hf] at hq
    have hlen := hI.len
    rw [List.length_map] at hlen
    walk_at "dl"
    rw [st_eq hI.st 2 (by decide) rfl]
    by_cases h2 : s = 2
    · rw [decide_eq_true h2]
      rw [if_pos h2] at hq
      walk_at "dl"
      exact hq _ fun a ha => put_ne fun z => ha (by rw [z]; exact hfp)
    · rw [decide_eq_false h2]
      rw [if_neg h2] at hq
      walk_at "dl"
      refine frzOf put_same ?_
      rw [del_put hfp]
      walk_at "dl"
      refine lcFM (fun d => match d with | .str z => if z = Str.ofString " " then none else some (.str z) | _ => none) (by rw [List.length_map]; omega) (fun p acc d k1 k0 hp hd h1 h0 => ?_) ?_
      · obtain ⟨x, hx, rfl⟩ := List.mem_map.mp hd
        unfold chD at h1 h0 ⊢
        walk_at "dl"
        by_cases hb : mk x = Str.ofString " "
        · rw [decide_eq_true hb]
          walk_at "dl"
          exact h0 (by simp only [if_pos hb])
        · rw [decide_eq_false hb]
          walk_at "dl"
          exact h1 _ (by simp only [if_neg hb])
      · have e2 : (f.map chD).filterMap (fun d => match d with | .str z => if z = Str.ofString " " then none else some (D.str z) | _ => none) = (f.filter (· ≠ [32])).map chD := by
          clear hf hI hlen hq
          induction f with
          | nil => rfl
          | cons x f ih =>
            have key : (mk x = Str.ofString " ") ↔ x = [32] := ⟨fun z => by
              have := congrArg (fun s : Str => s.cps.toList) z
              rw [show (Str.ofString " ").cps.toList = [32] by decide +kernel] at this
              simpa using this, fun z => by rw [z]; decide +kernel⟩
            rw [List.map_cons, List.filterMap_cons]
            unfold chD at ih ⊢
            by_cases hx : x = [32]
            · simp only [if_pos (key.mpr hx)]
              rw [ih, List.filter_cons_of_neg (by simpa using hx)]
            · simp only [if_neg (fun z => hx (key.mp z))]
              rw [ih, List.filter_cons_of_pos (by simpa using hx)]
              rfl
        rw [e2]
        exact hq _ fun _ _ => rfl
end
end K

set_option Elab.async false
set_option linter.all false
set_option maxRecDepth 100000
namespace K
open PySem L2 Evl EX PC DL TK
section
variable {P : Program} {w : World} {K : PySem.W.Frag} {mg : Str → Option Value} {base : Heap} {wa CE CR CB : Addr}
local macro_rules | `(tactic| walk_at "dl") => `(tactic| try simp only [↓x_frzE, ↓x_lr, ↓x_lrT, ↓x_lcN, ↓x_diRev, x_revL, x_revT, ↓x_extT, ↓x_sortDS, ↓x_diR3, ↓x_dupd, ↓x_callX, ↓x_up, ↓x_opX, ↓x_setX, ↓x_asgX, ↓x_retX, ↓x_testX, ↓x_ifX, ↓x_raise, ↓x_tryAs, ↓x_tryO, ↓x_isiX, ↓x_xf, NM.str_eq, String.reduceEq, ↓x_neg, ↓x_lcS, ↓x_lockE, ↓x_eqA, ↓x_dictD, ↓x_disp, ↓x_pNil, ↓x_pCons, ↓x_forS, ↓x_diSL, ↓x_diKeys, ↓x_lock, ↓x_dictP, ↓x_fld, ↓x_fldS, ↓x_fldA, ↓x_meth, ↓x_make, ↓x_dget, ↓x_din, ↓x_dget1, ↓x_dget2, ↓x_dpop, ↓x_dput, ↓x_listD, ↓x_sortDI, ↓x_lenD, ↓x_isiC, x_icS, x_icI, x_icB, x_icN, x_ioS, x_ioI, x_ioB, x_ioN, ↓x_gSub, ↓x_sortDL, ↓x_eqO, ↓x_ninA, x_catN, x_isBB, x_isBN, x_isBI, x_isBS, x_isBR, ↓x_seq, ↓x_nx, ↓x_pass, ↓x_brk, ↓x_cnt, ↓x_drop, ↓x_ret, ↓x_retN, ↓x_ifS, ↓x_set, ↓x_asg, ↓x_gN, ↓x_gT, ↓x_gsC, ↓x_gsN, ↓x_var, x_rdv, ↓x_c, ↓x_op, ↓x_test, x_tst, ↓x_and, ↓x_or, ↓x_not, ↓x_andV, ↓x_orV, ↓x_notV, x_tstV, ↓x_ifE, x_true, x_false, ↓x_nil, ↓x_cons, ↓x_tup, ↓x_lst, ↓x_new, ↓x_newD, ↓x_call, ↓x_cb, x_oI, x_oIc, x_oS, x_addS, x_isN, x_notN, x_eqI, x_eqS, x_eqIS, x_eqSI, x_eqNS, x_neI, x_neS, x_neB, x_eqB, x_few, x_need, ↓x_ix, x_lenS, x_ixL0, x_ixT0, x_ixT1, x_ixT2, x_ixT3, x_ixT4, x_lenL, x_lenT, x_lenC, x_listL, x_listT, x_tupL, x_tupT, x_strI, x_strS, x_int1, x_intB, x_I1, x_I2, x_cat, x_catT, ↓x_split, ↓x_for, ↓x_cut, ↓x_lc, ↓x_whl, ↓x_diL, ↓x_diT, ↓x_diS, x_itL, x_itC, x_itT, x_itS, ↓x_diR1, ↓x_diR2, ↓x_diE, x_enmL, x_enmC, ↓x_gcN, ↓x_gcT, ↓x_yes, ↓x_ml, ↓x_ms, x_strq, x_ss, x_ssc, x_ssi, ↓x_join, ↓x_aug, x_st2I, ↓x_sl, ↓x_noP, ↓x_part, x_intq, x_slL, x_slC, x_slS, ↓x_in, x_inT, x_inL, x_ninT, x_ninL, x_inN, x_inSS, x_inSI, x_inIS, x_inII, ↓x_sg, x_sgS, x_nsgS, ↓x_eqD, ↓x_inDD, x_mulS, ↓x_isi, x_isiS, x_isiI, x_isiB, x_isiN, x_isiL, x_isiT, ↓x_isTT, x_itI, x_itStr, x_itN, x_itB, x_itLst, x_itTup, ↓x_any, ↓x_all, ↓x_sum, ↓x_srtI, ↓x_srtS, ↓x_intS, ↓x_lenRf, ↓x_tupRf, ↓x_frz', x_flS, x_flI, x_flN, x_flB, x_cs_bool, x_isB_NoneType_bool, x_isB_bool_bool, x_isB_int_bool, x_isB_str_bool, x_isB_list_bool, x_isB_tuple_bool, x_isB_dict_bool, x_cs_int, x_isB_NoneType_int, x_isB_bool_int, x_isB_int_int, x_isB_str_int, x_isB_list_int, x_isB_tuple_int, x_isB_dict_int, x_cs_str, x_isB_NoneType_str, x_isB_bool_str, x_isB_int_str, x_isB_str_str, x_isB_list_str, x_isB_tuple_str, x_isB_dict_str, x_cs_list, x_isB_NoneType_list, x_isB_bool_list, x_isB_int_list, x_isB_str_list, x_isB_list_list, x_isB_tuple_list, x_isB_dict_list, x_cs_tuple, x_isB_NoneType_tuple, x_isB_bool_tuple, x_isB_int_tuple, x_isB_str_tuple, x_isB_list_tuple, x_isB_tuple_tuple, x_isB_dict_tuple, x_cs_dict, x_isB_NoneType_dict, x_isB_bool_dict, x_isB_int_dict, x_isB_str_dict, x_isB_list_dict, x_isB_tuple_dict, x_isB_dict_dict, List.all_cons, List.all_nil, Bool.and_self, Bool.or_false, Bool.or_true, Bool.false_or, Bool.true_or, wipeD, setD, DL.isNon, List.set_cons_zero, List.set_cons_succ, List.getElem?_cons_zero, List.getElem?_cons_succ, List.length_cons, List.length_nil, Nat.zero_add, List.cons_append, List.nil_append, decide_true, decide_false, Bool.not_true, Bool.not_false, true_and, and_true, startD, List.map_cons, List.map_nil, Nat.reduceSub, Nat.reduceLeDiff, Nat.zero_le, Int.reduceLT, Int.reduceLE, and_self, Nat.reduceAdd, List.replicate])
abbrev dKeptD : SpD := dKept
def dSorted : SpD := fun ds S q _ => ∃ x : List Nat, ds = [.str (mk x)] ∧ x ≠ [] ∧ x.length ≤ 6000 ∧ q (oD (sortF x)) S
theorem ok_sorted {fa : Addr} {fd : FuncData} (F : Fun K "_law_sorted" "_law_sorted" s__law_sorted fa fd) (T : TH K mg wa CE CR CB) (G__law_kept : DefD P w K mg base 1 "_law_kept" [] dKept) : FnOk P w K mg base CX0 2 fa fd ["_law_one"] (lSp K dSorted) := by
  refine dok F sc__law_sorted (fun ds S q qx ⟨_, e, _⟩ => by rw [e]; rfl) ⟨_, fun cdv A outer s H E hr => dss_cons (ds_if (dt_cmp op_in_sign si_sg (de_ix ix_seq (si_ix rfl) (de_var 0) (de_int) (fun _ _ => rfl)) (de_str) (by rfl))
        (dss_cons (ds_if (PW.pt (dw_or (dt_not (dt_val (de_callB (crAll (K := K)) si_all (by rfl) T.all (by decide +kernel) (da_cons (de_lc (own := [("_law_sign", 1)]) (gc_name (j := 1) (by decide)) rfl sc__law_sorted.nd (di_str (de_var 0)) (blkOk_by (N := N__law_sorted) (sc := defScope s__law_sorted) (by decide +kernel)) (fun _ _ _ _ _ => pg_name (i := 1) sc__law_sorted.nd rfl (Or.inl rfl)) (fun _ _ _ _ _ => dts_nil) (fun _ _ _ _ _ => de_cmp op_in_sign si_sg (de_var 1) (de_str) (by rfl))) da_nil)))) (dw_or (dt_cmp op_gt si_gt (de_callB call_len (si_len rfl) (by rfl) T.len (by decide +kernel) (da_cons (de_var 0) da_nil)) (de_int) (nomark _)) (dw_or1 (PW.pt (dw_and (dt_cmp op_eq si_eq (de_ix ix_seq (si_ix rfl) (de_var 0) (de_int) (fun _ _ => rfl)) (de_str) (nomark _)) (dw_and1 (dt_cmp op_ne si_ne (de_var 0) (de_str) (nomark _)))))))))
          (dss_one (ds_ret (de_non)))
          (dss_nil))
        (dss_one (ds_ret (de_tup (da_cons (de_str) (da_cons (de_callTy call_int_str si_intS (by rfl) T.int (by decide +kernel) (da_cons (de_var 0) da_nil)) da_nil))))))
        (dss_nil))
      (dss_cons (ds_if (dt_cmp op_eq si_eq (de_ix ix_seq (si_ix rfl) (de_var 0) (de_int) (fun _ _ => rfl)) (de_str) (nomark _))
        (dss_one (ds_ret (de_ix ix_seq (si_ix rfl) (de_lst (da_cons (de_non) (da_cons (de_tup (da_cons (de_str) (da_cons (de_slice sl_str si_slS (de_var 0) (do_some (de_int)) (do_some (de_neg (de_int)))) da_nil))) da_nil))) (de_callTy call_int1 si_int1 (by rfl) T.int (by decide +kernel) (da_cons (de_cmp op_lt si_lt (de_callB call_len (si_len rfl) (by rfl) T.len (by decide +kernel) (da_cons (de_var 0) da_nil)) (de_int) (nomark _)) da_nil)) (fun _ _ => rfl))))
        (dss_nil))
      (dss_cons (ds_if (dt_cmp (opIn (K := K)) (si_in false) (de_var 0) (de_split (de_str) (de_str)) (by rfl))
        (dss_one (ds_ret (de_tup (da_cons (de_str) (da_cons (de_var 0) da_nil)))))
        (dss_nil))
      (dss_cons (ds_if (dt_cmp (opIn (K := K)) (si_in false) (de_var 0) (de_call0 G__law_kept (hr.mono (by decide)) (by rfl)) (by rfl))
        (dss_one (ds_ret (de_tup (da_cons (de_str) (da_cons (de_var 0) da_nil)))))
        (dss_nil))
      (dss_cons (ds_if (PW.pt (dw_or (dt_cmp op_notIn_sign si_nsg (de_ix ix_seq (si_ix rfl) (de_var 0) (de_int) (fun _ _ => rfl)) (de_str) (by rfl)) (dw_or1 (dt_cmp op_gt si_gt (de_callB call_len (si_len rfl) (by rfl) T.len (by decide +kernel) (da_cons (de_var 0) da_nil)) (de_int) (nomark _)))))
        (dss_one (ds_ret (de_non)))
        (dss_nil))
      (dss_one (ds_ret (de_tup (da_cons (de_str) (da_cons (de_var 0) da_nil))))))))), fun ds S q qx ⟨x, hd, hne, hz, hq⟩ => ?_⟩
  subst hd
  obtain ⟨c, r, hx⟩ : ∃ c r, x = c :: r := by
    cases x with
    | nil => exact absurd rfl hne
    | cons c r => exact ⟨c, r, rfl⟩
  have hml : (mk x).length ≤ 100000 := by rw [mk_len]; omega
  have hml2 : (mk x).length = x.length := mk_len _
  have hfig : (Str.ofString "0123456789").cps.toList = FGl := by decide +kernel
  have hlet : (Str.ofString "abcdefghijklmnopqrstuvwxyzABCDEFGHIJKLMNOPQRSTUVWXYZ").cps.toList = LTl := by decide +kernel
  unfold sortF at hq
  rw [show x.headD 0 = c by rw [hx]; rfl] at hq
  walk_at "dl"
  refine ixS (j := 0) (c := c) hml (by rw [mk_cps, hx]; rfl) ?_
  walk_at "dl"
  rw [hfig]
  by_cases h1 : c ∈ FGl
  · rw [if_pos h1] at hq
    unfold numPc at hq
    rw [decide_eq_true h1]
    walk_at "dl"
    refine lcOf (fun i acc => acc = (x.take i).map fun c => D.bl (decide (c ∈ FGl))) (by rw [List.length_map]; omega) rfl (fun p hp i d acc hd hP => ?_) (fun acc hacc => ?_)
    · rw [List.getElem?_map] at hd
      obtain ⟨c2, hc, rfl⟩ := Option.map_eq_some_iff.mp hd
      subst hP
      walk_at "dl"
      rw [hfig]
      refine LcO.of hp ?_
      rw [List.take_add_one, hc, List.map_append]
      rfl
    · rw [List.length_map, List.take_length] at hacc
      subst hacc
      walk_at "dl"
      refine ⟨x.map fun c => decide (c ∈ FGl), by rw [List.map_map]; rfl, ?_⟩
      rw [allFg]
      have non : numPc x = none → q .non S := fun h => by
        unfold numPc at h
        rw [h] at hq
        exact hq
      have fin : (∀ d ∈ x, d ∈ FGl) → ¬ 9 < x.length → ¬ (x.head? = some 48 ∧ x ≠ [48]) → stC oIntS [.str (mk x)] S (fun x S1 => few 2 (q (.tup [.str (Str.ofString "number"), x]) S1) ⟨⟩) ⟨⟩ := fun g1 g2 g3 => by
        rw [if_neg (fun z => z.elim g2 fun z => z g1), if_neg g3] at hq
        refine ⟨((NumText.digitsVal x : Nat) : Int), ?_, by rw [mk_len]; omega, fewOf (by decide) hq⟩
        have := PySem.intText_digits (x := mk x) (fun d hd => by
          rw [mk_cps] at hd
          have : ∀ c ∈ FGl, 48 ≤ c ∧ c ≤ 57 := by decide +kernel
          exact this d (g1 d hd)) (by rw [mk_cps]; exact hne) (by rw [mk_len]; omega)
        rwa [mk_cps] at this
      by_cases g1 : ∀ d ∈ x, d ∈ FGl
      · rw [decide_eq_true g1]
        walk_at "dl"
        refine fewOf hml ?_
        walk_at "dl"
        by_cases g2 : 9 < x.length
        · rw [decide_eq_true (by omega)]
          walk_at "dl"
          exact non (by unfold numPc; rw [if_pos (.inl g2)])
        · rw [decide_eq_false (by omega)]
          walk_at "dl"
          refine ixS (j := 0) (c := c) hml (by rw [mk_cps, hx]; rfl) ?_
          walk_at "dl"
          rw [sgS1 c "0" 48 (by decide +kernel)]
          by_cases g3 : c = 48
          · rw [decide_eq_true g3]
            walk_at "dl"
            by_cases g4 : mk x = Str.ofString "0"
            · rw [decide_eq_true g4]
              walk_at "dl"
              refine fin g1 g2 fun z => z.2 ?_
              have := congrArg (fun s : Str => s.cps.toList) g4
              rw [show (Str.ofString "0").cps.toList = [48] by decide +kernel] at this
              simpa using this
            · rw [decide_eq_false g4]
              walk_at "dl"
              refine non (by
                unfold numPc
                rw [if_neg (fun z => z.elim g2 fun z => z g1), if_pos ⟨by rw [hx, g3]; rfl, fun z => g4 (by rw [z]; decide +kernel)⟩])
          · rw [decide_eq_false g3]
            walk_at "dl"
            exact fin g1 g2 fun z => g3 (by rw [hx] at z; exact Option.some.inj z.1)
      · rw [decide_eq_false g1]
        walk_at "dl"
        exact non (by unfold numPc; rw [if_pos (.inr g1)])
  rw [if_neg h1] at hq
  rw [decide_eq_false h1]
  walk_at "dl"
  refine ixS (j := 0) (c := c) hml (by rw [mk_cps, hx]; rfl) ?_
  walk_at "dl"
  rw [sgS1 c "\"" 34 (by decide +kernel)]
  by_cases h2 : c = 34
  · rw [if_pos h2] at hq
    rw [decide_eq_true h2]
    walk_at "dl"
    refine fewOf hml ?_
    walk_at "dl"
    have hcut : cutS (mk x) (some 1) (some (-1)) = mk x.tail.dropLast := mk_of (by
      have hrl : x.length = r.length + 1 := by rw [hx]; rfl
      unfold cutS
      have e1 : HT.sIx (mk x).length 0 (some 1) = 1 := by unfold HT.sIx; rw [mk_len]; simp; omega
      have e2 : HT.sIx (mk x).length (mk x).length (some (-1)) = r.length := by unfold HT.sIx; rw [mk_len]; simp; omega
      rw [e1, e2]
      rw [mk_cps, hx]
      simp [List.dropLast_eq_take])
    rw [hcut]
    refine fewOf hml ?_
    walk_at "dl"
    refine ix2D ?_
    rw [hml2]
    have e3 : (if decide ((x.length : Int) < 43) = true then D.tup [.str (Str.ofString "text"), .str (mk x.tail.dropLast)] else .non) = oD (if x.length < 43 then some (Pc.text (mk x.tail.dropLast)) else none) := by
      by_cases h : x.length < 43
      · rw [if_pos h, if_pos (decide_eq_true (by omega))]; rfl
      · rw [if_neg h, if_neg (by simp only [decide_eq_true_eq]; omega)]; rfl
    rw [e3]
    exact hq
  rw [if_neg h2] at hq
  rw [decide_eq_false h2]
  walk_at "dl"
  refine needOf (by decide +kernel) (fewOf (by decide +kernel) ?_)
  rw [signs_split]
  walk_at "dl"
  rw [x_inL rfl (flat_strs _), inD_strs]
  by_cases h3 : mk x ∈ SGs
  · rw [if_pos h3] at hq
    rw [decide_eq_true h3]
    walk_at "dl"
    exact hq
  rw [if_neg h3] at hq
  rw [decide_eq_false h3]
  walk_at "dl"
  refine ⟨rfl, ?_⟩
  walk_at "dl"
  rw [x_inL rfl (flat_strs _), inD_strs]
  by_cases h4 : mk x ∈ WDs
  · rw [if_pos h4] at hq
    rw [decide_eq_true h4]
    walk_at "dl"
    exact hq
  rw [if_neg h4] at hq
  rw [decide_eq_false h4]
  walk_at "dl"
  refine ixS (j := 0) (c := c) hml (by rw [mk_cps, hx]; rfl) ?_
  walk_at "dl"
  rw [hlet]
  by_cases h5 : c ∈ LTl
  · rw [decide_eq_true h5]
    walk_at "dl"
    refine fewOf hml ?_
    walk_at "dl"
    by_cases h6 : 12 < x.length
    · rw [if_pos (.inr h6)] at hq
      rw [decide_eq_true (by omega)]
      walk_at "dl"
      exact hq
    · rw [if_neg (fun z => z.elim (fun z => z h5) h6)] at hq
      rw [decide_eq_false (by omega)]
      walk_at "dl"
      exact hq
  · rw [if_pos (.inl h5)] at hq
    rw [decide_eq_false h5]
    walk_at "dl"
    exact hq
def dueO (l : List Nat) : D := match piecesF l with
  | some (b, ps) => .tup [.int (b : Int), .list (ps.map Pc.d)]
  | none => .non
def dJudged : SpD := fun ds S q _ => ∃ row : List Nat, ds = [.str (mk row)] ∧ row.length ≤ 5000 ∧ (∀ c ∈ row, c < 128) ∧ ∀ S', (∀ a, S a ≠ none → S' a = S a) → q (dueO row) S'
theorem seqO_some : ∀ {l : List (Option Pc)} {ps : List Pc}, seqO l = some ps → l = ps.map some
  | [], ps, h => by cases h; rfl
  | none :: _, _, h => by cases h
  | some p :: l, ps, h => by
    rw [seqO] at h
    obtain ⟨qs, h1, h2⟩ := Option.map_eq_some_iff.mp h
    rw [← h2, seqO_some h1]
    rfl
theorem seqO_none : ∀ {l : List (Option Pc)}, seqO l = none → none ∈ l
  | [], h => by cases h
  | none :: _, _ => List.mem_cons_self
  | some p :: l, h => by
    rw [seqO] at h
    exact List.mem_cons_of_mem _ (seqO_none (Option.map_eq_none_iff.mp h))
theorem stepC_or (f : List (List Nat)) (s c : Nat) : (stepC (f, s) c).1 = snocC f c ∨ (stepC (f, s) c).1 = f ++ [[c]] := by
  unfold stepC
  split
  · exact .inl rfl
  · split
    · exact .inl rfl
    · exact .inr rfl
theorem anyL_all : ∀ {l : List D}, (∀ d ∈ l, d.any = true) → anyL l = true
  | [], _ => rfl
  | d :: l, h => by rw [anyL, h d List.mem_cons_self, anyL_all fun x hx => h x (List.mem_cons_of_mem _ hx)]; rfl
theorem fold_ne : ∀ (l : List Nat) (f : List (List Nat)) (s : Nat), (∀ x ∈ f, x ≠ []) → ∀ x ∈ (List.foldl stepC (f, s) l).1, x ≠ []
  | [], f, s, h => h
  | c :: l, f, s, h => by
    rw [List.foldl_cons]
    have hor := stepC_or f s c
    generalize stepC (f, s) c = y at hor ⊢
    obtain ⟨f', s'⟩ := y
    refine fold_ne l _ _ ?_
    have sn : ∀ x ∈ snocC f c, x ≠ [] := fun x hx => by
      unfold snocC at hx
      rcases List.mem_append.mp hx with hx | hx
      · exact h x ((List.dropLast_sublist _).subset hx)
      · rw [List.mem_singleton.mp hx]; simp
    have ap : ∀ x ∈ f ++ [[c]], x ≠ [] := fun x hx => by
      rcases List.mem_append.mp hx with hx | hx
      · exact h x hx
      · rw [List.mem_singleton.mp hx]; simp
    have hor : f' = snocC f c ∨ f' = f ++ [[c]] := hor
    rcases hor with h2 | h2 <;> rw [h2]
    · exact sn
    · exact ap
theorem fold_len : ∀ (l : List Nat) (f : List (List Nat)) (s n : Nat), CutI f s n → CutI (List.foldl stepC (f, s) l).1 (List.foldl stepC (f, s) l).2 (n + l.length)
  | [], f, s, n, h => h
  | c :: l, f, s, n, h => by
    rw [List.foldl_cons, List.length_cons, show n + (l.length + 1) = n + 1 + l.length by omega]
    exact fold_len l _ _ _ h.next
theorem fold_chars : ∀ (l : List Nat) (f : List (List Nat)) (s : Nat), (∀ c ∈ l, c < 128) → (∀ x ∈ f, ∀ c ∈ x, c < 128) → ∀ x ∈ (List.foldl stepC (f, s) l).1, ∀ c ∈ x, c < 128
  | [], f, s, _, h => h
  | c :: l, f, s, hl, h => by
    rw [List.foldl_cons]
    have hor := stepC_or f s c
    generalize stepC (f, s) c = y at hor ⊢
    obtain ⟨f', s'⟩ := y
    refine fold_chars l _ _ (fun d hd => hl d (List.mem_cons_of_mem _ hd)) ?_
    have hc := hl c List.mem_cons_self
    have sn : ∀ x ∈ snocC f c, ∀ c ∈ x, c < 128 := fun x hx => by
      unfold snocC at hx
      rcases List.mem_append.mp hx with hx | hx
      · exact h x ((List.dropLast_sublist _).subset hx)
      · rw [List.mem_singleton.mp hx]
        intro d hd
        rcases List.mem_append.mp hd with hd | hd
        · cases f with
          | nil => cases hd
          | cons y f =>
            rw [List.getLastD_eq_getLast?, List.getLast?_eq_some_getLast (List.cons_ne_nil y f)] at hd
            exact h _ (List.getLast_mem _) d hd
        · rw [List.mem_singleton.mp hd]; exact hc
    have ap : ∀ x ∈ f ++ [[c]], ∀ c ∈ x, c < 128 := fun x hx => by
      rcases List.mem_append.mp hx with hx | hx
      · exact h x hx
      · rw [List.mem_singleton.mp hx]
        intro d hd
        rw [List.mem_singleton.mp hd]; exact hc
    have hor : f' = snocC f c ∨ f' = f ++ [[c]] := hor
    rcases hor with h2 | h2 <;> rw [h2]
    · exact sn
    · exact ap
theorem any_chars {x : List Nat} (h : ∀ c ∈ x, c < 128) : (chD x).any = true := strOk_of fun c hc => by rw [mk_cps] at hc; exact h c hc
theorem eqNilL {l : List D} {S : Sto} {k : DK} (ha : ∀ d ∈ l, d.any = true) (q : k (.bl l.isEmpty) S) : st2 (oEqA false) (.list l) (.list []) S k ⟨⟩ := by
  refine eqAOf (u := .list l) (v := .list []) rfl rfl (show anyL l = true from anyL_all ha) rfl (Nat.le_trans (Nat.min_le_right _ _) (by decide)) ?_ q
  cases l <;> rfl
theorem neNilL {l : List D} {S : Sto} {k : DK} (ha : ∀ d ∈ l, d.any = true) (q : k (.bl (!l.isEmpty)) S) : st2 (oEqA true) (.list l) (.list []) S k ⟨⟩ := by
  refine neAOf (u := .list l) (v := .list []) (b := l.isEmpty) rfl rfl (show anyL l = true from anyL_all ha) rfl (Nat.le_trans (Nat.min_le_right _ _) (by decide)) ?_ q
  cases l <;> rfl
theorem lstrip_mk (row : List Nat) : (Txt.lstripChars (mk row) (Str.ofString " ")).length + blanksN row = row.length := by
  have := lstrip_any (mk row)
  rw [mk_cps, mk_len] at this
  exact this
theorem ok_judged {fa : Addr} {fd : FuncData} (F : Fun K "_law_judged" "_law_judged" s__law_judged fa fd) (T : TH K mg wa CE CR CB) (G__law_cut : DefD P w K mg base 1 "_law_cut" ["_law_row_here"] dCutR) (G__law_sorted : DefD P w K mg base 2 "_law_sorted" ["_law_one"] dSorted) : FnOk P w K mg base CX0 3 fa fd ["_law_row_here"] (lSp K dJudged) := by
  refine dok F sc__law_judged (fun ds S q qx ⟨_, e, _⟩ => by rw [e]; rfl) ⟨_, fun cdv A outer s H E hr => dss_cons (ds_set (i := 1) sc__law_judged.nd rfl (Or.inl rfl) (de_call G__law_cut (hr.mono (by decide)) (by rfl) (da_cons (de_var 0) da_nil)))
      (dss_cons (ds_if (PW.pt (dw_or (dt_cmp op_isN si_isN (de_var 1) (de_non) (nomark _)) (dw_or1 (dt_cmp (op_eqM (K := K) hr.units) (si_eqA false) (de_var 1) (de_lst (da_nil)) (nomark _)))))
        (dss_one (ds_ret (de_non)))
        (dss_nil))
      (dss_cons (ds_setLc (i := 2) (own := [("_law_one", 3)]) (gc_name (j := 3) (by decide)) rfl sc__law_judged.nd rfl rfl (sw_true rfl rfl rfl (by decide +kernel)) (di_list (K := K) (de_var 1)) (blkOk_by (N := N__law_judged) (sc := defScope s__law_judged) (by decide +kernel)) (fun _ _ _ _ _ => pg_name (i := 3) sc__law_judged.nd rfl (Or.inl rfl)) (fun _ _ _ _ _ => dts_nil) (fun _ _ _ _ _ => de_call G__law_sorted (hr.mono (by decide)) (by rfl) (da_cons (de_var 3) da_nil)))
      (dss_cons (ds_if (dt_cmp (op_neM (K := K) hr.units) (si_eqA true) (de_lc (own := [("_law_one", 3)]) (gc_name (j := 3) (by decide)) rfl sc__law_judged.nd (di_list (K := K) (de_var 2)) (blkOk_by (N := N__law_judged) (sc := defScope s__law_judged) (by decide +kernel)) (fun _ _ _ _ _ => pg_name (i := 3) sc__law_judged.nd rfl (Or.inl rfl)) (fun _ _ _ _ _ => dts_one (dt_cmp op_isN si_isN (de_var 3) (de_non) (nomark _))) (fun _ _ _ _ _ => de_var 3)) (de_lst (da_nil)) (nomark _))
        (dss_one (ds_ret (de_non)))
        (dss_nil))
      (dss_one (ds_ret (de_tup (da_cons (de_op op_sub si_sub (de_callB call_len (si_len rfl) (by rfl) T.len (by decide +kernel) (da_cons (de_var 0) da_nil)) (de_callB call_len (si_len rfl) (by rfl) T.len (by decide +kernel) (da_cons (de_ms PySem.F.slot_str_lstrip PySem.F.type_str_lstrip mt_lstripChars si_sscS (de_var 0) (da_cons (de_str) da_nil)) da_nil))) (da_cons (de_var 2) da_nil)))))))), fun ds S q qx ⟨row, hd, hz, hc128, hq⟩ => ?_⟩
  subst hd
  have hfit := cut_fits row.length row [] (Nat.le_refl _)
  have hne := fold_ne row [] 0 (fun x hx => by cases hx)
  have hch := fold_chars row [] 0 hc128 (fun x hx => by cases hx)
  have hI := fold_len row [] 0 0 ⟨Nat.le_refl _, by decide, fun z => absurd rfl z, fun x hx => by cases hx⟩
  rw [Nat.zero_add] at hI
  have hls := lstrip_mk row
  unfold dueO piecesF at hq
  walk_at "dl"
  refine ⟨row, rfl, hz, hc128, fun S1 g1 => ?_⟩
  generalize List.foldl stepC ([], 0) row = R at hfit hne hch hI ⊢
  obtain ⟨f, s⟩ := R
  obtain ⟨hf2, hfn⟩ := hfit
  by_cases h2 : s = 2
  · rw [if_pos h2]
    rw [hf2 h2] at hq
    walk_at "dl"
    exact hq _ g1
  · rw [if_neg h2]
    obtain ⟨cs, e1, e2⟩ := hfn h2
    have e1 : f = cs := e1
    subst e1
    rw [e2] at hq
    walk_at "dl"
    have hany : ∀ d ∈ (f.filter (· ≠ [32])).map chD, d.any = true := fun d hd => by
      obtain ⟨x, hx, rfl⟩ := List.mem_map.mp hd
      exact any_chars (hch x (List.mem_filter.mp hx).1)
    refine eqNilL hany ?_
    have hfl : (f.filter (· ≠ [32])).length ≤ f.length := List.length_filter_le _ _
    have hlen := hI.len
    have hlen : f.length ≤ row.length := hlen
    have hne : ∀ x ∈ f.filter (· ≠ [32]), x ≠ [] := fun x hx => hne x (List.mem_filter.mp hx).1
    have hsum : ∀ x ∈ f.filter (· ≠ [32]), x.length ≤ row.length := fun x hx => hI.sum x (List.mem_filter.mp hx).1
    unfold seqC at hq
    generalize f.filter (· ≠ [32]) = fs at hq hany hfl hne hsum ⊢
    cases fs with
    | nil =>
      rw [show (List.map chD []).isEmpty = true from rfl]
      walk_at "dl"
      exact hq _ g1
    | cons x0 fs0 =>
      rw [show (List.map chD (x0 :: fs0)).isEmpty = false from rfl]
      have hfs : x0 :: fs0 ≠ [] := List.cons_ne_nil _ _
      generalize x0 :: fs0 = fs at hq hany hfl hne hsum hfs ⊢
      walk_at "dl"
      refine lcOf (fun i acc => acc = (fs.take i).map fun x => oD (sortF x)) (by rw [List.length_map]; omega) rfl (fun p hp i d acc hd hP => ?_) (fun acc hacc => ?_)
      · rw [List.getElem?_map] at hd
        obtain ⟨x, hx, rfl⟩ := Option.map_eq_some_iff.mp hd
        subst hP
        have hxm := List.mem_of_getElem? hx
        unfold chD
        walk_at "dl"
        refine ⟨x, rfl, hne x hxm, by have := hsum x hxm; omega, ?_⟩
        refine LcO.of hp ?_
        rw [List.take_add_one, hx, List.map_append]
        rfl
      · rw [List.length_map, List.take_length] at hacc
        subst hacc
        walk_at "dl"
        refine lcFM (fun d => match d with | .non => some .non | _ => none) (by rw [List.length_map]; omega) (fun p acc d k1 k0 hp hd h1 h0 => ?_) ?_
        · obtain ⟨x, hx, rfl⟩ := List.mem_map.mp hd
          cases hs : sortF x with
          | none =>
            rw [hs] at h1 h0
            simp only [oD] at h1 h0 ⊢
            walk_at "dl"
            exact h1 _ rfl
          | some p =>
            rw [hs] at h1 h0
            simp only [oD, Pc.d] at h1 h0 ⊢
            walk_at "dl"
            exact h0 trivial
        · have e3 : ∃ n, (fs.map fun x => oD (sortF x)).filterMap (fun d => match d with | .non => some D.non | _ => none) = List.replicate n .non ∧ (n = 0 ↔ none ∉ fs.map sortF) := by
            clear hq hany hfl hne hsum hfs
            induction fs with
            | nil => exact ⟨0, rfl, by simp⟩
            | cons x fs ih =>
              obtain ⟨n, h1, h2⟩ := ih
              rw [List.map_cons, List.filterMap_cons, h1]
              cases hs : sortF x with
              | none => exact ⟨n + 1, rfl, by simp [hs]⟩
              | some p => exact ⟨n, rfl, by rw [h2]; simp [hs]⟩
          obtain ⟨n, h3, h4⟩ := e3
          rw [h3]
          walk_at "dl"
          refine neNilL (l := List.replicate n D.non) (fun d hd => by rw [(List.mem_replicate.mp hd).2]; rfl) ?_
          by_cases hn : n = 0
          · subst hn
            rw [show (!(List.replicate 0 D.non).isEmpty) = false from rfl]
            have hno := h4.mp rfl
            cases hseq : seqO (fs.map sortF) with
            | none => exact absurd (seqO_none hseq) hno
            | some ps =>
              rw [hseq] at hq
              have e4 := seqO_some hseq
              have e5 : (fs.map fun x => oD (sortF x)) = ps.map Pc.d := by
                rw [show (fs.map fun x => oD (sortF x)) = (fs.map sortF).map oD by rw [List.map_map]; rfl, e4, List.map_map]
                rfl
              rw [e5]
              cases ps with
              | nil =>
                have := congrArg List.length e4
                simp at this
                exact absurd this hfs
              | cons p0 ps0 =>
                walk_at "dl"
                refine fewOf (by rw [mk_len]; omega) ?_
                walk_at "dl"
                refine needOf (by rw [mk_len]; omega) ?_
                walk_at "dl"
                refine fewOf (by omega) ?_
                walk_at "dl"
                rw [show ((mk row).length : Int) - ((Txt.lstripChars (mk row) (Str.ofString " ")).length : Int) = ((blanksN row : Nat) : Int) by rw [mk_len]; omega]
                exact hq _ g1
          · rw [show (!(List.replicate n D.non).isEmpty) = true by cases n with | zero => exact absurd rfl hn | succ n => rfl]
            have hno : none ∈ fs.map sortF := by
              by_cases z : none ∈ fs.map sortF
              · exact z
              · exact absurd (h4.mpr z) hn
            have hseq : seqO (fs.map sortF) = none := by
              cases h : seqO (fs.map sortF) with
              | none => rfl
              | some ps =>
                rw [seqO_some h] at hno
                simp at hno
            rw [hseq] at hq
            walk_at "dl"
            exact hq _ g1
end
end K

set_option Elab.async false
set_option linter.all false
set_option maxRecDepth 100000
namespace K
open PySem L2 Evl EX PC DL TK
section
variable {P : Program} {w : World} {K : PySem.W.Frag} {mg : Str → Option Value} {base : Heap} {wa CE CR CB : Addr}
local macro_rules | `(tactic| walk_at "dl") => `(tactic| try simp only [↓x_frzE, ↓x_lr, ↓x_lrT, ↓x_lcN, ↓x_diRev, x_revL, x_revT, ↓x_extT, ↓x_sortDS, ↓x_diR3, ↓x_dupd, ↓x_callX, ↓x_up, ↓x_opX, ↓x_setX, ↓x_asgX, ↓x_retX, ↓x_testX, ↓x_ifX, ↓x_raise, ↓x_tryAs, ↓x_tryO, ↓x_isiX, ↓x_xf, NM.str_eq, String.reduceEq, ↓x_neg, ↓x_lcS, ↓x_lockE, ↓x_eqA, ↓x_dictD, ↓x_disp, ↓x_pNil, ↓x_pCons, ↓x_forS, ↓x_diSL, ↓x_diKeys, ↓x_lock, ↓x_dictP, ↓x_fld, ↓x_fldS, ↓x_fldA, ↓x_meth, ↓x_make, ↓x_dget, ↓x_din, ↓x_dget1, ↓x_dget2, ↓x_dpop, ↓x_dput, ↓x_listD, ↓x_sortDI, ↓x_lenD, ↓x_isiC, x_icS, x_icI, x_icB, x_icN, x_ioS, x_ioI, x_ioB, x_ioN, ↓x_gSub, ↓x_sortDL, ↓x_eqO, ↓x_ninA, x_catN, x_isBB, x_isBN, x_isBI, x_isBS, x_isBR, ↓x_seq, ↓x_nx, ↓x_pass, ↓x_brk, ↓x_cnt, ↓x_drop, ↓x_ret, ↓x_retN, ↓x_ifS, ↓x_set, ↓x_asg, ↓x_gN, ↓x_gT, ↓x_gsC, ↓x_gsN, ↓x_var, x_rdv, ↓x_c, ↓x_op, ↓x_test, x_tst, ↓x_and, ↓x_or, ↓x_not, ↓x_andV, ↓x_orV, ↓x_notV, x_tstV, ↓x_ifE, x_true, x_false, ↓x_nil, ↓x_cons, ↓x_tup, ↓x_lst, ↓x_new, ↓x_newD, ↓x_call, ↓x_cb, x_oI, x_oIc, x_oS, x_addS, x_isN, x_notN, x_eqI, x_eqS, x_eqIS, x_eqSI, x_eqNS, x_neI, x_neS, x_neB, x_eqB, x_few, x_need, ↓x_ix, x_lenS, x_ixL0, x_ixT0, x_ixT1, x_ixT2, x_ixT3, x_ixT4, x_lenL, x_lenT, x_lenC, x_listL, x_listT, x_tupL, x_tupT, x_strI, x_strS, x_int1, x_intB, x_I1, x_I2, x_cat, x_catT, ↓x_split, ↓x_for, ↓x_cut, ↓x_lc, ↓x_whl, ↓x_diL, ↓x_diT, ↓x_diS, x_itL, x_itC, x_itT, x_itS, ↓x_diR1, ↓x_diR2, ↓x_diE, x_enmL, x_enmC, ↓x_gcN, ↓x_gcT, ↓x_yes, ↓x_ml, ↓x_ms, x_strq, x_ss, x_ssc, x_ssi, ↓x_join, ↓x_aug, x_st2I, ↓x_sl, ↓x_noP, ↓x_part, x_intq, x_slL, x_slC, x_slS, ↓x_in, x_inT, x_inL, x_ninT, x_ninL, x_inN, x_inSS, x_inSI, x_inIS, x_inII, ↓x_sg, x_sgS, x_nsgS, ↓x_eqD, ↓x_inDD, x_mulS, ↓x_isi, x_isiS, x_isiI, x_isiB, x_isiN, x_isiL, x_isiT, ↓x_isTT, x_itI, x_itStr, x_itN, x_itB, x_itLst, x_itTup, ↓x_any, ↓x_all, ↓x_sum, ↓x_srtI, ↓x_srtS, ↓x_intS, ↓x_lenRf, ↓x_tupRf, ↓x_frz', x_flS, x_flI, x_flN, x_flB, x_cs_bool, x_isB_NoneType_bool, x_isB_bool_bool, x_isB_int_bool, x_isB_str_bool, x_isB_list_bool, x_isB_tuple_bool, x_isB_dict_bool, x_cs_int, x_isB_NoneType_int, x_isB_bool_int, x_isB_int_int, x_isB_str_int, x_isB_list_int, x_isB_tuple_int, x_isB_dict_int, x_cs_str, x_isB_NoneType_str, x_isB_bool_str, x_isB_int_str, x_isB_str_str, x_isB_list_str, x_isB_tuple_str, x_isB_dict_str, x_cs_list, x_isB_NoneType_list, x_isB_bool_list, x_isB_int_list, x_isB_str_list, x_isB_list_list, x_isB_tuple_list, x_isB_dict_list, x_cs_tuple, x_isB_NoneType_tuple, x_isB_bool_tuple, x_isB_int_tuple, x_isB_str_tuple, x_isB_list_tuple, x_isB_tuple_tuple, x_isB_dict_tuple, x_cs_dict, x_isB_NoneType_dict, x_isB_bool_dict, x_isB_int_dict, x_isB_str_dict, x_isB_list_dict, x_isB_tuple_dict, x_isB_dict_dict, List.all_cons, List.all_nil, Bool.and_self, Bool.or_false, Bool.or_true, Bool.false_or, Bool.true_or, wipeD, setD, DL.isNon, List.set_cons_zero, List.set_cons_succ, List.getElem?_cons_zero, List.getElem?_cons_succ, List.length_cons, List.length_nil, Nat.zero_add, List.cons_append, List.nil_append, decide_true, decide_false, Bool.not_true, Bool.not_false, true_and, and_true, startD, List.map_cons, List.map_nil, Nat.reduceSub, Nat.reduceLeDiff, Nat.zero_le, Int.reduceLT, Int.reduceLE, and_self, Nat.reduceAdd, List.replicate])
/-- what the written part says of the refusals -/
structure XR (K : PySem.W.Frag) (CE CR CB : Addr) : Prop where
  ex : PySem.W.exmOne K (.ref CR) (.ref CE) = some true
  kR : PySem.W.kitOne K (.ref CR) (.ref CR) = some true
  kV : PySem.W.kitOne K (.ref CR) (.type "ValueError") = some true
  kB : PySem.W.kitOne K (.ref CR) (.ref CB) = some false
  xc : XcC K CR
  pl : PySem.W.findIn K (.ref CR) "row" = some none
def toldW (l : List Nat) : D := match piecesF l with
  | some _ => .str (Str.ofString "")
  | none => .str (Str.ofString "row")
def dTold : SpD := fun ds S q _ => ∃ row : List Nat, ds = [.str (mk row)] ∧ row.length ≤ 90000 ∧ ∀ S', (∀ a, S a ≠ none → S' a = S a) → q (.tup [dueO row, toldW row]) S'
theorem ok_told {fa : Addr} {fd : FuncData} (F : Fun K "_law_told" "_law_told" s__law_told fa fd) (T : TH K mg wa CE CR CB) (X : XR K CE CR CB) (X_pieces_of : DefX P w K mg base 4 "pieces_of" ["row"] (dPieces CR)) : FnOk P w K mg base CX0 5 fa fd ["_law_row_here"] (lSp K dTold) := by
  refine dok F sc__law_told (fun ds S q qx ⟨_, e, _⟩ => by rw [e]; rfl) ⟨_, fun cdv A outer s H E hr => dss_cons (ds_set (i := 1) sc__law_told.nd rfl (Or.inl rfl) (de_non))
      (dss_cons (ds_set (i := 2) sc__law_told.nd rfl (Or.inl rfl) (de_str))
      (dss_cons (ds_try_as (i := 3) rfl rfl sc__law_told.nd rfl rfl ⟨by rfl, by decide, Or.inl T.gHallError⟩ takes0
        (fun W pn xe tk hp => dss_one (ds_setX (i := 1) sc__law_told.nd rfl (Or.inl rfl) (dx_call X_pieces_of (hr.mono (by decide)) (by rfl) tk (da_cons (de_var 0) da_nil))))
        (fun xa oe cls xd pn hz hf => dss_cons (ds_set (i := 2) sc__law_told.nd rfl (Or.inl rfl) (de_str))
        (dss_one (ds_if (PW.pt (dw_and (dt_val (de_callB (call_isiX hz hf) si_isiX (by rfl) T.isinstance (by decide +kernel) (da_cons (de_var 3) (da_cons (de_gl (by rfl) T.BadRow) da_nil)))) (dw_and (dt_val (de_callB (call_isiX hz hf) si_isiX (by rfl) T.isinstance (by decide +kernel) (da_cons (de_var 3) (da_cons (de_blt (n := "ValueError") (by rfl) T.ValueError (by decide +kernel)) da_nil)))) (dw_and1 (dt_not (dt_val (de_callB (call_isiX hz hf) si_isiX (by rfl) T.isinstance (by decide +kernel) (da_cons (de_var 3) (da_cons (de_gl (by rfl) T.BadTree) da_nil)))))))))
          (dss_one (ds_if (PW.pt (dw_and (dt_cmp op_eq si_eq (de_xf hz hf (de_var 3)) (de_int) (nomark _)) (dw_and1 (dt_not (dt_val (de_callB (clIsi' (K := K)) si_isi (by rfl) T.isinstance (by decide +kernel) (da_cons (de_xf hz hf (de_var 3)) (da_cons (de_blt (n := "bool") (by rfl) T.bool (by decide +kernel)) da_nil))))))))
            (dss_one (ds_set (i := 2) sc__law_told.nd rfl (Or.inl rfl) (de_str)))
            (dss_nil)))
          (dss_nil)))))
      (dss_one (ds_ret (de_tup (da_cons (de_var 1) (da_cons (de_var 2) da_nil))))))), fun ds S q qx ⟨row, hd, hz, hq⟩ => ?_⟩
  subst hd
  unfold dueO toldW at hq
  walk_at "dl"
  refine ⟨mk row, rfl, by rw [mk_len]; exact hz, ?_⟩
  rw [mk_cps]
  cases hp : piecesF row with
  | some y =>
    obtain ⟨b, ps⟩ := y
    rw [hp] at hq
    walk_at "dl"
    exact hq S fun _ _ => rfl
  | none =>
    rw [hp] at hq
    intro S1 d g1 hd
    refine ⟨true, X.ex, fun _ a ha => ?_, nofun⟩
    walk_at "dl"
    refine ⟨_, _, true, CR, d, _, rfl, rfl, rfl, X.xc, rfl, hd, X.kR, ?_⟩
    walk_at "dl"
    refine ⟨_, _, true, CR, d, _, rfl, rfl, rfl, X.xc, rfl, hd, X.kV, ?_⟩
    walk_at "dl"
    refine ⟨_, _, false, CR, d, _, rfl, rfl, rfl, X.xc, rfl, hd, X.kB, ?_⟩
    walk_at "dl"
    refine ⟨rfl, CR, d, _, _, rfl, X.xc, X.pl, rfl, hd, rfl, ?_⟩
    walk_at "dl"
    refine ⟨rfl, CR, d, _, _, rfl, X.xc, X.pl, rfl, hd, rfl, ?_⟩
    walk_at "dl"
    exact hq S1 g1
theorem cutS_le (z : Str) (l u : Option Int) : (cutS z l u).length ≤ z.length ∧ ∀ c ∈ (cutS z l u).cps.toList, c ∈ z.cps.toList := by
  unfold cutS
  refine ⟨?_, fun c hc => ?_⟩
  · rw [len_cps, len_cps z]
    simp
    omega
  · simp at hc
    exact Array.mem_toList_iff.mpr (by
      have := List.mem_of_mem_drop (List.mem_of_mem_take hc)
      simpa using this)
/-- a text with few signs, all of them plain -/
def Pl (n : Nat) (z : Str) : Prop := z.length ≤ n ∧ ∀ c ∈ z.cps.toList, c < 128
theorem Pl.cut {n : Nat} {z : Str} (h : Pl n z) (l u : Option Int) : Pl n (cutS z l u) := ⟨Nat.le_trans (cutS_le z l u).1 h.1, fun c hc => h.2 c ((cutS_le z l u).2 c hc)⟩
theorem Pl.app {n m : Nat} {z y : Str} (h : Pl n z) (g : Pl m y) : Pl (n + m) (z ++ y) := ⟨by rw [Str.length_append]; have := h.1; have := g.1; omega, fun c hc => by
  rw [PyProof.Rows.cps_toList_append] at hc
  rcases List.mem_append.mp hc with hc | hc
  · exact h.2 c hc
  · exact g.2 c hc⟩
theorem Pl.mono {n m : Nat} {z : Str} (h : Pl n z) (hnm : n ≤ m) : Pl m z := ⟨Nat.le_trans h.1 hnm, h.2⟩
theorem Pl.few {n : Nat} {z : Str} (h : Pl n z) : z.length ≤ n := h.1
def wordsK : List Str := [Str.ofString "1a", Str.ofString "01", Str.ofString "00", Str.ofString "a_b", Str.ofString "abcdefghijklm", Str.ofString "1234567890", Str.ofString "\"" ++ Txt.mul (Str.ofString "x") 41 ++ Str.ofString "\"", Str.ofString "\"x", Str.ofString "say2", Str.ofString "===", Str.ofString "\"\"", Str.ofString "0", Str.ofString "abcdefghijkl", Str.ofString "123456789", Str.ofString "\"" ++ Txt.mul (Str.ofString "x") 40 ++ Str.ofString "\"", Str.ofString "1.5", Str.ofString "-1", Str.ofString "a!b", Str.ofString "\"a\"b\""]
theorem wordsK_ok : ∀ z ∈ wordsK, Pl 45 z := by unfold Pl; decide +kernel
abbrev spoilS : Str := Str.ofString "!#;'/_~|>?@$^&\"0a =.Z9"
theorem spoilS_ok (j : Nat) (h : j < 22) : ∃ c, spoilS.cps.toList[j]? = some c ∧ c < 128 := by
  have : ∀ j, j < 22 → ∃ c, c < 128 ∧ spoilS.cps.toList[j]? = some c := by decide +kernel
  obtain ⟨c, a, b⟩ := this j h
  exact ⟨c, b, a⟩
theorem pl_one {c : Nat} (h : c < 128) : Pl 1 ⟨#[c]⟩ := ⟨Nat.le_refl _, fun d hd => by simp at hd; rw [hd]; exact h⟩
theorem pl_sp : Pl 1 (Str.ofString " ") := by unfold Pl; decide +kernel
def dSpoilt : SpD := fun ds S q _ => ∃ (row : Str) (tp : Addr), ds = [.str row, .ref tp] ∧ Pl 5000 row ∧ S tp = some .tap ∧ ∀ z, Pl 10100 z → q (.str z) S
theorem ok_spoilt {fa : Addr} {fd : FuncData} (F : Fun K "_law_spoilt" "_law_spoilt" s__law_spoilt fa fd) (T : TH K mg wa CE CR CB) (G__law_next : DefD P w K mg base 2 "_law_next" ["_law_tap_here", "_law_size"] dDraw) : FnOk P w K mg base CX0 3 fa fd ["_law_row_here", "_law_tap_here"] (lSp K dSpoilt) := by
  refine dok F sc__law_spoilt (fun ds S q qx ⟨_, _, e, _⟩ => by rw [e]; rfl) ⟨_, fun cdv A outer s H E hr => dss_cons (ds_set (i := 2) sc__law_spoilt.nd rfl (Or.inl rfl) (de_call G__law_next (hr.mono (by decide)) (by rfl) (da_cons (de_var 1) (da_cons (de_op op_add si_add (de_callB call_len (si_len rfl) (by rfl) T.len (by decide +kernel) (da_cons (de_var 0) da_nil)) (de_int)) da_nil))))
      (dss_cons (ds_set (i := 3) sc__law_spoilt.nd rfl (Or.inl rfl) (de_ix ix_seq (si_ix rfl) (de_str) (de_call G__law_next (hr.mono (by decide)) (by rfl) (da_cons (de_var 1) (da_cons (de_int) da_nil))) (fun _ _ => rfl)))
      (dss_cons (ds_set (i := 4) sc__law_spoilt.nd rfl (Or.inl rfl) (de_call G__law_next (hr.mono (by decide)) (by rfl) (da_cons (de_var 1) (da_cons (de_int) da_nil))))
      (dss_cons (ds_set (i := 5) sc__law_spoilt.nd rfl (Or.inl rfl) (de_lst (da_cons (de_str) (da_cons (de_str) (da_cons (de_str) (da_cons (de_str) (da_cons (de_str) (da_cons (de_str) (da_cons (de_op op_add_str si_addS (de_op op_add_str si_addS (de_str) (de_op op_mulS si_mulS (de_str) (de_int))) (de_str)) (da_cons (de_str) (da_cons (de_str) (da_cons (de_str) da_nil))))))))))))
      (dss_cons (ds_set (i := 5) sc__law_spoilt.nd rfl (Or.inl rfl) (de_op op_cat si_cat (de_var 5) (de_lst (da_cons (de_str) (da_cons (de_str) (da_cons (de_str) (da_cons (de_str) (da_cons (de_op op_add_str si_addS (de_op op_add_str si_addS (de_str) (de_op op_mulS si_mulS (de_str) (de_int))) (de_str)) (da_cons (de_str) (da_cons (de_str) (da_cons (de_str) (da_cons (de_str) da_nil))))))))))))
      (dss_cons (ds_if (dt_cmp op_eq si_eq (de_var 4) (de_int) (nomark _))
        (dss_one (ds_ret (de_op op_add_str si_addS (de_op op_add_str si_addS (de_slice sl_str si_slS (de_var 0) do_none (do_some (de_var 2))) (de_var 3)) (de_slice sl_str si_slS (de_var 0) (do_some (de_var 2)) do_none))))
        (dss_nil))
      (dss_cons (ds_if (dt_cmp op_eq si_eq (de_var 4) (de_int) (nomark _))
        (dss_one (ds_ret (de_op op_add_str si_addS (de_slice sl_str si_slS (de_var 0) do_none (do_some (de_var 2))) (de_slice sl_str si_slS (de_var 0) (do_some (de_op op_add si_add (de_var 2) (de_int))) do_none))))
        (dss_nil))
      (dss_cons (ds_if (dt_cmp op_eq si_eq (de_var 4) (de_int) (nomark _))
        (dss_one (ds_ret (de_op op_add_str si_addS (de_op op_add_str si_addS (de_slice sl_str si_slS (de_var 0) do_none (do_some (de_var 2))) (de_var 3)) (de_slice sl_str si_slS (de_var 0) (do_some (de_op op_add si_add (de_var 2) (de_int))) do_none))))
        (dss_nil))
      (dss_cons (ds_if (dt_cmp op_eq si_eq (de_var 4) (de_int) (nomark _))
        (dss_one (ds_ret (de_slice sl_str si_slS (de_var 0) do_none (do_some (de_var 2)))))
        (dss_nil))
      (dss_cons (ds_if (dt_cmp op_eq si_eq (de_var 4) (de_int) (nomark _))
        (dss_one (ds_ret (de_op op_add_str si_addS (de_slice sl_str si_slS (de_var 0) (do_some (de_var 2)) do_none) (de_slice sl_str si_slS (de_var 0) do_none (do_some (de_var 2))))))
        (dss_nil))
      (dss_cons (ds_if (dt_cmp op_eq si_eq (de_var 4) (de_int) (nomark _))
        (dss_one (ds_ret (de_ix ix_seq (si_ix rfl) (de_lst (da_cons (de_str) (da_cons (de_str) (da_cons (de_str) (da_cons (de_ix ix_seq (si_ix rfl) (de_var 5) (de_call G__law_next (hr.mono (by decide)) (by rfl) (da_cons (de_var 1) (da_cons (de_int) da_nil))) (fun _ _ => rfl)) da_nil))))) (de_call G__law_next (hr.mono (by decide)) (by rfl) (da_cons (de_var 1) (da_cons (de_int) da_nil))) (fun _ _ => rfl))))
        (dss_nil))
      (dss_one (ds_ret (de_op op_add_str si_addS (de_op op_add_str si_addS (de_op op_add_str si_addS (de_op op_add_str si_addS (de_slice sl_str si_slS (de_var 0) do_none (do_some (de_var 2))) (de_str)) (de_ix ix_seq (si_ix rfl) (de_var 5) (de_call G__law_next (hr.mono (by decide)) (by rfl) (da_cons (de_var 1) (da_cons (de_int) da_nil))) (fun _ _ => rfl))) (de_str)) (de_slice sl_str si_slS (de_var 0) (do_some (de_var 2)) do_none)))))))))))))), fun ds S q qx ⟨row, tp, hd, hpl, hT, hq⟩ => ?_⟩
  subst hd
  have hrl := hpl.1
  walk_at "dl"
  refine fewOf (by omega) ?_
  walk_at "dl"
  refine drawOf hT (by omega) (by omega) fun at_ hat => ?_
  walk_at "dl"
  refine drawOf hT (by decide) (by decide) fun j hj => ?_
  walk_at "dl"
  obtain ⟨c, hc, hc2⟩ := spoilS_ok j (by omega)
  refine ixS (by decide +kernel) hc ?_
  have h1 := pl_one hc2
  have hone : (⟨#[c]⟩ : Str).length = 1 := rfl
  generalize (⟨#[c]⟩ : Str) = sg at h1 hone ⊢
  walk_at "dl"
  refine drawOf hT (by decide) (by decide) fun way hway => ?_
  walk_at "dl"
  refine needOf (by decide +kernel) (fewOf (by decide +kernel) ?_)
  walk_at "dl"
  refine fewOf (by decide +kernel) ?_
  walk_at "dl"
  refine needOf (by decide +kernel) (fewOf (by decide +kernel) ?_)
  walk_at "dl"
  refine fewOf (by decide +kernel) ?_
  walk_at "dl"
  rw [show [D.str (Str.ofString "1a"), D.str (Str.ofString "01"), D.str (Str.ofString "00"), D.str (Str.ofString "a_b"), D.str (Str.ofString "abcdefghijklm"), D.str (Str.ofString "1234567890"), D.str (Str.ofString "\"" ++ Txt.mul (Str.ofString "x") 41 ++ Str.ofString "\""), D.str (Str.ofString "\"x"), D.str (Str.ofString "say2"), D.str (Str.ofString "==="), D.str (Str.ofString "\"\""), D.str (Str.ofString "0"), D.str (Str.ofString "abcdefghijkl"), D.str (Str.ofString "123456789"), D.str (Str.ofString "\"" ++ Txt.mul (Str.ofString "x") 40 ++ Str.ofString "\""), D.str (Str.ofString "1.5"), D.str (Str.ofString "-1"), D.str (Str.ofString "a!b"), D.str (Str.ofString "\"a\"b\"")] = wordsK.map D.str from rfl]
  have hwl : wordsK.length = 19 := rfl
  have hwk := wordsK_ok
  generalize wordsK = ws at hwl hwk ⊢
  have cP : ∀ l u, Pl 5000 (cutS row l u) := fun l u => hpl.cut l u
  have cL : ∀ l u, (cutS row l u).length ≤ 5000 := fun l u => (cP l u).1
  refine br (fun _ => ?_) fun _ => ?_
  · walk_at "dl"
    refine fewOf (by omega) ?_
    walk_at "dl"
    refine fewOf (by have := cL none (some (at_ : Int)); omega) ?_
    walk_at "dl"
    refine fewOf (by omega) ?_
    refine fewOf (by have := cL none (some (at_ : Int)); have := cL (some (at_ : Int)) none; rw [Str.length_append]; omega) ?_
    exact hq _ ((((cP _ _).app h1).app (cP _ _)).mono (by decide))
  walk_at "dl"
  refine br (fun _ => ?_) fun _ => ?_
  · walk_at "dl"
    refine fewOf (by omega) ?_
    walk_at "dl"
    refine fewOf (by omega) ?_
    refine fewOf (by have := cL none (some (at_ : Int)); have := cL (some ((at_ : Int) + 1)) none; omega) ?_
    exact hq _ (((cP _ _).app (cP _ _)).mono (by decide))
  walk_at "dl"
  refine br (fun _ => ?_) fun _ => ?_
  · walk_at "dl"
    refine fewOf (by omega) ?_
    walk_at "dl"
    refine fewOf (by have := cL none (some (at_ : Int)); omega) ?_
    walk_at "dl"
    refine fewOf (by omega) ?_
    refine fewOf (by have := cL none (some (at_ : Int)); have := cL (some ((at_ : Int) + 1)) none; rw [Str.length_append]; omega) ?_
    exact hq _ ((((cP _ _).app h1).app (cP _ _)).mono (by decide))
  walk_at "dl"
  refine br (fun _ => ?_) fun _ => ?_
  · walk_at "dl"
    refine fewOf (by omega) ?_
    exact hq _ ((cP _ _).mono (by decide))
  walk_at "dl"
  refine br (fun _ => ?_) fun _ => ?_
  · walk_at "dl"
    refine fewOf (by omega) ?_
    walk_at "dl"
    refine fewOf (by omega) ?_
    refine fewOf (by have := cL none (some (at_ : Int)); have := cL (some (at_ : Int)) none; omega) ?_
    exact hq _ (((cP _ _).app (cP _ _)).mono (by decide))
  have word : ∀ (k : DK), (∀ z, Pl 45 z → k (.str z) S) → ∀ r : Nat, (r : Int) < 19 → ixq (.list (ws.map D.str)) (r : Int) S k ⟨⟩ := fun k hk r hr => by
    have hl : r < ws.length := by omega
    exact ixAt (.inl rfl) (by rw [List.getElem?_map, List.getElem?_eq_getElem hl]; rfl) (hk _ (hwk _ (List.getElem_mem hl)))
  walk_at "dl"
  refine br (fun _ => ?_) fun _ => ?_
  · walk_at "dl"
    refine drawOf hT (by decide) (by decide) fun r hr => ?_
    refine word _ (fun z hz => ?_) r hr
    walk_at "dl"
    refine drawOf hT (by decide) (by decide) fun r2 hr2 => ?_
    have e0 : Pl 45 (Str.ofString "") := by unfold Pl; decide +kernel
    have e1 : Pl 45 (Str.ofString " ") := by unfold Pl; decide +kernel
    have e2 : Pl 45 (Str.ofString "   ") := by unfold Pl; decide +kernel
    have : r2 = 0 ∨ r2 = 1 ∨ r2 = 2 ∨ r2 = 3 := by omega
    rcases this with rfl | rfl | rfl | rfl
    · exact ixAt (.inl rfl) rfl (hq _ (e0.mono (by decide)))
    · exact ixAt (.inl rfl) rfl (hq _ (e1.mono (by decide)))
    · exact ixAt (.inl rfl) rfl (hq _ (e2.mono (by decide)))
    · exact ixAt (.inl rfl) rfl (hq _ (hz.mono (by decide)))
  walk_at "dl"
  refine fewOf (by omega) ?_
  walk_at "dl"
  have hsp : (Str.ofString " ").length = 1 := by decide +kernel
  refine fewOf (by have := cL none (some (at_ : Int)); omega) ?_
  walk_at "dl"
  refine drawOf hT (by decide) (by decide) fun r hr => ?_
  refine word _ (fun z hz => ?_) r hr
  have hzl := hz.1
  walk_at "dl"
  refine fewOf (by have := cL none (some (at_ : Int)); rw [Str.length_append]; omega) ?_
  walk_at "dl"
  refine fewOf (by have := cL none (some (at_ : Int)); rw [Str.length_append, Str.length_append]; omega) ?_
  walk_at "dl"
  refine fewOf (by omega) ?_
  refine fewOf (by have := cL none (some (at_ : Int)); have := cL (some (at_ : Int)) none; rw [Str.length_append, Str.length_append, Str.length_append]; omega) ?_
  exact hq _ ((((((cP _ _).app pl_sp).app hz).app pl_sp).app (cP _ _)).mono (by decide))
end
end K

set_option Elab.async false
set_option linter.all false
set_option maxRecDepth 100000
namespace K
open PySem L2 Evl EX PC DL TK
theorem pc_plain {p : Pc} (h : p.ok) : ∀ c ∈ p.txt, c < 128 := by
  have rcl : ∀ c, rc c = true → c < 128 := fun c hc => by
    have h2 : ∀ c, c ∈ LTl ∨ c ∈ FGl → c < 128 := fun c h => h.elim ((by decide +kernel : ∀ c ∈ LTl, c < 128) c) ((by decide +kernel : ∀ c ∈ FGl, c < 128) c)
    unfold rc at hc
    simp at hc
    exact h2 c hc
  cases p with
  | text s =>
    intro c hc
    show c < 128
    have hc : c ∈ 34 :: (s.cps.toList ++ [34]) := hc
    rcases List.mem_cons.mp hc with rfl | hc
    · decide
    · rcases List.mem_append.mp hc with hc | hc
      · exact h.2.2 c hc
      · rw [List.mem_singleton.mp hc]; decide
  | sign s => exact (by decide +kernel : ∀ s ∈ SGs, ∀ c ∈ s.cps.toList, c < 128) s h
  | name s => exact fun c hc => rcl c (Pc.run_all (p := .name s) h rfl c hc)
  | word s => exact fun c hc => rcl c (Pc.run_all (p := .word s) h rfl c hc)
  | num s => exact fun c hc => rcl c (Pc.run_all (p := .num s) h rfl c hc)
theorem lay_plain {ps : List Pc} {l : List Nat} (h : Lay ps l) : ∀ c ∈ l, c < 128 := by
  induction h with
  | done => exact fun c hc => by cases hc
  | blank _ ih =>
    intro c hc
    rcases List.mem_cons.mp hc with rfl | hc
    · decide
    · exact ih c hc
  | piece hok _ _ ih =>
    intro c hc
    rcases List.mem_append.mp hc with hc | hc
    · exact pc_plain hok c hc
    · exact ih c hc
section
variable {P : Program} {w : World} {K : PySem.W.Frag} {mg : Str → Option Value} {base : Heap} {wa CE CR CB : Addr}
local macro_rules | `(tactic| walk_at "dl") => `(tactic| try simp only [↓x_frzE, ↓x_lr, ↓x_lrT, ↓x_lcN, ↓x_diRev, x_revL, x_revT, ↓x_extT, ↓x_sortDS, ↓x_diR3, ↓x_dupd, ↓x_callX, ↓x_up, ↓x_opX, ↓x_setX, ↓x_asgX, ↓x_retX, ↓x_testX, ↓x_ifX, ↓x_raise, ↓x_tryAs, ↓x_tryO, ↓x_isiX, ↓x_xf, NM.str_eq, String.reduceEq, ↓x_neg, ↓x_lcS, ↓x_lockE, ↓x_eqA, ↓x_dictD, ↓x_disp, ↓x_pNil, ↓x_pCons, ↓x_forS, ↓x_diSL, ↓x_diKeys, ↓x_lock, ↓x_dictP, ↓x_fld, ↓x_fldS, ↓x_fldA, ↓x_meth, ↓x_make, ↓x_dget, ↓x_din, ↓x_dget1, ↓x_dget2, ↓x_dpop, ↓x_dput, ↓x_listD, ↓x_sortDI, ↓x_lenD, ↓x_isiC, x_icS, x_icI, x_icB, x_icN, x_ioS, x_ioI, x_ioB, x_ioN, ↓x_gSub, ↓x_sortDL, ↓x_eqO, ↓x_ninA, x_catN, x_isBB, x_isBN, x_isBI, x_isBS, x_isBR, ↓x_seq, ↓x_nx, ↓x_pass, ↓x_brk, ↓x_cnt, ↓x_drop, ↓x_ret, ↓x_retN, ↓x_ifS, ↓x_set, ↓x_asg, ↓x_gN, ↓x_gT, ↓x_gsC, ↓x_gsN, ↓x_var, x_rdv, ↓x_c, ↓x_op, ↓x_test, x_tst, ↓x_and, ↓x_or, ↓x_not, ↓x_andV, ↓x_orV, ↓x_notV, x_tstV, ↓x_ifE, x_true, x_false, ↓x_nil, ↓x_cons, ↓x_tup, ↓x_lst, ↓x_new, ↓x_newD, ↓x_call, ↓x_cb, x_oI, x_oIc, x_oS, x_addS, x_isN, x_notN, x_eqI, x_eqS, x_eqIS, x_eqSI, x_eqNS, x_neI, x_neS, x_neB, x_eqB, x_few, x_need, ↓x_ix, x_lenS, x_ixL0, x_ixT0, x_ixT1, x_ixT2, x_ixT3, x_ixT4, x_lenL, x_lenT, x_lenC, x_listL, x_listT, x_tupL, x_tupT, x_strI, x_strS, x_int1, x_intB, x_I1, x_I2, x_cat, x_catT, ↓x_split, ↓x_for, ↓x_cut, ↓x_lc, ↓x_whl, ↓x_diL, ↓x_diT, ↓x_diS, x_itL, x_itC, x_itT, x_itS, ↓x_diR1, ↓x_diR2, ↓x_diE, x_enmL, x_enmC, ↓x_gcN, ↓x_gcT, ↓x_yes, ↓x_ml, ↓x_ms, x_strq, x_ss, x_ssc, x_ssi, ↓x_join, ↓x_aug, x_st2I, ↓x_sl, ↓x_noP, ↓x_part, x_intq, x_slL, x_slC, x_slS, ↓x_in, x_inT, x_inL, x_ninT, x_ninL, x_inN, x_inSS, x_inSI, x_inIS, x_inII, ↓x_sg, x_sgS, x_nsgS, ↓x_eqD, ↓x_inDD, x_mulS, ↓x_isi, x_isiS, x_isiI, x_isiB, x_isiN, x_isiL, x_isiT, ↓x_isTT, x_itI, x_itStr, x_itN, x_itB, x_itLst, x_itTup, ↓x_any, ↓x_all, ↓x_sum, ↓x_srtI, ↓x_srtS, ↓x_intS, ↓x_lenRf, ↓x_tupRf, ↓x_frz', x_flS, x_flI, x_flN, x_flB, x_cs_bool, x_isB_NoneType_bool, x_isB_bool_bool, x_isB_int_bool, x_isB_str_bool, x_isB_list_bool, x_isB_tuple_bool, x_isB_dict_bool, x_cs_int, x_isB_NoneType_int, x_isB_bool_int, x_isB_int_int, x_isB_str_int, x_isB_list_int, x_isB_tuple_int, x_isB_dict_int, x_cs_str, x_isB_NoneType_str, x_isB_bool_str, x_isB_int_str, x_isB_str_str, x_isB_list_str, x_isB_tuple_str, x_isB_dict_str, x_cs_list, x_isB_NoneType_list, x_isB_bool_list, x_isB_int_list, x_isB_str_list, x_isB_list_list, x_isB_tuple_list, x_isB_dict_list, x_cs_tuple, x_isB_NoneType_tuple, x_isB_bool_tuple, x_isB_int_tuple, x_isB_str_tuple, x_isB_list_tuple, x_isB_tuple_tuple, x_isB_dict_tuple, x_cs_dict, x_isB_NoneType_dict, x_isB_bool_dict, x_isB_int_dict, x_isB_str_dict, x_isB_list_dict, x_isB_tuple_dict, x_isB_dict_dict, List.all_cons, List.all_nil, Bool.and_self, Bool.or_false, Bool.or_true, Bool.false_or, Bool.true_or, wipeD, setD, DL.isNon, List.set_cons_zero, List.set_cons_succ, List.getElem?_cons_zero, List.getElem?_cons_succ, List.length_cons, List.length_nil, Nat.zero_add, List.cons_append, List.nil_append, decide_true, decide_false, Bool.not_true, Bool.not_false, true_and, and_true, startD, List.map_cons, List.map_nil, Nat.reduceSub, Nat.reduceLeDiff, Nat.zero_le, Int.reduceLT, Int.reduceLE, and_self, Nat.reduceAdd, List.replicate])
def dMixedA : SpD := fun ds S k _ => ∃ n i : Int, ds = [.int n, .int i] ∧ ∀ z : Int, k (.int z) S
theorem ok_mixedA {fa : Addr} {fd : FuncData} (F : Fun K "_law_mixed" "_law_mixed" s__law_mixed fa fd) : FnOk P w K mg base CX0 1 fa fd ["_law_number_here", "_law_k"] (lSp K dMixedA) := by
  refine dok F sc__law_mixed (fun ds S q qx ⟨x, b, e, _⟩ => by rw [e]; rfl) ⟨_, fun cdv A outer s H E hr => dss_cons (ds_set (i := 2) sc__law_mixed.nd rfl (Or.inl rfl) (de_op op_mod si_mod (de_op op_mul si_mul (de_op op_add si_add (de_op op_add si_add (de_op op_mod si_mod (de_var 0) (de_int)) (de_op op_mul si_mul (de_int) (de_var 1))) (de_int)) (de_int)) (de_int)))
      (dss_cons (ds_set (i := 3) sc__law_mixed.nd rfl (Or.inl rfl) (de_op op_mod si_mod (de_op op_mul si_mul (de_var 2) (de_op op_add si_add (de_op op_add si_add (de_op op_mod si_mod (de_var 2) (de_int)) (de_var 1)) (de_int))) (de_int)))
      (dss_one (ds_ret (de_op op_mod si_mod (de_op op_add si_add (de_op op_mul si_mul (de_var 3) (de_int)) (de_var 2)) (de_int))))), fun ds S q qx ⟨n, i, hd, hq⟩ => ?_⟩
  subst hd
  walk_at "dl"
  refine needOf (.inl (by decide)) ?_
  walk_at "dl"
  refine needOf (.inr (by decide)) ?_
  walk_at "dl"
  generalize ho : ((n % 1000000007 + 7 * i + 1) * 48271) % 2147483647 = once
  have h0 : 0 ≤ once := by rw [← ho]; exact Int.emod_nonneg _ (by decide)
  have h1 : once < 2147483647 := by rw [← ho]; exact Int.emod_lt_of_pos _ (by decide)
  refine needOf (.inl ⟨by omega, by omega⟩) ?_
  walk_at "dl"
  refine needOf (.inr (by decide)) ?_
  walk_at "dl"
  exact hq _
theorem tok_len (l : List Nat) : ∀ ps, tokF l = some ps → ps.length ≤ l.length := by
  have tl : ∀ (n : Nat) (l : List Nat), l.length ≤ n → ∀ ps, tokF l = some ps → ps.length ≤ l.length := by
    intro n
    induction n with
    | zero => intro l hl ps h; cases l with
      | nil => cases h; exact Nat.le_refl _
      | cons _ _ => simp at hl
    | succ n ih =>
      intro l hl ps h
      cases l with
      | nil => cases h; exact Nat.le_refl _
      | cons c r =>
        rw [List.length_cons] at hl ⊢
        by_cases h32 : c = 32
        · subst h32
          rw [tokF_blank] at h
          have := ih r (by omega) ps h
          omega
        · rw [tokF_cons h32] at h
          cases hp : pieceAt (c :: r) with
          | none => rw [hp] at h; cases h
          | some y =>
            obtain ⟨p, rest⟩ := y
            rw [hp] at h
            have hlt := pieceAt_lt hp
            rw [List.length_cons] at hlt
            obtain ⟨qs, h1, h2⟩ := Option.map_eq_some_iff.mp h
            have := ih rest (by omega) qs h1
            rw [← h2, List.length_cons]
            omega
  exact tl _ l (Nat.le_refl _)
theorem same_due {S : Sto} (l : List Nat) (hl : ∀ ps, tokF l = some ps → ps.length ≤ 1000) : SameR S 3 (dueO l) (dueO l) := by
  have piece : ∀ p : Pc, SameR S 1 p.d p.d := fun p => .tup rfl (Nat.le_of_ble_eq_true rfl) fun i y z hy hz => by
    have : y = z := by rw [hy] at hz; exact Option.some.inj hz
    subst this
    match i with
    | 0 => cases hy; exact .str _
    | 1 => cases hy; cases p <;> first | exact .str _ | exact .int _
    | i + 2 => simp at hy
  unfold dueO piecesF
  cases ht : tokF l with
  | none => exact .non
  | some ps =>
    cases ps with
    | nil => exact .non
    | cons p0 ps0 =>
      have hps := hl _ ht
      refine .tup rfl (Nat.le_of_ble_eq_true rfl) fun i y z hy hz => ?_
      match i with
      | 0 => cases hy; cases hz; exact .int _
      | 1 =>
        cases hy
        cases hz
        refine .list (.inl rfl) rfl (by rw [List.length_map]; exact hps) fun i y z hy hz => ?_
        have : y = z := by rw [hy] at hz; exact Option.some.inj hz
        subst this
        rw [List.getElem?_map] at hy
        obtain ⟨p, _, rfl⟩ := Option.map_eq_some_iff.mp hy
        exact piece p
      | i + 2 => simp at hy
theorem ok_law {f : Addr} {fd : FuncData} (F : Fun K "law" "law" s_law f fd) (T : TH K mg wa CE CR CB) (G__law_tap : DefD P w K mg base 1 "_law_tap" ["_law_cell"] dTap) (G__law_next : DefD P w K mg base 2 "_law_next" ["_law_tap_here", "_law_size"] dDraw) (G__law_mixed : DefD P w K mg base 1 "_law_mixed" ["_law_number_here", "_law_k"] dMixedA) (G__law_piece : DefD P w K mg base 4 "_law_piece" ["_law_tap_here"] dPiece)
    (G__law_fit : DefD P w K mg base 2 "_law_fit" ["_law_pieces"] dFit) (G__law_row : DefD P w K mg base 3 "_law_row" ["_law_pieces", "_law_tap_here"] dRow) (G__law_spoilt : DefD P w K mg base 3 "_law_spoilt" ["_law_row_here", "_law_tap_here"] dSpoilt) (G__law_told : DefD P w K mg base 5 "_law_told" ["_law_row_here"] dTold) (G__law_judged : DefD P w K mg base 3 "_law_judged" ["_law_row_here"] dJudged) (G__law_same : DefD P w K mg base 5 "_law_same" ["_law_found", "_law_due"] (dSame 4)) :
    FnOk P w K mg base CX0 6 f fd ["_law_script"] (lSp K dLaw) := by
  refine dok F sc_law (fun ds S q qx ⟨ns, h, _⟩ => by rw [h]; rfl) ⟨_, fun cdv A outer s H E hr => dss_cons (ds_for PassesOwn.never rfl (di_enum (K := K) (by rfl) T.enumerate (da_cons (de_op op_cat si_cat (de_slice (slL (K := K)) si_slL (de_var 0) do_none (do_some (de_int))) (de_lst (da_cons (de_callB call_len (si_len rfl) (by rfl) T.len (by decide +kernel) (da_cons (de_var 0) da_nil)) da_nil))) da_nil)) (dg_tup (n := 2) rfl (dgs_cons (dg_name (i := 1) sc_law.nd rfl (Or.inl rfl)) (dgs_cons (dg_name (i := 2) sc_law.nd rfl (Or.inl rfl)) dgs_nil)))
        (dss_cons (ds_set (i := 3) sc_law.nd rfl (Or.inr rfl) (de_call G__law_tap (hr.mono (by decide)) (by rfl) (da_cons (de_op op_add si_add (de_var 2) (de_op op_mul si_mul (de_int) (de_var 1))) da_nil)))
        (dss_cons (ds_set (i := 4) sc_law.nd rfl (Or.inl rfl) (de_call G__law_fit (hr.mono (by decide)) (by rfl) (da_cons (de_lc (own := [("_law_turn", 10)]) (gc_name (j := 10) (by decide)) rfl sc_law.nd (di_range1 (by rfl) T.range (da_cons (de_op op_add si_add (de_int) (de_call G__law_next (hr.mono (by decide)) (by rfl) (da_cons (de_var 3) (da_cons (de_int) da_nil)))) da_nil)) (blkOk_by (N := N_law) (sc := defScope s_law) (by decide +kernel)) (fun _ _ _ _ _ => pg_name (i := 10) sc_law.nd rfl (Or.inl rfl)) (fun _ _ _ _ _ => dts_nil) (fun _ _ _ _ _ => de_call G__law_piece (hr.mono (by decide)) (by rfl) (da_cons (de_var 3) da_nil))) da_nil)))
        (dss_cons (ds_set (i := 5) sc_law.nd rfl (Or.inl rfl) (de_op op_add_str si_addS (de_op op_mulS si_mulS (de_str) (de_call G__law_next (hr.mono (by decide)) (by rfl) (da_cons (de_var 3) (da_cons (de_int) da_nil)))) (de_call G__law_row (hr.mono (by decide)) (by rfl) (da_cons (de_var 4) (da_cons (de_var 3) da_nil)))))
        (dss_one (ds_for PassesOwn.never rfl (di_tup (K := K) (de_tup (da_cons (de_var 5) (da_cons (de_slice sl_str si_slS (de_call G__law_spoilt (hr.mono (by decide)) (by rfl) (da_cons (de_var 5) (da_cons (de_call G__law_tap (hr.mono (by decide)) (by rfl) (da_cons (de_call G__law_mixed (hr.mono (by decide)) (by rfl) (da_cons (de_var 2) (da_cons (de_var 1) da_nil))) da_nil)) da_nil))) do_none (do_some (de_int))) da_nil)))) (dg_name (i := 6) sc_law.nd rfl (Or.inl rfl))
          (dss_cons (ds_asg (de_call G__law_told (hr.mono (by decide)) (by rfl) (da_cons (de_var 6) da_nil)) (dg_tup (n := 2) rfl (dgs_cons (dg_name (i := 7) sc_law.nd rfl (Or.inl rfl)) (dgs_cons (dg_name (i := 8) sc_law.nd rfl (Or.inl rfl)) dgs_nil))))
          (dss_cons (ds_set (i := 9) sc_law.nd rfl (Or.inl rfl) (de_call G__law_judged (hr.mono (by decide)) (by rfl) (da_cons (de_var 6) da_nil)))
          (dss_one (ds_if (PW.pt (dw_or (dt_not (dt_val (de_call G__law_same (hr.mono (by decide)) (by rfl) (da_cons (de_var 7) (da_cons (de_var 9) da_nil))))) (dw_or1 (dt_cmp op_ne si_ne (de_var 8) (de_ix ix_seq (si_ix rfl) (de_lst (da_cons (de_str) (da_cons (de_str) da_nil))) (de_callTy call_int1 si_int1 (by rfl) T.int (by decide +kernel) (da_cons (de_cmp op_isN si_isN (de_var 9) (de_non) (nomark _)) da_nil)) (fun _ _ => rfl)) (nomark _)))))
            (dss_one (ds_ret (de_bl)))
            (dss_nil)))))))))))
      (dss_one (ds_ret (de_bl))), fun ds S q qx ⟨ns, hd, hl, h⟩ => ?_⟩
  subst hd
  walk_at "dl"
  refine fewOf (by
    unfold cutD
    rw [List.length_take, List.length_drop, List.length_map]
    omega) ?_
  have hints : ∃ ms : List Int, cutD (ns.map D.int) none (some 30) ++ [D.int (ns.map D.int).length] = ms.map D.int := ⟨((ns.drop (HT.sIx ns.length 0 none)).take (HT.sIx ns.length ns.length (some 30) - HT.sIx ns.length 0 none)) ++ [(ns.length : Int)], by
    unfold cutD
    rw [List.length_map, List.map_append, List.map_take, List.map_drop]
    rfl⟩
  obtain ⟨ms, hms⟩ := hints
  rw [hms]
  walk_at "dl"
  refine forOf (fun _ δ _ => ∃ a1 a2 a3 a4 a5 a6 a7 a8 a9 a10 : Option D, δ = [some (.scr (ns.map D.int)), a1, a2, a3, a4, a5, a6, a7, a8, a9, a10]) ⟨_, _, _, _, _, _, _, _, _, _, rfl⟩ ?_ ?_
  · rintro n d δ S' hn ⟨a1, a2, a3, a4, a5, a6, a7, a8, a9, a10, rfl⟩
    have hn' := (List.getElem?_eq_some_iff.mp hn).1
    rw [enumD_len] at hn'
    rw [List.length_map] at hn'
    rw [enumD_get (x := .int ms[n]) (by rw [List.getElem?_map, List.getElem?_eq_getElem hn']; rfl)] at hn
    cases hn
    walk_at "dl"
    refine needOf (.inl ⟨by decide, by decide⟩) ?_
    walk_at "dl"
    refine ⟨_, rfl, fun tp htp => ?_⟩
    walk_at "dl"
    have hT : put S' tp O.tap tp = some .tap := put_same
    generalize put S' tp O.tap = S2 at hT ⊢
    refine drawOf hT (by decide) (by decide) fun m hm => ?_
    walk_at "dl"
    refine rngOf (by omega) (by omega) ?_
    walk_at "dl"
    refine lcOf (fun i acc => ∃ ps : List Pc, acc = ps.map Pc.d ∧ ps.length = i ∧ ∀ p ∈ ps, p.ok) (by rw [rngD_len]; omega) ⟨[], rfl, rfl, (fun p hp => nomatch hp)⟩ (fun p hp i d acc hd hP => ?_) (fun acc hacc => ?_)
    · obtain ⟨ps, rfl, hpl, hpk⟩ := hP
      walk_at "dl"
      refine valOf (by rw [put_ne (sto_ne hT hp)]; exact hT) fun v ⟨x, hv, hx⟩ => ?_
      subst hv
      exact LcO.of hp ⟨ps ++ [x], by rw [List.map_append]; rfl, by simp [hpl], fun z hz => by
        rcases List.mem_append.mp hz with q | q
        · exact hpk z q
        · rw [List.mem_singleton.mp q]; exact hx⟩
    obtain ⟨ps, rfl, hpl, hpk⟩ := hacc
    rw [rngD_len] at hpl
    walk_at "dl"
    refine ⟨ps, rfl, fun z => ?_, by omega, hpk, fun qs hq0 hql hqk => ?_⟩
    · rw [z] at hpl
      simp at hpl
      omega
    walk_at "dl"
    refine drawOf hT (by decide) (by decide) fun b hb => ?_
    walk_at "dl"
    refine needOf ⟨by decide, by omega, by omega⟩ ?_
    walk_at "dl"
    refine ⟨qs, tp, rfl, hT, hq0, hql, hqk, fun l hlay hll hhd => ?_⟩
    walk_at "dl"
    rw [blank_mul, strOf_app]
    refine fewOf (by rw [strOf_len, strOf_len, List.length_replicate]; omega) ?_
    have hpl1 : Pl 5000 (strOf (List.replicate b 32 ++ l)) := ⟨by rw [strOf_len, List.length_append, List.length_replicate]; omega, fun c hc => by
      rw [show (strOf (List.replicate b 32 ++ l)).cps.toList = List.replicate b 32 ++ l by simp [strOf]] at hc
      rcases List.mem_append.mp hc with hc | hc
      · rw [(List.mem_replicate.mp hc).2]; decide
      · exact lay_plain hlay c hc⟩
    have htk1 : ∀ ps, tokF (strOf (List.replicate b 32 ++ l)).cps.toList = some ps → ps.length ≤ 1000 := fun ps hps => by
      rw [show (strOf (List.replicate b 32 ++ l)).cps.toList = List.replicate b 32 ++ l by simp [strOf], tok_lay (hlay.blanks b)] at hps
      cases hps
      omega
    generalize strOf (List.replicate b 32 ++ l) = row at hpl1 htk1 ⊢
    walk_at "dl"
    refine ⟨_, _, rfl, fun z => ?_⟩
    walk_at "dl"
    refine ⟨_, rfl, fun tp2 htp2 => ?_⟩
    walk_at "dl"
    refine ⟨row, tp2, rfl, hpl1, put_same, fun y hy => ?_⟩
    walk_at "dl"
    refine fewOf (by have := hy.1; omega) ?_
    have hpl2 := hy.cut none (some 120)
    have hl2 : (cutS y none (some 120)).length ≤ 120 := by
      unfold cutS
      rw [len_cps]
      have h0 : HT.sIx y.length 0 none = 0 := rfl
      have h2 : HT.sIx y.length y.length (some 120) ≤ 120 := by unfold HT.sIx; simp; omega
      rw [h0]
      simp
      omega
    have htk2 : ∀ ps, tokF (cutS y none (some 120)).cps.toList = some ps → ps.length ≤ 1000 := fun ps hps => by
      have := tok_len _ _ hps
      rw [← len_cps] at this
      omega
    have hpl2 : Pl 5000 (cutS y none (some 120)) := ⟨by omega, hpl2.2⟩
    generalize cutS y none (some 120) = two at hpl2 htk2 ⊢
    have hrow : ∀ o ∈ [row, two], Pl 5000 o ∧ ∀ ps, tokF o.cps.toList = some ps → ps.length ≤ 1000 := fun o ho => by
      simp only [List.mem_cons, List.not_mem_nil, or_false] at ho
      rcases ho with rfl | rfl
      · exact ⟨hpl1, htk1⟩
      · exact ⟨hpl2, htk2⟩
    walk_at "dl"
    refine forOf (fun _ δ _ => ∃ a1 a2 a3 a4 a5 a6 a7 a8 a9 a10 : Option D, δ = [some (.scr (ns.map D.int)), a1, a2, a3, a4, a5, a6, a7, a8, a9, a10]) ⟨_, _, _, _, _, _, _, _, _, _, rfl⟩ ?_ ?_
    · rintro i d δ S5 hi ⟨b1, b2, b3, b4, b5, b6, b7, b8, b9, b10, rfl⟩
      obtain ⟨o, ho, rfl⟩ : ∃ o ∈ [row, two], d = .str o := by
        have := List.mem_of_getElem? hi
        simp only [List.mem_cons, List.not_mem_nil, or_false] at this
        rcases this with rfl | rfl
        · exact ⟨row, by simp, rfl⟩
        · exact ⟨two, by simp, rfl⟩
      obtain ⟨ho1, ho2⟩ := hrow o ho
      have hol := ho1.1
      have hoc := ho1.2
      have hom : o = mk o.cps.toList := mk_of rfl
      rw [hom]
      generalize o.cps.toList = x at hom ho2 hoc
      have hxl : x.length ≤ 5000 := by rw [hom, mk_len] at hol; exact hol
      walk_at "dl"
      refine ⟨x, rfl, by omega, fun S6 g6 => ?_⟩
      unfold toldW
      walk_at "dl"
      refine ⟨x, rfl, hxl, hoc, fun S7 g7 => ?_⟩
      walk_at "dl"
      refine ⟨_, _, 3, rfl, by decide, same_due x ho2, ?_⟩
      walk_at "dl"
      unfold dueO
      cases hp : piecesF x with
      | none =>
        walk_at "dl"
        refine ixAt (j := 1) (.inl rfl) rfl ?_
        walk_at "dl"
        exact ⟨_, _, _, _, _, _, _, _, _, _, rfl⟩
      | some y =>
        obtain ⟨b, ps⟩ := y
        walk_at "dl"
        refine ixAt (j := 0) (.inl rfl) rfl ?_
        walk_at "dl"
        exact ⟨_, _, _, _, _, _, _, _, _, _, rfl⟩
    · rintro δ S5 ⟨b1, b2, b3, b4, b5, b6, b7, b8, b9, b10, rfl⟩
      walk_at "dl"
      exact ⟨_, _, _, _, _, _, _, _, _, _, rfl⟩
  · rintro δ S' ⟨a1, a2, a3, a4, a5, a6, a7, a8, a9, a10, rfl⟩
    walk_at "dl"
    exact h S'
end
end K

set_option Elab.async false
set_option linter.all false
set_option maxRecDepth 100000
namespace K
open PySem L2 Evl EX
section
set_option maxHeartbeats 0 in
theorem all_mk {l : PySem.W.OpenLaw} {w : World} {K : PySem.W.Frag} {h : Heap} {mg : Str → Option Value} {fa : Addr} (X : K.In h) (G : h.Ns mainGlobals mg) (hfa : mg "law" = some (.ref fa))
    {f1 : Addr} {od1 an1 : Option Addr} {sl1 : Array (Option Value)} {oc1 kV1 dc1 pm1 cd1 ct1 : Value}
    {f2 : Addr} {od2 an2 : Option Addr} {sl2 : Array (Option Value)} {oc2 kV2 dc2 pm2 cd2 ct2 : Value}
    {f3 : Addr} {od3 an3 : Option Addr} {sl3 : Array (Option Value)} {oc3 kV3 dc3 pm3 cd3 ct3 : Value}
    {f4 : Addr} {od4 an4 : Option Addr} {sl4 : Array (Option Value)} {oc4 kV4 dc4 pm4 cd4 ct4 : Value}
    {f5 : Addr} {od5 an5 : Option Addr} {sl5 : Array (Option Value)} {oc5 kV5 dc5 pm5 cd5 ct5 : Value}
    {f6 : Addr} {od6 an6 : Option Addr} {sl6 : Array (Option Value)} {oc6 kV6 dc6 pm6 cd6 ct6 : Value}
    {f7 : Addr} {od7 an7 : Option Addr} {sl7 : Array (Option Value)} {oc7 kV7 dc7 pm7 cd7 ct7 : Value}
    {f8 : Addr} {od8 an8 : Option Addr} {sl8 : Array (Option Value)} {oc8 kV8 dc8 pm8 cd8 ct8 : Value}
    {f9 : Addr} {od9 an9 : Option Addr} {sl9 : Array (Option Value)} {oc9 kV9 dc9 pm9 cd9 ct9 : Value}
    {f10 : Addr} {od10 an10 : Option Addr} {sl10 : Array (Option Value)} {oc10 kV10 dc10 pm10 cd10 ct10 : Value}
    {f11 : Addr} {od11 an11 : Option Addr} {sl11 : Array (Option Value)} {oc11 kV11 dc11 pm11 cd11 ct11 : Value}
    {f12 : Addr} {od12 an12 : Option Addr} {sl12 : Array (Option Value)} {oc12 kV12 dc12 pm12 cd12 ct12 : Value}
    {f13 : Addr} {od13 an13 : Option Addr} {sl13 : Array (Option Value)} {oc13 kV13 dc13 pm13 cd13 ct13 : Value}
    {f14 : Addr} {od14 an14 : Option Addr} {sl14 : Array (Option Value)} {oc14 kV14 dc14 pm14 cd14 ct14 : Value}
    {f15 : Addr} {od15 an15 : Option Addr} {sl15 : Array (Option Value)} {oc15 kV15 dc15 pm15 cd15 ct15 : Value}
    {f16 : Addr} {od16 an16 : Option Addr} {sl16 : Array (Option Value)} {oc16 kV16 dc16 pm16 cd16 ct16 : Value}
    {f17 : Addr} {od17 an17 : Option Addr} {sl17 : Array (Option Value)} {oc17 kV17 dc17 pm17 cd17 ct17 : Value}
    {f18 : Addr} {od18 an18 : Option Addr} {sl18 : Array (Option Value)} {oc18 kV18 dc18 pm18 cd18 ct18 : Value}
    {f19 : Addr} {od19 an19 : Option Addr} {sl19 : Array (Option Value)} {oc19 kV19 dc19 pm19 cd19 ct19 : Value}
    {f20 : Addr} {od20 an20 : Option Addr} {sl20 : Array (Option Value)} {oc20 kV20 dc20 pm20 cd20 ct20 : Value}
    {f21 : Addr} {od21 an21 : Option Addr} {sl21 : Array (Option Value)} {oc21 kV21 dc21 pm21 cd21 ct21 : Value}
    {f22 : Addr} {od22 an22 : Option Addr} {sl22 : Array (Option Value)} {oc22 kV22 dc22 pm22 cd22 ct22 : Value}
    {f23 : Addr} {od23 an23 : Option Addr} {sl23 : Array (Option Value)} {oc23 kV23 dc23 pm23 cd23 ct23 : Value}
    {f24 : Addr} {od24 an24 : Option Addr} {sl24 : Array (Option Value)} {oc24 kV24 dc24 pm24 cd24 ct24 : Value}
    {f25 : Addr} {od25 an25 : Option Addr} {sl25 : Array (Option Value)} {oc25 kV25 dc25 pm25 cd25 ct25 : Value} {C_BadTree : Addr} {tL tF tS : Tok} {tN tG tX : Tok} {wa : Addr} {wn : Nat} {wd : Option Addr} {wsl : Array (Option Value)} {wvs : Array Value} {C_HallError C_BadRow : Addr} {xnm_BadRow xq_BadRow : Str} {xN_BadRow : Addr} {xbs_BadRow : List Value} {xsn_BadRow : List Str} {xsub_BadRow : List Value} {xab_BadRow : Bool} {xcol_BadRow : Option Bool} {xdd_BadRow : Option Addr} {xm0_BadRow xm1_BadRow xm2_BadRow xm3_BadRow xm5_BadRow : Option Value}
    (aC_HallError : PySem.W.nsIn K mainGlobals "HallError" = some (some (.ref C_HallError)))
    (vA_HallError : PySem.W.specialIn K (.ref C_HallError) "__getattribute__" = some (some (.builtin "type.__getattribute__")))
    (vB_HallError : PySem.W.readsIn K C_HallError (.type "type") = true)
    (vC_HallError : PySem.W.typeIn K (.ref C_HallError) = some (.type "type"))
    (vD_HallError : PySem.W.findCls K (.ref C_HallError) (.type "type") "__init__" = some (.val (.builtin "ValueError.__init__")))
    (aC_BadRow : PySem.W.nsIn K mainGlobals "BadRow" = some (some (.ref C_BadRow)))
    (xL_BadRow : K.lookup C_BadRow = some (excClassObj xnm_BadRow xq_BadRow C_BadRow xN_BadRow xbs_BadRow [.ref C_HallError, .type "ValueError", .type "Exception", .type "BaseException", .type "object"] true xsn_BadRow xsub_BadRow xab_BadRow xcol_BadRow xdd_BadRow xm0_BadRow xm1_BadRow xm2_BadRow xm3_BadRow xm5_BadRow "ValueError.__new__"))
    (sa_BadRow : PySem.W.findIn K (.ref C_BadRow) "__setattr__" = some (some (.builtin "object.__setattr__")))
    (su_BadRow : PySem.W.subIn K (.ref C_BadRow) (.type "BaseException") = some true)
    (ty_BadRow : PySem.W.typeIn K (.ref C_BadRow) = some (.type "type"))
    (kc_BadRow : PySem.W.keepIn K (.ref C_BadRow) = true)
    (nf_BadRow : PySem.W.findIn K (.ref C_BadRow) "row" = some none)
    (cl_BadRow : PySem.W.isClsIn K C_BadRow = true)
    (ga_BadRow : PySem.W.findIn K (.ref C_BadRow) "__getattribute__" = some (some (.builtin "BaseException.__getattribute__")))
    (gt_BadRow : PySem.W.findIn K (.ref C_BadRow) "__getattr__" = some none)
    (ha_BadRow : PySem.W.findIn K (.ref C_BadRow) "__class__" = some (some (.builtin "object.__class__")))
    (hn_BadRow : PySem.W.specialIn K (.builtin "object.__class__") "__get__" = some (some (.builtin "getset_descriptor.__get__")))
    (tk_BadRow : PySem.W.takesIn K (.builtin "object.__class__") = some true)
    (hm_BadRow : PySem.W.mroIn K C_BadRow (.type "object") = some true)
    (hd_BadRow : PySem.W.hasDictIn K C_BadRow = true)
    (a1 : PySem.W.findIn K (.ref C_BadRow) "__init__" = some (some (.ref f1))) (i1 : PySem.W.isFn K (.ref f1) = true) (l1 : K.lookup f1 = some ⟨oc1, od1, .func (PySem.W.fnOf "__init__" "BadRow.__init__" (defArgs s_BadRow___init__) (defBody s_BadRow___init__) (defScope s_BadRow___init__) .none kV1 dc1 pm1 an1 cd1 ct1), sl1⟩) (c1 : PySem.W.codeIn K cd1 "BadRow.__init__" = true) (k1 : PySem.W.keepIn K (.ref f1) = true)
    (a2 : PySem.W.nsIn K mainGlobals "run_end" = some (some (.ref f2))) (l2 : K.lookup f2 = some ⟨oc2, od2, .func (PySem.W.fnOf "run_end" "run_end" (defArgs s_run_end) (defBody s_run_end) (defScope s_run_end) .none kV2 dc2 pm2 an2 cd2 ct2), sl2⟩) (c2 : PySem.W.codeIn K cd2 "run_end" = true) (k2 : PySem.W.keepIn K (.ref f2) = true)
    (a3 : PySem.W.nsIn K mainGlobals "number_piece" = some (some (.ref f3))) (l3 : K.lookup f3 = some ⟨oc3, od3, .func (PySem.W.fnOf "number_piece" "number_piece" (defArgs s_number_piece) (defBody s_number_piece) (defScope s_number_piece) .none kV3 dc3 pm3 an3 cd3 ct3), sl3⟩) (c3 : PySem.W.codeIn K cd3 "number_piece" = true) (k3 : PySem.W.keepIn K (.ref f3) = true)
    (a4 : PySem.W.nsIn K mainGlobals "run_piece" = some (some (.ref f4))) (l4 : K.lookup f4 = some ⟨oc4, od4, .func (PySem.W.fnOf "run_piece" "run_piece" (defArgs s_run_piece) (defBody s_run_piece) (defScope s_run_piece) .none kV4 dc4 pm4 an4 cd4 ct4), sl4⟩) (c4 : PySem.W.codeIn K cd4 "run_piece" = true) (k4 : PySem.W.keepIn K (.ref f4) = true)
    (a5 : PySem.W.nsIn K mainGlobals "piece_at" = some (some (.ref f5))) (l5 : K.lookup f5 = some ⟨oc5, od5, .func (PySem.W.fnOf "piece_at" "piece_at" (defArgs s_piece_at) (defBody s_piece_at) (defScope s_piece_at) .none kV5 dc5 pm5 an5 cd5 ct5), sl5⟩) (c5 : PySem.W.codeIn K cd5 "piece_at" = true) (k5 : PySem.W.keepIn K (.ref f5) = true)
    (a6 : PySem.W.nsIn K mainGlobals "pieces_of" = some (some (.ref f6))) (l6 : K.lookup f6 = some ⟨oc6, od6, .func (PySem.W.fnOf "pieces_of" "pieces_of" (defArgs s_pieces_of) (defBody s_pieces_of) (defScope s_pieces_of) .none kV6 dc6 pm6 an6 cd6 ct6), sl6⟩) (c6 : PySem.W.codeIn K cd6 "pieces_of" = true) (k6 : PySem.W.keepIn K (.ref f6) = true)
    (a7 : PySem.W.nsIn K mainGlobals "_law_mixed" = some (some (.ref f7))) (l7 : K.lookup f7 = some ⟨oc7, od7, .func (PySem.W.fnOf "_law_mixed" "_law_mixed" (defArgs s__law_mixed) (defBody s__law_mixed) (defScope s__law_mixed) .none kV7 dc7 pm7 an7 cd7 ct7), sl7⟩) (c7 : PySem.W.codeIn K cd7 "_law_mixed" = true) (k7 : PySem.W.keepIn K (.ref f7) = true)
    (a8 : PySem.W.nsIn K mainGlobals "_law_tap" = some (some (.ref f8))) (l8 : K.lookup f8 = some ⟨oc8, od8, .func (PySem.W.fnOf "_law_tap" "_law_tap" (defArgs s__law_tap) (defBody s__law_tap) (defScope s__law_tap) .none kV8 dc8 pm8 an8 cd8 ct8), sl8⟩) (c8 : PySem.W.codeIn K cd8 "_law_tap" = true) (k8 : PySem.W.keepIn K (.ref f8) = true)
    (a9 : PySem.W.nsIn K mainGlobals "_law_next" = some (some (.ref f9))) (l9 : K.lookup f9 = some ⟨oc9, od9, .func (PySem.W.fnOf "_law_next" "_law_next" (defArgs s__law_next) (defBody s__law_next) (defScope s__law_next) .none kV9 dc9 pm9 an9 cd9 ct9), sl9⟩) (c9 : PySem.W.codeIn K cd9 "_law_next" = true) (k9 : PySem.W.keepIn K (.ref f9) = true)
    (a10 : PySem.W.nsIn K mainGlobals "_law_kept" = some (some (.ref f10))) (l10 : K.lookup f10 = some ⟨oc10, od10, .func (PySem.W.fnOf "_law_kept" "_law_kept" (defArgs s__law_kept) (defBody s__law_kept) (defScope s__law_kept) .none kV10 dc10 pm10 an10 cd10 ct10), sl10⟩) (c10 : PySem.W.codeIn K cd10 "_law_kept" = true) (k10 : PySem.W.keepIn K (.ref f10) = true)
    (a11 : PySem.W.nsIn K mainGlobals "_law_name" = some (some (.ref f11))) (l11 : K.lookup f11 = some ⟨oc11, od11, .func (PySem.W.fnOf "_law_name" "_law_name" (defArgs s__law_name) (defBody s__law_name) (defScope s__law_name) .none kV11 dc11 pm11 an11 cd11 ct11), sl11⟩) (c11 : PySem.W.codeIn K cd11 "_law_name" = true) (k11 : PySem.W.keepIn K (.ref f11) = true)
    (a12 : PySem.W.nsIn K mainGlobals "_law_signs" = some (some (.ref f12))) (l12 : K.lookup f12 = some ⟨oc12, od12, .func (PySem.W.fnOf "_law_signs" "_law_signs" (defArgs s__law_signs) (defBody s__law_signs) (defScope s__law_signs) .none kV12 dc12 pm12 an12 cd12 ct12), sl12⟩) (c12 : PySem.W.codeIn K cd12 "_law_signs" = true) (k12 : PySem.W.keepIn K (.ref f12) = true)
    (a13 : PySem.W.nsIn K mainGlobals "_law_words_text" = some (some (.ref f13))) (l13 : K.lookup f13 = some ⟨oc13, od13, .func (PySem.W.fnOf "_law_words_text" "_law_words_text" (defArgs s__law_words_text) (defBody s__law_words_text) (defScope s__law_words_text) .none kV13 dc13 pm13 an13 cd13 ct13), sl13⟩) (c13 : PySem.W.codeIn K cd13 "_law_words_text" = true) (k13 : PySem.W.keepIn K (.ref f13) = true)
    (a14 : PySem.W.nsIn K mainGlobals "_law_number" = some (some (.ref f14))) (l14 : K.lookup f14 = some ⟨oc14, od14, .func (PySem.W.fnOf "_law_number" "_law_number" (defArgs s__law_number) (defBody s__law_number) (defScope s__law_number) .none kV14 dc14 pm14 an14 cd14 ct14), sl14⟩) (c14 : PySem.W.codeIn K cd14 "_law_number" = true) (k14 : PySem.W.keepIn K (.ref f14) = true)
    (a15 : PySem.W.nsIn K mainGlobals "_law_piece" = some (some (.ref f15))) (l15 : K.lookup f15 = some ⟨oc15, od15, .func (PySem.W.fnOf "_law_piece" "_law_piece" (defArgs s__law_piece) (defBody s__law_piece) (defScope s__law_piece) .none kV15 dc15 pm15 an15 cd15 ct15), sl15⟩) (c15 : PySem.W.codeIn K cd15 "_law_piece" = true) (k15 : PySem.W.keepIn K (.ref f15) = true)
    (a16 : PySem.W.nsIn K mainGlobals "_law_piece_text" = some (some (.ref f16))) (l16 : K.lookup f16 = some ⟨oc16, od16, .func (PySem.W.fnOf "_law_piece_text" "_law_piece_text" (defArgs s__law_piece_text) (defBody s__law_piece_text) (defScope s__law_piece_text) .none kV16 dc16 pm16 an16 cd16 ct16), sl16⟩) (c16 : PySem.W.codeIn K cd16 "_law_piece_text" = true) (k16 : PySem.W.keepIn K (.ref f16) = true)
    (a17 : PySem.W.nsIn K mainGlobals "_law_fit" = some (some (.ref f17))) (l17 : K.lookup f17 = some ⟨oc17, od17, .func (PySem.W.fnOf "_law_fit" "_law_fit" (defArgs s__law_fit) (defBody s__law_fit) (defScope s__law_fit) .none kV17 dc17 pm17 an17 cd17 ct17), sl17⟩) (c17 : PySem.W.codeIn K cd17 "_law_fit" = true) (k17 : PySem.W.keepIn K (.ref f17) = true)
    (a18 : PySem.W.nsIn K mainGlobals "_law_row" = some (some (.ref f18))) (l18 : K.lookup f18 = some ⟨oc18, od18, .func (PySem.W.fnOf "_law_row" "_law_row" (defArgs s__law_row) (defBody s__law_row) (defScope s__law_row) .none kV18 dc18 pm18 an18 cd18 ct18), sl18⟩) (c18 : PySem.W.codeIn K cd18 "_law_row" = true) (k18 : PySem.W.keepIn K (.ref f18) = true)
    (a19 : PySem.W.nsIn K mainGlobals "_law_same" = some (some (.ref f19))) (l19 : K.lookup f19 = some ⟨oc19, od19, .func (PySem.W.fnOf "_law_same" "_law_same" (defArgs s__law_same) (defBody s__law_same) (defScope s__law_same) .none kV19 dc19 pm19 an19 cd19 ct19), sl19⟩) (c19 : PySem.W.codeIn K cd19 "_law_same" = true) (k19 : PySem.W.keepIn K (.ref f19) = true)
    (a20 : PySem.W.nsIn K mainGlobals "_law_cut" = some (some (.ref f20))) (l20 : K.lookup f20 = some ⟨oc20, od20, .func (PySem.W.fnOf "_law_cut" "_law_cut" (defArgs s__law_cut) (defBody s__law_cut) (defScope s__law_cut) .none kV20 dc20 pm20 an20 cd20 ct20), sl20⟩) (c20 : PySem.W.codeIn K cd20 "_law_cut" = true) (k20 : PySem.W.keepIn K (.ref f20) = true)
    (a21 : PySem.W.nsIn K mainGlobals "_law_sorted" = some (some (.ref f21))) (l21 : K.lookup f21 = some ⟨oc21, od21, .func (PySem.W.fnOf "_law_sorted" "_law_sorted" (defArgs s__law_sorted) (defBody s__law_sorted) (defScope s__law_sorted) .none kV21 dc21 pm21 an21 cd21 ct21), sl21⟩) (c21 : PySem.W.codeIn K cd21 "_law_sorted" = true) (k21 : PySem.W.keepIn K (.ref f21) = true)
    (a22 : PySem.W.nsIn K mainGlobals "_law_judged" = some (some (.ref f22))) (l22 : K.lookup f22 = some ⟨oc22, od22, .func (PySem.W.fnOf "_law_judged" "_law_judged" (defArgs s__law_judged) (defBody s__law_judged) (defScope s__law_judged) .none kV22 dc22 pm22 an22 cd22 ct22), sl22⟩) (c22 : PySem.W.codeIn K cd22 "_law_judged" = true) (k22 : PySem.W.keepIn K (.ref f22) = true)
    (a23 : PySem.W.nsIn K mainGlobals "_law_spoilt" = some (some (.ref f23))) (l23 : K.lookup f23 = some ⟨oc23, od23, .func (PySem.W.fnOf "_law_spoilt" "_law_spoilt" (defArgs s__law_spoilt) (defBody s__law_spoilt) (defScope s__law_spoilt) .none kV23 dc23 pm23 an23 cd23 ct23), sl23⟩) (c23 : PySem.W.codeIn K cd23 "_law_spoilt" = true) (k23 : PySem.W.keepIn K (.ref f23) = true)
    (a24 : PySem.W.nsIn K mainGlobals "_law_told" = some (some (.ref f24))) (l24 : K.lookup f24 = some ⟨oc24, od24, .func (PySem.W.fnOf "_law_told" "_law_told" (defArgs s__law_told) (defBody s__law_told) (defScope s__law_told) .none kV24 dc24 pm24 an24 cd24 ct24), sl24⟩) (c24 : PySem.W.codeIn K cd24 "_law_told" = true) (k24 : PySem.W.keepIn K (.ref f24) = true)
    (a25 : PySem.W.nsIn K mainGlobals "law" = some (some (.ref f25))) (l25 : K.lookup f25 = some ⟨oc25, od25, .func (PySem.W.fnOf "law" "law" (defArgs s_law) (defBody s_law) (defScope s_law) .none kV25 dc25 pm25 an25 cd25 ct25), sl25⟩) (c25 : PySem.W.codeIn K cd25 "law" = true) (k25 : PySem.W.keepIn K (.ref f25) = true)
    (ti1 : PySem.W.typeIn K (.ref f1) = some (.type "function"))
    (z1 : PySem.W.nsIn K mainGlobals "any" = some none)
    (z2 : PySem.W.nsIn K mainGlobals "all" = some none)
    (z3 : PySem.W.nsIn K mainGlobals "len" = some none)
    (z4 : PySem.W.nsIn K mainGlobals "list" = some none)
    (z5 : PySem.W.nsIn K mainGlobals "abs" = some none)
    (z6 : PySem.W.nsIn K mainGlobals "int" = some none)
    (z7 : PySem.W.nsIn K mainGlobals "str" = some none)
    (z8 : PySem.W.nsIn K mainGlobals "range" = some none)
    (z9 : PySem.W.nsIn K mainGlobals "enumerate" = some none)
    (z10 : PySem.W.nsIn K mainGlobals "max" = some none)
    (z11 : PySem.W.nsIn K mainGlobals "isinstance" = some none)
    (z12 : PySem.W.nsIn K mainGlobals "tuple" = some none)
    (z13 : PySem.W.nsIn K mainGlobals "bool" = some none)
    (z14 : PySem.W.nsIn K mainGlobals "ValueError" = some none)
    (aT : PySem.W.nsIn K mainGlobals "BadTree" = some (some (.ref C_BadTree)))
    (eL : PySem.W.nsIn K mainGlobals "LETTERS" = some (some (.str PC.LETTERS tL)))
    (eF : PySem.W.nsIn K mainGlobals "FIGURES" = some (some (.str PC.FIGURES tF)))
    (eS : PySem.W.nsIn K mainGlobals "SIGNS" = some (some (.str PC.SIGNS tS)))
    (eW : PySem.W.nsIn K mainGlobals "WORDS" = some (some (.ref wa)))
    (eN : PySem.W.nsIn K mainGlobals "MOST_NAME" = some (some (.int 12 tN)))
    (eG : PySem.W.nsIn K mainGlobals "MOST_FIGURES" = some (some (.int 9 tG)))
    (eX : PySem.W.nsIn K mainGlobals "MOST_TEXT" = some (some (.int 40 tX)))
    (eK : K.lookup wa = some ⟨.type "tuple", wd, .seq wvs wn, wsl⟩)
    (eV : (tokStrs PC.WDs wvs.toList && decide (wvs.size ≤ 1000)) = true)
    (xS : PySem.W.subIn K (.ref C_HallError) (.type "BaseException") = some true)
    (xD : PySem.W.hasDictIn K C_HallError = true)
    (xQ : PySem.W.subIn K (.ref C_BadRow) (.ref C_HallError) = some true)
    (xR : PySem.W.kitOne K (.ref C_BadRow) (.ref C_BadRow) = some true)
    (xV : PySem.W.kitOne K (.ref C_BadRow) (.type "ValueError") = some true)
    (xB : PySem.W.kitOne K (.ref C_BadRow) (.ref C_BadTree) = some false) :
    ∃ fd : FuncData, (∀ (s : Shared) (v : Value), BindsTo s fd ⟨[v], []⟩ [("_law_script", v)]) ∧ ∀ base : Heap, K.In base → base.Ns mainGlobals mg → FnOk l.prog w K mg base CX0 6 fa fd ["_law_script"] (spLaw K) := by
  have e := hfa.symm.trans (PySem.W.mg_of X G a25)
  cases e
  have T : TH K mg wa C_HallError C_BadRow C_BadTree := ⟨⟨⟨PySem.W.mg_none_of X G z1, PySem.W.mg_none_of X G z2, PySem.W.mg_none_of X G z3, PySem.W.mg_none_of X G z4, PySem.W.mg_none_of X G z5, PySem.W.mg_none_of X G z6, PySem.W.mg_none_of X G z7, PySem.W.mg_none_of X G z8, PySem.W.mg_none_of X G z9, PySem.W.mg_none_of X G z10, PySem.W.mg_none_of X G z11, PySem.W.mg_none_of X G z12, PySem.W.mg_none_of X G z13, ⟨_, PySem.W.mg_of X G eL, _, rfl⟩, ⟨_, PySem.W.mg_of X G eF, _, rfl⟩, ⟨_, PySem.W.mg_of X G eS, _, rfl⟩, ⟨_, PySem.W.mg_of X G eW, rfl⟩, ⟨_, PySem.W.mg_of X G eN, _, rfl⟩, ⟨_, PySem.W.mg_of X G eG, _, rfl⟩, ⟨_, PySem.W.mg_of X G eX, _, rfl⟩, fun H => sqT_toks eK eV⟩, PySem.W.mg_none_of X G z1, PySem.W.mg_none_of X G z2, PySem.W.mg_none_of X G z3, PySem.W.mg_none_of X G z4, PySem.W.mg_none_of X G z5, PySem.W.mg_none_of X G z6, PySem.W.mg_none_of X G z7, PySem.W.mg_none_of X G z8, PySem.W.mg_none_of X G z9, PySem.W.mg_none_of X G z10, PySem.W.mg_none_of X G z11, PySem.W.mg_none_of X G z12, PySem.W.mg_none_of X G z13, PySem.W.mg_none_of X G z14, ⟨.str _, _, PySem.W.mg_of X G eL, ⟨_, rfl⟩, fun _ => .str _⟩, ⟨.str _, _, PySem.W.mg_of X G eF, ⟨_, rfl⟩, fun _ => .str _⟩, ⟨.str _, _, PySem.W.mg_of X G eS, ⟨_, rfl⟩, fun _ => .str _⟩, ⟨.ref wa, _, PySem.W.mg_of X G eW, rfl, fun B => .tup (sqT_toks eK eV) (DL.rdl_strs _)⟩, ⟨.int _, _, PySem.W.mg_of X G eN, ⟨_, rfl⟩, fun _ => .int _⟩, ⟨.int _, _, PySem.W.mg_of X G eG, ⟨_, rfl⟩, fun _ => .int _⟩, ⟨.int _, _, PySem.W.mg_of X G eX, ⟨_, rfl⟩, fun _ => .int _⟩, PySem.W.mg_of X G aC_HallError, ⟨.ref C_BadRow, _, PySem.W.mg_of X G aC_BadRow, rfl, fun _ => .ref _⟩⟩, ⟨.ref C_BadTree, _, PySem.W.mg_of X G aT, rfl, fun _ => .ref _⟩⟩
  have F1 := fun_mk (st := s_BadRow___init__) l1 c1 k1
  have b1 := F1.binds (ps := ["self", "row"]) fun _ _ _ _ _ _ us hl => match us, hl with | [_, _], _ => rfl
  have F2 := fun_mk (st := s_run_end) l2 c2 k2
  have b2 := F2.binds (ps := ["row", "at"]) fun _ _ _ _ _ _ us hl => match us, hl with | [_, _], _ => rfl
  have F3 := fun_mk (st := s_number_piece) l3 c3 k3
  have b3 := F3.binds (ps := ["run"]) fun _ _ _ _ _ _ us hl => match us, hl with | [_], _ => rfl
  have F4 := fun_mk (st := s_run_piece) l4 c4 k4
  have b4 := F4.binds (ps := ["run"]) fun _ _ _ _ _ _ us hl => match us, hl with | [_], _ => rfl
  have F5 := fun_mk (st := s_piece_at) l5 c5 k5
  have b5 := F5.binds (ps := ["row", "at"]) fun _ _ _ _ _ _ us hl => match us, hl with | [_, _], _ => rfl
  have F6 := fun_mk (st := s_pieces_of) l6 c6 k6
  have b6 := F6.binds (ps := ["row"]) fun _ _ _ _ _ _ us hl => match us, hl with | [_], _ => rfl
  have F7 := fun_mk (st := s__law_mixed) l7 c7 k7
  have b7 := F7.binds (ps := ["_law_number_here", "_law_k"]) fun _ _ _ _ _ _ us hl => match us, hl with | [_, _], _ => rfl
  have F8 := fun_mk (st := s__law_tap) l8 c8 k8
  have b8 := F8.binds (ps := ["_law_cell"]) fun _ _ _ _ _ _ us hl => match us, hl with | [_], _ => rfl
  have F9 := fun_mk (st := s__law_next) l9 c9 k9
  have b9 := F9.binds (ps := ["_law_tap_here", "_law_size"]) fun _ _ _ _ _ _ us hl => match us, hl with | [_, _], _ => rfl
  have F10 := fun_mk (st := s__law_kept) l10 c10 k10
  have b10 := F10.binds (ps := []) fun _ _ _ _ _ _ us hl => match us, hl with | [], _ => rfl
  have F11 := fun_mk (st := s__law_name) l11 c11 k11
  have b11 := F11.binds (ps := ["_law_tap_here"]) fun _ _ _ _ _ _ us hl => match us, hl with | [_], _ => rfl
  have F12 := fun_mk (st := s__law_signs) l12 c12 k12
  have b12 := F12.binds (ps := []) fun _ _ _ _ _ _ us hl => match us, hl with | [], _ => rfl
  have F13 := fun_mk (st := s__law_words_text) l13 c13 k13
  have b13 := F13.binds (ps := ["_law_tap_here"]) fun _ _ _ _ _ _ us hl => match us, hl with | [_], _ => rfl
  have F14 := fun_mk (st := s__law_number) l14 c14 k14
  have b14 := F14.binds (ps := ["_law_tap_here"]) fun _ _ _ _ _ _ us hl => match us, hl with | [_], _ => rfl
  have F15 := fun_mk (st := s__law_piece) l15 c15 k15
  have b15 := F15.binds (ps := ["_law_tap_here"]) fun _ _ _ _ _ _ us hl => match us, hl with | [_], _ => rfl
  have F16 := fun_mk (st := s__law_piece_text) l16 c16 k16
  have b16 := F16.binds (ps := ["_law_piece_here"]) fun _ _ _ _ _ _ us hl => match us, hl with | [_], _ => rfl
  have F17 := fun_mk (st := s__law_fit) l17 c17 k17
  have b17 := F17.binds (ps := ["_law_pieces"]) fun _ _ _ _ _ _ us hl => match us, hl with | [_], _ => rfl
  have F18 := fun_mk (st := s__law_row) l18 c18 k18
  have b18 := F18.binds (ps := ["_law_pieces", "_law_tap_here"]) fun _ _ _ _ _ _ us hl => match us, hl with | [_, _], _ => rfl
  have F19 := fun_mk (st := s__law_same) l19 c19 k19
  have b19 := F19.binds (ps := ["_law_found", "_law_due"]) fun _ _ _ _ _ _ us hl => match us, hl with | [_, _], _ => rfl
  have F20 := fun_mk (st := s__law_cut) l20 c20 k20
  have b20 := F20.binds (ps := ["_law_row_here"]) fun _ _ _ _ _ _ us hl => match us, hl with | [_], _ => rfl
  have F21 := fun_mk (st := s__law_sorted) l21 c21 k21
  have b21 := F21.binds (ps := ["_law_one"]) fun _ _ _ _ _ _ us hl => match us, hl with | [_], _ => rfl
  have F22 := fun_mk (st := s__law_judged) l22 c22 k22
  have b22 := F22.binds (ps := ["_law_row_here"]) fun _ _ _ _ _ _ us hl => match us, hl with | [_], _ => rfl
  have F23 := fun_mk (st := s__law_spoilt) l23 c23 k23
  have b23 := F23.binds (ps := ["_law_row_here", "_law_tap_here"]) fun _ _ _ _ _ _ us hl => match us, hl with | [_, _], _ => rfl
  have F24 := fun_mk (st := s__law_told) l24 c24 k24
  have b24 := F24.binds (ps := ["_law_row_here"]) fun _ _ _ _ _ _ us hl => match us, hl with | [_], _ => rfl
  have F25 := fun_mk (st := s_law) l25 c25 k25
  refine ⟨PySem.W.fnOf "law" "law" (defArgs s_law) (defBody s_law) (defScope s_law) .none kV25 dc25 pm25 an25 cd25 ct25, fun s v => .of_eq rfl, fun base _ _ => ?_⟩
  have M_BadRow : DL.MkX l.prog w K mg base _ "BadRow" C_BadRow "row" := ⟨⟨f1, _, ["self", "row"], ⟨⟨_, _, _, _, _, _, _, _, _, _, _, _, _, _, _, xL_BadRow, rfl⟩, sa_BadRow, su_BadRow, ty_BadRow, kc_BadRow⟩, a1, ti1, ok_brinit F1 T.toTG ⟨vA_HallError, vB_HallError, vC_HallError, vD_HallError⟩, b1, PySem.W.mg_of X G aC_BadRow, nf_BadRow⟩⟩
  have G_run_end : Def l.prog w K mg base _ "run_end" ["row", "at"] _ := ⟨f2, _, tk_run_end F2 T.toTG, PySem.W.mg_of X G a2, k2, b2⟩
  have G_number_piece : Def l.prog w K mg base _ "number_piece" ["run"] _ := ⟨f3, _, tk_number F3 T.toTG, PySem.W.mg_of X G a3, k3, b3⟩
  have G_run_piece : Def l.prog w K mg base _ "run_piece" ["run"] _ := ⟨f4, _, tk_run F4 T.toTG G_number_piece, PySem.W.mg_of X G a4, k4, b4⟩
  have G_piece_at : Def l.prog w K mg base _ "piece_at" ["row", "at"] _ := ⟨f5, _, tk_pieceAt F5 T.toTG G_run_end G_run_piece, PySem.W.mg_of X G a5, k5, b5⟩
  have X_pieces_of : DL.DefX l.prog w K mg base _ "pieces_of" ["row"] _ := ⟨⟨f6, _, ok_pieces F6 T.toTG G_piece_at M_BadRow, PySem.W.mg_of X G a6, k6, b6⟩⟩
  have G__law_mixed : Def l.prog w K mg base _ "_law_mixed" ["_law_number_here", "_law_k"] _ := ⟨f7, _, ok_mixed F7, PySem.W.mg_of X G a7, k7, b7⟩
  have G_mixedA : Def l.prog w K mg base _ "_law_mixed" ["_law_number_here", "_law_k"] _ := ⟨f7, _, ok_mixedA F7, PySem.W.mg_of X G a7, k7, b7⟩
  have G__law_tap : Def l.prog w K mg base _ "_law_tap" ["_law_cell"] _ := ⟨f8, _, tap_of (ok_tap F8 T.tx), PySem.W.mg_of X G a8, k8, b8⟩
  have G__law_next : Def l.prog w K mg base _ "_law_next" ["_law_tap_here", "_law_size"] _ := ⟨f9, _, ok_draw F9 G__law_mixed, PySem.W.mg_of X G a9, k9, b9⟩
  have G__law_kept : Def l.prog w K mg base _ "_law_kept" [] _ := ⟨f10, _, ok_kept F10 T.tx, PySem.W.mg_of X G a10, k10, b10⟩
  have G__law_name : Def l.prog w K mg base _ "_law_name" ["_law_tap_here"] _ := ⟨f11, _, nameD_of (ok_name F11 T.tx G__law_next G__law_kept), PySem.W.mg_of X G a11, k11, b11⟩
  have G__law_signs : Def l.prog w K mg base _ "_law_signs" [] _ := ⟨f12, _, ok_signs F12 T.tx, PySem.W.mg_of X G a12, k12, b12⟩
  have G__law_words_text : Def l.prog w K mg base _ "_law_words_text" ["_law_tap_here"] _ := ⟨f13, _, wtext_of (ok_words_text F13 T.tx G__law_next G__law_signs), PySem.W.mg_of X G a13, k13, b13⟩
  have G__law_number : Def l.prog w K mg base _ "_law_number" ["_law_tap_here"] _ := ⟨f14, _, number_of (ok_number F14 T.tx G__law_next), PySem.W.mg_of X G a14, k14, b14⟩
  have G__law_piece : Def l.prog w K mg base _ "_law_piece" ["_law_tap_here"] _ := ⟨f15, _, ok_piece F15 T.tx (def_imp G__law_next fun _ _ => DL.draw_of) G__law_name (def_imp G__law_kept fun _ _ => kept_of) G__law_number G__law_words_text, PySem.W.mg_of X G a15, k15, b15⟩
  have G__law_piece_text : Def l.prog w K mg base _ "_law_piece_text" ["_law_piece_here"] _ := ⟨f16, _, ptext_of (ok_piece_text F16 T.tx), PySem.W.mg_of X G a16, k16, b16⟩
  have G__law_fit : Def l.prog w K mg base _ "_law_fit" ["_law_pieces"] _ := ⟨f17, _, ok_fit F17 T.tx G__law_piece_text, PySem.W.mg_of X G a17, k17, b17⟩
  have G__law_row : Def l.prog w K mg base _ "_law_row" ["_law_pieces", "_law_tap_here"] _ := ⟨f18, _, ok_row F18 T.tx (def_imp G__law_next fun _ _ => DL.draw_of) G__law_piece_text, PySem.W.mg_of X G a18, k18, b18⟩
  have G__law_same : Def l.prog w K mg base _ "_law_same" ["_law_found", "_law_due"] _ := ⟨f19, _, ok_same F19 T.tx (PySem.W.mg_of X G a19) k19 b19 4, PySem.W.mg_of X G a19, k19, b19⟩
  have G__law_cut : Def l.prog w K mg base _ "_law_cut" ["_law_row_here"] _ := ⟨f20, _, ok_cut F20 T, PySem.W.mg_of X G a20, k20, b20⟩
  have G__law_sorted : Def l.prog w K mg base _ "_law_sorted" ["_law_one"] _ := ⟨f21, _, ok_sorted F21 T (def_imp G__law_kept fun _ _ => kept_of), PySem.W.mg_of X G a21, k21, b21⟩
  have G__law_judged : Def l.prog w K mg base _ "_law_judged" ["_law_row_here"] _ := ⟨f22, _, ok_judged F22 T G__law_cut G__law_sorted, PySem.W.mg_of X G a22, k22, b22⟩
  have G__law_spoilt : Def l.prog w K mg base _ "_law_spoilt" ["_law_row_here", "_law_tap_here"] _ := ⟨f23, _, ok_spoilt F23 T (def_imp G__law_next fun _ _ => DL.draw_of), PySem.W.mg_of X G a23, k23, b23⟩
  have G__law_told : Def l.prog w K mg base _ "_law_told" ["_law_row_here"] _ := ⟨f24, _, ok_told F24 T ⟨PySem.W.exm_ref xS xD vC_HallError xQ, xR, xV, xB, ⟨cl_BadRow, ga_BadRow, gt_BadRow, su_BadRow, ha_BadRow, hn_BadRow, tk_BadRow, hm_BadRow, hd_BadRow⟩, nf_BadRow⟩ X_pieces_of, PySem.W.mg_of X G a24, k24, b24⟩
  exact law_of (ok_law F25 T G__law_tap (def_imp G__law_next fun _ _ => DL.draw_of) G_mixedA G__law_piece G__law_fit G__law_row G__law_spoilt G__law_told G__law_judged G__law_same)
theorem walk {l : PySem.W.OpenLaw} {q : Program} {loose : List Str} {XP : (Str → Option Value) → Heap → Prop} {YP : World → Heap → Prop} {d : DefRec} {K : Params → PySem.W.Frag} (hn : l.most = some 63) (hdf : d.params.defaults = [])
    (hY : ∀ (w : World) (h : Heap), YP w h → (K w.params).In h)
    (F : ∀ (w : World) (mg : Str → Option Value) (fa : Addr) (h : Heap), (K w.params).In h → h.Ns mainGlobals mg → mg d.name = some (.ref fa) →
      ∃ fd : FuncData, (∀ (s : Shared) (u : Value), BindsTo s fd ⟨[u], []⟩ [("_law_script", u)]) ∧ ∀ base : Heap, (K w.params).In base → base.Ns mainGlobals mg → FnOk l.prog w (K w.params) mg base CX0 6 fa fd ["_law_script"] (spLaw (K w.params))) :
    PySem.W.WalkO q loose XP YP l.row.toRowW d [] (fun f vs => PySem.call f vs) :=
  L2.walk_of (n := 63) (k := 6) (x := "_law_script") (CX := fun _ => CX0) (sp := fun w => spLaw (K w.params)) hn (by decide) hdf ⟨rfl, by decide, by decide⟩ hY F (fun _ _ a ns hl _ hS => ⟨a, ns, rfl, hS, hl, fun _ => rfl⟩) fun _ _ _ _ _ z => z
end
end K
open PySem PySem.W PyProof.Rows
set_option maxRecDepth 100000 in
set_option maxHeartbeats 0 in
theorem PySem.Challenge.cw_snakehall_k02_rows_of_no_pieces_holds : PySem.Challenge.rw_snakehall_k02_rows_of_no_pieces.Holds := by
  w_on; o_law; k_head; (case hw => w_witness2)
  k_fill
  refine K.walk (l := PySem.Challenge.rw_snakehall_k02_rows_of_no_pieces) rfl rfl (fun w h Y => PySem.W.kIn_of Y) ?F
  case F =>
    intro w mg fa h KX G hmg
    refine' K.all_mk KX G hmg ?aC_HallError ?vA_HallError ?vB_HallError ?vC_HallError ?vD_HallError ?aC_BadRow ?xL_BadRow ?sa_BadRow ?su_BadRow ?ty_BadRow ?kc_BadRow ?nf_BadRow ?cl_BadRow ?ga_BadRow ?gt_BadRow ?ha_BadRow ?hn_BadRow ?tk_BadRow ?hm_BadRow ?hd_BadRow ?a1 ?i1 ?l1 ?c1 ?k1 ?a2 ?l2 ?c2 ?k2 ?a3 ?l3 ?c3 ?k3 ?a4 ?l4 ?c4 ?k4 ?a5 ?l5 ?c5 ?k5 ?a6 ?l6 ?c6 ?k6 ?a7 ?l7 ?c7 ?k7 ?a8 ?l8 ?c8 ?k8 ?a9 ?l9 ?c9 ?k9 ?a10 ?l10 ?c10 ?k10 ?a11 ?l11 ?c11 ?k11 ?a12 ?l12 ?c12 ?k12 ?a13 ?l13 ?c13 ?k13 ?a14 ?l14 ?c14 ?k14 ?a15 ?l15 ?c15 ?k15 ?a16 ?l16 ?c16 ?k16 ?a17 ?l17 ?c17 ?k17 ?a18 ?l18 ?c18 ?k18 ?a19 ?l19 ?c19 ?k19 ?a20 ?l20 ?c20 ?k20 ?a21 ?l21 ?c21 ?k21 ?a22 ?l22 ?c22 ?k22 ?a23 ?l23 ?c23 ?k23 ?a24 ?l24 ?c24 ?k24 ?a25 ?l25 ?c25 ?k25 ?ti1 ?z1 ?z2 ?z3 ?z4 ?z5 ?z6 ?z7 ?z8 ?z9 ?z10 ?z11 ?z12 ?z13 ?z14 ?aT ?eL ?eF ?eS ?eW ?eN ?eG ?eX ?eK ?eV ?xS ?xD ?xQ ?xR ?xV ?xB
    (case aC_HallError => k_is)
    (case vA_HallError => k_is)
    (case vB_HallError => k_is)
    (case vC_HallError => k_is)
    (case vD_HallError => k_is)
    (case aC_BadRow => k_is)
    (case xL_BadRow => k_is)
    (case sa_BadRow => k_is)
    (case su_BadRow => k_is)
    (case ty_BadRow => k_is)
    (case kc_BadRow => k_is)
    (case nf_BadRow => k_is)
    (case cl_BadRow => k_is)
    (case ga_BadRow => k_is)
    (case gt_BadRow => k_is)
    (case ha_BadRow => k_is)
    (case hn_BadRow => k_is)
    (case tk_BadRow => k_is)
    (case hm_BadRow => k_is)
    (case hd_BadRow => k_is)
    (case a1 => k_is)
    (case i1 => k_is)
    (case l1 => k_is)
    (case c1 => k_is)
    (case k1 => k_is)
    (case a2 => k_is)
    (case l2 => k_is)
    (case c2 => k_is)
    (case k2 => k_is)
    (case a3 => k_is)
    (case l3 => k_is)
    (case c3 => k_is)
    (case k3 => k_is)
    (case a4 => k_is)
    (case l4 => k_is)
    (case c4 => k_is)
    (case k4 => k_is)
    (case a5 => k_is)
    (case l5 => k_is)
    (case c5 => k_is)
    (case k5 => k_is)
    (case a6 => k_is)
    (case l6 => k_is)
    (case c6 => k_is)
    (case k6 => k_is)
    (case a7 => k_is)
    (case l7 => k_is)
    (case c7 => k_is)
    (case k7 => k_is)
    (case a8 => k_is)
    (case l8 => k_is)
    (case c8 => k_is)
    (case k8 => k_is)
    (case a9 => k_is)
    (case l9 => k_is)
    (case c9 => k_is)
    (case k9 => k_is)
    (case a10 => k_is)
    (case l10 => k_is)
    (case c10 => k_is)
    (case k10 => k_is)
    (case a11 => k_is)
    (case l11 => k_is)
    (case c11 => k_is)
    (case k11 => k_is)
    (case a12 => k_is)
    (case l12 => k_is)
    (case c12 => k_is)
    (case k12 => k_is)
    (case a13 => k_is)
    (case l13 => k_is)
    (case c13 => k_is)
    (case k13 => k_is)
    (case a14 => k_is)
    (case l14 => k_is)
    (case c14 => k_is)
    (case k14 => k_is)
    (case a15 => k_is)
    (case l15 => k_is)
    (case c15 => k_is)
    (case k15 => k_is)
    (case a16 => k_is)
    (case l16 => k_is)
    (case c16 => k_is)
    (case k16 => k_is)
    (case a17 => k_is)
    (case l17 => k_is)
    (case c17 => k_is)
    (case k17 => k_is)
    (case a18 => k_is)
    (case l18 => k_is)
    (case c18 => k_is)
    (case k18 => k_is)
    (case a19 => k_is)
    (case l19 => k_is)
    (case c19 => k_is)
    (case k19 => k_is)
    (case a20 => k_is)
    (case l20 => k_is)
    (case c20 => k_is)
    (case k20 => k_is)
    (case a21 => k_is)
    (case l21 => k_is)
    (case c21 => k_is)
    (case k21 => k_is)
    (case a22 => k_is)
    (case l22 => k_is)
    (case c22 => k_is)
    (case k22 => k_is)
    (case a23 => k_is)
    (case l23 => k_is)
    (case c23 => k_is)
    (case k23 => k_is)
    (case a24 => k_is)
    (case l24 => k_is)
    (case c24 => k_is)
    (case k24 => k_is)
    (case a25 => k_is)
    (case l25 => k_is)
    (case c25 => k_is)
    (case k25 => k_is)
    (case ti1 => k_is)
    (case z1 => k_is)
    (case z2 => k_is)
    (case z3 => k_is)
    (case z4 => k_is)
    (case z5 => k_is)
    (case z6 => k_is)
    (case z7 => k_is)
    (case z8 => k_is)
    (case z9 => k_is)
    (case z10 => k_is)
    (case z11 => k_is)
    (case z12 => k_is)
    (case z13 => k_is)
    (case z14 => k_is)
    (case aT => k_is)
    (case eL => k_is)
    (case eF => k_is)
    (case eS => k_is)
    (case eW => k_is)
    (case eN => k_is)
    (case eG => k_is)
    (case eX => k_is)
    (case eK => k_is)
    (case eV => decide +kernel)
    (case xS => k_is)
    (case xD => k_is)
    (case xQ => k_is)
    (case xR => kit_is)
    (case xV => kit_is)
    (case xB => kit_is)
