import PyProof.Rows.All
import Wide.All
import OpenK.AllK
import Wide.FinOn
import HandS.ForMost
import HandS.Strs
import HandS.Evl
import HandS.Deep
import HandS.More
import HandS.Rev
import HandS.IsInst
import HandS.StrMore
import HandS.SortInts
import HandS.RaiseMore
import HandS.SetFor
import HandS.ExcInit
import HandS.TryOnly
import HandS.WordsExc
import KE.KExcIs
import KE.KDictPairs
import HandS.DictComp
import HandS.Conv
import HandS.DeepEq
import PyProof.NeKinds
import PySem.Challenge.RW_snakehall_k28_reached
set_option linter.all false
namespace EM
section
variable {α : Type} [DecidableEq α]

/-- t stands in no list behind its first place -/
def free (ls : List (List α)) (t : α) : Bool := !(ls.any fun o => decide (t ∈ o.tail))
def heads (ls : List (List α)) : List α := ls.filterMap List.head?
def nextT (ls : List (List α)) : Option α := (heads ls).find? (free ls)
def dropH (t : α) (l : List α) : List α := if l.head? = some t then l.tail else l
def live (ls : List (List α)) : List (List α) := ls.filter fun l => !l.isEmpty
def tot (ls : List (List α)) : Nat := (ls.map List.length).sum
def mrg : Nat → List (List α) → Option (List α)
  | 0, _ => some []
  | n + 1, ls => if live ls = [] then some [] else match nextT ls with
    | none => none
    | some t => (mrg n (ls.map (dropH t))).map (t :: ·)
def merge (ls : List (List α)) : Option (List α) := mrg (tot ls) ls

/-! ### lists that are empty count for nothing -/
/-! ### what a merge has -/
/-! ### orders -/
def orderBy (t : α) (es : List α) (f : α → Option (List α)) : Option (List α) :=
  if es.Nodup then (es.mapM f).bind fun ls => (merge (ls ++ [es])).map (t :: ·) else none

def ord (E : α → List α) : Nat → α → Option (List α)
  | 0, _ => none
  | n + 1, t => orderBy t (E t) (ord E n)
/-- the order of a title, by a rank that falls to elders -/
def O (E : α → List α) (r : α → Nat) (t : α) : Option (List α) := ord E (r t + 1) t
theorem nodup_len {U : List α} : ∀ {l : List α}, l.Nodup → (∀ a ∈ l, a ∈ U) → l.length ≤ U.length := by
  induction U with
  | nil =>
    intro l _ h
    cases l with
    | nil => exact Nat.le_refl _
    | cons a r => exact nomatch h a List.mem_cons_self
  | cons u U ih =>
    intro l nd h
    by_cases hu : u ∈ l
    · have h1 : (l.erase u).length + 1 = l.length := by
        have := List.length_erase_of_mem hu
        have hp : 0 < l.length := List.length_pos_of_mem hu
        omega
      have h2 := ih (l := l.erase u) (nd.erase u) fun a ha => by
        have ha' : a ∈ l ∧ a ≠ u := by
          rw [nd.mem_erase_iff] at ha
          exact ⟨ha.2, ha.1⟩
        rcases List.mem_cons.mp (h a ha'.1) with e | e
        · exact absurd e ha'.2
        · exact e
      rw [List.length_cons]
      omega
    · have h2 := ih nd fun a ha => by
        rcases List.mem_cons.mp (h a ha) with e | e
        · subst e; exact absurd ha hu
        · exact e
      rw [List.length_cons]
      omega
/-! ### the stack of order_of -/
def lack (E : α → List α) (ks : List α) (t : α) : List α := (E t).filter fun e => !decide (e ∈ ks)
def addK (ks : List α) (t : α) : List α := if t ∈ ks then ks else ks ++ [t]
/-- m steps from here on the stack (its top at the end) is empty; B: its height's bound; ks: what is known; P: what holds then -/
inductive Runs (E : α → List α) (B : Nat) (P : List α → Prop) : Nat → List α → List α → Prop
  | done {ks} (h : P ks) : Runs E B P 0 [] ks
  | push {m w t ks} (hb : (w ++ [t]).length ≤ B) (hl : lack E ks t ≠ []) (h : Runs E B P m (w ++ [t] ++ lack E ks t) ks) : Runs E B P (m + 1) (w ++ [t]) ks
  | pop {m w t ks} (hb : (w ++ [t]).length ≤ B) (hl : lack E ks t = []) (h : Runs E B P m w (addK ks t)) : Runs E B P (m + 1) (w ++ [t]) ks
end
end EM

set_option Elab.async false
set_option linter.all false
set_option maxRecDepth 100000
/-! len(set(xs)), xs a list of texts, any of them alike -/
namespace ST
open PySem PySem.Spec PyProof.Rows
section
variable {κ : Type} [DecidableEq κ]
/-- how many unlike ones are among the first i -/
def cnt (ks : List κ) : Nat → Nat
  | 0 => 0
  | i + 1 => match ks[i]? with
    | none => cnt ks i
    | some k => if k ∈ ks.take i then cnt ks i else cnt ks i + 1
end
section
variable {prog : Program} {w : World} {A : Around} {R : Result → Shared → Prop} {I S : Addr} {fp wr : List Addr} {G : Array GenState → Array GenState → Prop} {n : Nat} {P : Nat → Value → Prop} {St : Nat → Shared → Prop}
  {κ : Type} [DecidableEq κ] {knd : PySem.KeyKind prog w κ}
end
section
variable {prog : Program} {w : World} {A : Around} {E : Value → Shared → Prop} {s : Shared}
/-- T(..) by its new and its init, the init's own look given -/
theorem made_by {T nw ini : String} {Bi : Builtin} {vs : List Value} {Q Q1 : Value → Shared → Prop} (tc : TypeCalled T nw ini) (look : checkTypeCall T ⟨vs, []⟩ = pure ()) (en : entryFor table ini = some Bi)
    (new : codeAny (model prog w) A.in1 (.call (.builtin nw) ⟨.type T :: vs, []⟩) (wants Q1 E) s)
    (then_ : ∀ x s1, Q1 x s1 → s1.TypeIs x T ∧
      wpAny (model prog w) A.in1.in1 (checkBuiltinCall ini ⟨x :: vs, []⟩) (fun _ s1' => wpAny (model prog w) A.in1.in1 (Bi ⟨x :: vs, []⟩)
        (fun fin s' => match fin with | .done f => wants (fun r s2 => r = .none ∧ Q x s2) E (.ok f) s' | .again c => c.quiet = true ∧ codeAny (model prog w) A.in1 c (wants (fun r s2 => r = .none ∧ Q x s2) E) s')
        (fun e s' => wants (fun r s2 => r = .none ∧ Q x s2) E (.error e) s') s1') (fun e s' => wants (fun r s2 => r = .none ∧ Q x s2) E (.error e) s') s1) :
    wpAny (model prog w) A (call (.type T) vs) Q E s := by
  have a1 := tc.made
  have a2 := tc.sub
  have a3 := tc.notType
  have a4 := tc.canCreate
  obtain ⟨_, _, a5⟩ := tc.mro
  refine wpAny_call (codeAny_of_tree (show wpAny _ _ (callAny (.type T) _) _ _ _ from wpAny_pure ⟨Code.quiet_builtin _ (by decide +kernel), codeAny_builtin PySem.F.entry_type_call ?_⟩))
  rw [Around.under_plain (weight_type_call_type T vs []) rfl]
  repeat (any_goals (first | assumption | wp_step))
  refine codeAny_mono new fun r s1 hr => ?_
  match r, hr with
  | .error e, hr => exact hr
  | .ok (.ret x), hr =>
    obtain ⟨hT, hi⟩ := then_ x s1 hr
    have b1 := tc.init.lookup
    have b2 := tc.init.bind x
    repeat (any_goals (first | assumption | wp_step))
    refine codeAny_mono (codeAny_call_builtin tc.init.plain en hi) fun r2 s2 hr2 => ?_
    match r2, hr2 with
    | .error e, hr2 => exact hr2
    | .ok (.ret y), hr2 =>
      obtain ⟨rfl, q⟩ := hr2
      repeat (any_goals (first | assumption | wp_step))
theorem isList_at {h h' : Heap} {l : Addr} {items : Array Value} (x : h.IsList l items) (k : ∀ o, h.get? l = some o → h'.get? l = some o) : h'.IsList l items :=
  let ⟨o, e, r⟩ := x
  ⟨o, k o e, r⟩
end
end ST
namespace L2
open PySem PySem.Spec PyProof.Rows
end L2

set_option Elab.async false
set_option linter.all false
set_option maxRecDepth 100000
namespace EX
open PySem L2 Evl

/-! ### a def with its promise, ready to be called -/
structure Def (P : Program) (w : World) (K : PySem.W.Frag) (mg : Str → Option Value) (base : Heap) (k : Nat) (x : Str) (ps : List Str) (sp : Sp) : Prop where
  ex : ∃ (f : Addr) (fd : FuncData), FnOk P w K mg base CX0 k f fd ps sp ∧ mg x = some (.ref f) ∧ PySem.W.keepIn K (.ref f) = true ∧ Binds K fd ps []
theorem pe_def {X : Cx} {k : Nat} {x : Str} {ps : List Str} {sp : Sp} {p pos : Pos} {e : Expr} {es : List Expr} {t : TA} (h : Def X.prog X.w X.K X.mg X.base k x ps sp) (hr : Room k X.A) (hg : Gl X x) (ha : PA X (e :: es) t)
    (hdb : (x == ("__debug__" : Str)) = false := by decide) (he : starEach (e :: es) X.env = (false, eval e X.env) :: starEach es X.env := by rfl) (hpl : (backTo pos (starEach es X.env)).any (·.1) = false := by rfl) :
    PE X (.Call (.Name x p) (e :: es) [] pos) (tCall sp [] E0 t) := by
  obtain ⟨f, fd, F, m, kp, b⟩ := h.ex
  exact pe_call F hr hg m kp b .nil pass0 ha hdb he hpl
/-! ### rules with the written part named -/
section
variable {X : Cx} {K : PySem.W.Frag}
theorem slL (h : X.K = K := by rfl) : SlR X (rSlL K) := h ▸ sl_list
theorem opNin (h : X.K = K := by rfl) : OpR X (compareOp .NotIn) (rIn K true) := h ▸ op_notIn_seq
theorem clList (h : X.K = K := by rfl) : CallR X (.type "list") (rListS K) := h ▸ call_list_of
theorem piL {tg l : Expr} {tl : TE} (hl : PE X l tl) (h : X.K = K := by rfl) : PI X tg l (iList K tl) := h ▸ pi_list hl
theorem peBm {o e : Expr} {es : List Expr} {to : TE} {t : TA} {name : Str} {apos cpos : Pos} {T id : String} {r : V → List V → Hp → VK → Prop} (pa : PlainAttrs T) (slot : Slot T name id) (hty : typeOf (.builtin id) = pure (.type "method_descriptor")) (hm : MtR X id r) (ho : PE X o to) (ha : PA X (e :: es) t)
    (hbase : attributeBase o name X.env (eval o X.env) = eval o X.env := by rfl)
    (hfew : ((backTo cpos (starEach (e :: es) X.env)).all (fun x => !x.1) && (backToKw cpos (keywordEach [] X.env)).all (fun x => x.1.isSome)
      && decide ((e :: es).length + ([] : List Keyword).length + (if ([] : List Keyword).isEmpty then 0 else 1) < 30)) = true := by rfl)
    (hline : (apos.endLine == cpos.line) = true := by rfl) (hs : starEach (e :: es) X.env = (false, eval e X.env) :: starEach es X.env := by rfl) (hplain : (backTo cpos (starEach es X.env)).any (·.1) = false := by rfl) (h : X.K = K := by rfl) :
    PE X (.Call (.Attribute o name apos) (e :: es) [] cpos) (tBM K T r to t) := h ▸ pe_bm pa slot hty hm ho ha hbase hfew hline hs hplain
end
section
variable {X : Cx} {K : PySem.W.Frag}
end
/-! ### texts among values -/
/-! ### readings that evaluate -/
section
variable {K : PySem.W.Frag} {σ : L2.St} {H H' : Hp} {ta tb te : TE}
end
section
variable {K : PySem.W.Frag} {σ : L2.St} {H H' : Hp} {ta tb te : TE} {D : Ends} {x : V}
end
/-- lists of texts at the addresses that a list holds -/
def Rows (K : PySem.W.Frag) (H : Hp) (ps : List V) (ls : List (List Str)) : Prop :=
  ps.length = ls.length ∧ ∀ (i : Nat) (l : List Str), ls[i]? = some l → ∃ p, ps[i]? = some (.ref p) ∧ SqL K H p (l.map V.str)
theorem Rows.mono {K : PySem.W.Frag} {H H' : Hp} {ps : List V} {ls : List (List Str)} (r : Rows K H ps ls) (e : Ex H H') : Rows K H' ps ls :=
  ⟨r.1, fun i l h => let ⟨p, h1, h2⟩ := r.2 i l h; ⟨p, h1, ex_l e h2⟩⟩
theorem Rows.at {K : PySem.W.Frag} {H : Hp} {ps : List V} {ls : List (List Str)} (r : Rows K H ps ls) {i : Nat} {x : V} (h : ps[i]? = some x) : ∃ p l, x = .ref p ∧ ls[i]? = some l ∧ SqL K H p (l.map V.str) := by
  have hi : i < ls.length := by rw [← r.1]; exact (List.getElem?_eq_some_iff.mp h).1
  obtain ⟨p, h1, h2⟩ := r.2 i ls[i] (List.getElem?_eq_getElem hi)
  rw [h] at h1
  exact ⟨p, ls[i], Option.some.inj h1, List.getElem?_eq_getElem hi, h2⟩
/-! ### more of comprehensions -/
/-- lists at addresses -/
def LAt (H : Hp) (qs : List Addr) (ls : List (List V)) : Prop := qs.length = ls.length ∧ ∀ (i : Nat) (l : List V), ls[i]? = some l → ∃ q, qs[i]? = some q ∧ H q = some (.lst l)
theorem LAt.mono {H H' : Hp} {qs : List Addr} {ls : List (List V)} (r : LAt H qs ls) (e : ∀ q ∈ qs, ∀ o, H q = some o → H' q = some o) : LAt H' qs ls :=
  ⟨r.1, fun i l h => let ⟨q, h1, h2⟩ := r.2 i l h; ⟨q, h1, e q (List.mem_of_getElem? h1) _ h2⟩⟩
theorem LAt.all {H : Hp} {qs : List Addr} {ls : List (List V)} (r : LAt H qs ls) {q : Addr} (h : q ∈ qs) : ∃ l, H q = some (.lst l) := by
  obtain ⟨i, hi, e⟩ := List.getElem_of_mem h
  have hl : i < ls.length := by rw [← r.1]; exact hi
  obtain ⟨q', h1, h2⟩ := r.2 i ls[i] (List.getElem?_eq_getElem hl)
  rw [List.getElem?_eq_getElem hi, e] at h1
  cases h1
  exact ⟨_, h2⟩
theorem LAt.snoc {H : Hp} {qs : List Addr} {ls : List (List V)} {p : Addr} {l : List V} (r : LAt H qs ls) (h : H p = some (.lst l)) : LAt H (qs ++ [p]) (ls ++ [l]) := by
  refine ⟨by simp [r.1], fun i x hx => ?_⟩
  by_cases hi : i < ls.length
  · rw [List.getElem?_append_left hi] at hx
    obtain ⟨q, h1, h2⟩ := r.2 i x hx
    exact ⟨q, by rw [List.getElem?_append_left (by rw [r.1]; exact hi)]; exact h1, h2⟩
  · rw [List.getElem?_append_right (by omega)] at hx
    have h0 : i - ls.length = 0 := by
      cases hz : i - ls.length with
      | zero => rfl
      | succ n => rw [hz] at hx; simp at hx
    rw [h0] at hx
    simp at hx
    subst hx
    refine ⟨p, ?_, h⟩
    rw [List.getElem?_append_right (by rw [r.1]; omega), r.1, h0]
    rfl
/-- new lists, all apart, in a new list -/
structure NewL (H H' : Hp) (D : Addr) (qs : List Addr) (ls : List (List V)) : Prop where
  nD : H D = none
  ex : Ex H H'
  at_ : H' D = some (.lst (qs.map V.ref))
  out : D ∉ qs
  nd : qs.Nodup
  new : ∀ q ∈ qs, H q = none
  rows : LAt H' qs ls
section
variable {K : PySem.W.Frag} {σ : L2.St} {H : Hp} {te tl : TE} {t : TT}
end
/-! ### data: lists of texts, or none -/
def dS (l : List Str) : PyData := .list (l.map .str)
def dO : Option (List Str) → PyData
  | none => .none
  | some l => dS l
section
variable {K : PySem.W.Frag} {H : Hp}
/-- a value that is none or a list of texts -/
def ValO (K : PySem.W.Frag) (H : Hp) (v : V) (r : Option (List Str)) : Prop := match r with
  | none => v = .non
  | some l => ∃ p, v = .ref p ∧ SqL K H p (l.map V.str)
theorem ValO.mono {H' : Hp} {v : V} {r : Option (List Str)} (h : ValO K H v r) (e : Ex H H') : ValO K H' v r := by
  cases r with
  | none => exact h
  | some l =>
    obtain ⟨p, a, b⟩ := h
    exact ⟨p, a, ex_l e b⟩
end
/-! ### dicts, lists: what evaluates -/
section
variable {K : PySem.W.Frag} {σ : L2.St} {H : Hp} {ta tb te td ty : TE} {D : Ends} {tz : TS} {x v : V}
end
/-! ### some value of which P holds -/
section
variable {σ : L2.St} {H : Hp} {ta tb te : TE} {P P1 P2 : V → Prop} {v : V} {r : R2} {D : Ends} {tz : TS}
end
/-! ### one object left out -/
/-- the heap without what stands at a -/
def hide (a : Addr) (H : Hp) : Hp := fun b => if b = a then none else H b
theorem hide_ne {a b : Addr} {H : Hp} (h : b ≠ a) : hide a H b = H b := by unfold hide; rw [if_neg h]
theorem hide_get {a b : Addr} {H : Hp} {o : HO} (h : H b = some o) (n : b ≠ a) : hide a H b = some o := by rw [hide_ne n]; exact h
/-- back to a heap that does not know a -/
theorem ex_hide {a : Addr} {B H : Hp} (e : Ex B H) (n : B a = none) : Ex B (hide a H) := fun b o h => by
  rw [hide_ne (ne_of_none h n)]
  exact e b o h
/-! ### rows read: a value and the texts of the list there -/
abbrev VR := V × List Str
def RowsP (K : PySem.W.Frag) (H : Hp) (rs : List VR) : Prop := ∀ r ∈ rs, ∃ p, r.1 = .ref p ∧ SqL K H p (r.2.map V.str)
theorem RowsP.mono {K : PySem.W.Frag} {H H' : Hp} {rs : List VR} (h : RowsP K H rs) (e : Ex H H') : RowsP K H' rs := fun r hr => let ⟨p, a, b⟩ := h r hr; ⟨p, a, ex_l e b⟩
section
variable {K : PySem.W.Frag} {σ : L2.St} {H : Hp} {ta tb te : TE} {x y : V}
end
section
variable {σ : L2.St} {H : Hp} {ta tb te : TE} {r : R2} {D : Ends} {tz : TS} {Q : VK}
end
end EX

set_option Elab.async false
set_option linter.all false
set_option maxRecDepth 100000
/-! draws: a tap (a list of four ints at tp) that each draw changes; a draw is any number in its range -/
namespace EX
open PySem L2 Evl
def Tap (H : Hp) (tp : Addr) : Prop := ∃ a b c d : Int, H tp = some (.lst [.int a, .int b, .int c, .int d])
theorem Tap.mono {H H' : Hp} {tp : Addr} (t : Tap H tp) (e : Ex H H') : Tap H' tp := let ⟨a, b, c, d, h⟩ := t; ⟨a, b, c, d, e _ _ h⟩
/-- te evaluates, drawing, to some value of which P holds; what B knows stays -/
def Dr (tp : Addr) (te : TE) (σ : L2.St) (B : Hp) (P : V → Prop) : Prop := ∀ H1, Ex B H1 → Tap H1 tp → ∀ Q : VK, (∀ v H2, Ex B H2 → Tap H2 tp → P v → Q v H2) → te σ H1 Q
section
variable {tp : Addr} {σ : L2.St} {B H : Hp} {ta tb te : TE} {t u : TT} {P P1 P2 : V → Prop} {v : V} {r : R2} {D : Ends} {tu tw tz : TS}
theorem Dr.imp (h : Dr tp te σ B P) (k : ∀ v, P v → P1 v) : Dr tp te σ B P1 := fun H1 e t Q q => h H1 e t Q fun v H2 e2 t2 p => q v H2 e2 t2 (k v p)
/-! ### statements -/
end
end EX

set_option Elab.async false
set_option linter.all false
set_option maxRecDepth 100000
namespace EX
open PySem L2 Evl
section
variable {tp : Addr} {σ : L2.St} {B H : Hp} {ta tb te : TE} {t u : TT} {P P1 P2 : V → Prop} {v : V} {r : R2} {D : Ends} {tu tw tz : TS} {K : PySem.W.Frag}
theorem ixAt {xs : List V} {p : Addr} {i : Int} {j : Nat} {x : V} (h : H p = some (.lst xs)) (hi : i = (j : Int)) (hx : xs[j]? = some x) : RV (rIxL K) (.ref p) (.int i) H x := rv_ixL (sq_of h) (at_of hi hx)
end
end EX

set_option Elab.async false
set_option linter.all false
set_option maxRecDepth 100000
namespace EX
open PySem L2 Evl
section
variable {tp : Addr} {σ : L2.St} {B H : Hp} {ta tb te : TE} {t u : TT} {P P1 P2 : V → Prop} {v : V} {r : R2} {D : Ends} {tu tw tz : TS} {K : PySem.W.Frag} {sp : Sp} {vs : List V} {E : XK} {tA : TA}
end
end EX

set_option Elab.async false
set_option linter.all false
set_option maxRecDepth 100000
set_option maxHeartbeats 1000000
/-! list(reversed(xs)), xs a list -/
namespace LR
open PySem PySem.Spec PyProof.Rows
section
variable {prog : Program} {w : World} {A : Around} {E : Value → Shared → Prop} {s : Shared}
end
end LR
namespace L2
open PySem PySem.Spec PyProof.Rows
end L2

set_option Elab.async false
set_option linter.all false
set_option maxRecDepth 100000
/-! what the laws on elders share beyond EX and DR -/
namespace EX
open PySem L2 Evl
section
variable {σ : L2.St} {H : Hp} {ta tb te : TE}
end
end EX

set_option Elab.async false
set_option linter.all false
set_option maxRecDepth 100000
/-! the data layer: values as data (what never changes again), a small store of what changes; readings over these alone -/
namespace DL
open PySem L2 Evl EX
inductive D where
  | non | bl (b : Bool) | int (i : Int) | str (x : Str) | list (ds : List D) | tup (ds : List D) | ref (a : Addr) | ty (n : String) | scr (ds : List D)
mutual
/-- a value that reads as data, by what stands fast -/
inductive RdD (K : PySem.W.Frag) (B : Hp) : V → D → Prop
  | non : RdD K B .non .non
  | bl (b : Bool) : RdD K B (.bl b) (.bl b)
  | int (i : Int) : RdD K B (.int i) (.int i)
  | str (x : Str) : RdD K B (.str x) (.str x)
  | ty (n : String) : RdD K B (.ty n) (.ty n)
  | ref (a : Addr) : RdD K B (.ref a) (.ref a)
  | lst {a : Addr} {xs : List V} {ds : List D} : B a = some (.lst xs) → RdL K B xs ds → RdD K B (.ref a) (.list ds)
  | tup {a : Addr} {xs : List V} {ds : List D} : SqT K B a xs → RdL K B xs ds → RdD K B (.ref a) (.tup ds)
  | scr {a : Addr} {xs : List V} {ds : List D} : SqL K B a xs → RdL K B xs ds → RdD K B (.ref a) (.scr ds)
inductive RdL (K : PySem.W.Frag) (B : Hp) : List V → List D → Prop
  | nil : RdL K B [] []
  | cons {v : V} {vs : List V} {d : D} {ds : List D} : RdD K B v d → RdL K B vs ds → RdL K B (v :: vs) (d :: ds)
end
mutual
theorem RdD.mono {K : PySem.W.Frag} {B B' : Hp} (e : Ex B B') : ∀ {v : V} {d : D}, RdD K B v d → RdD K B' v d
  | _, _, .non => .non
  | _, _, .bl b => .bl b
  | _, _, .int i => .int i
  | _, _, .str x => .str x
  | _, _, .ty n => .ty n
  | _, _, .ref a => .ref a
  | _, _, .lst h r => .lst (e _ _ h) (RdL.mono e r)
  | _, _, .tup h r => .tup (ex_t e h) (RdL.mono e r)
  | _, _, .scr h r => .scr (ex_l e h) (RdL.mono e r)
theorem RdL.mono {K : PySem.W.Frag} {B B' : Hp} (e : Ex B B') : ∀ {vs : List V} {ds : List D}, RdL K B vs ds → RdL K B' vs ds
  | _, _, .nil => .nil
  | _, _, .cons h r => .cons (RdD.mono e h) (RdL.mono e r)
end
section
variable {K : PySem.W.Frag} {B : Hp}
theorem RdL.length : ∀ {vs : List V} {ds : List D}, RdL K B vs ds → vs.length = ds.length
  | _, _, .nil => rfl
  | _, _, .cons _ r => by rw [List.length_cons, List.length_cons, r.length]
theorem RdL.get : ∀ {vs : List V} {ds : List D} {i : Nat} {d : D}, RdL K B vs ds → ds[i]? = some d → ∃ v, vs[i]? = some v ∧ RdD K B v d
  | _, _, _, _, .nil, h => by simp at h
  | _, _, 0, _, .cons h _, e => by simp at e; subst e; exact ⟨_, rfl, h⟩
  | _, _, i + 1, _, .cons _ r, e => by
    obtain ⟨v, a, b⟩ := r.get (i := i) (by simpa using e)
    exact ⟨v, by simpa using a, b⟩
theorem RdL.getV : ∀ {vs : List V} {ds : List D} {i : Nat} {v : V}, RdL K B vs ds → vs[i]? = some v → ∃ d, ds[i]? = some d ∧ RdD K B v d
  | _, _, _, _, .nil, h => by simp at h
  | _, _, 0, _, .cons h _, e => by simp at e; subst e; exact ⟨_, rfl, h⟩
  | _, _, i + 1, _, .cons _ r, e => by
    obtain ⟨v, a, b⟩ := r.getV (i := i) (by simpa using e)
    exact ⟨v, by simpa using a, b⟩
theorem RdL.append : ∀ {vs ws : List V} {ds es : List D}, RdL K B vs ds → RdL K B ws es → RdL K B (vs ++ ws) (ds ++ es)
  | _, _, _, _, .nil, s => s
  | _, _, _, _, .cons h r, s => .cons h (r.append s)
theorem RdL.take : ∀ {vs : List V} {ds : List D} (n : Nat), RdL K B vs ds → RdL K B (vs.take n) (ds.take n)
  | _, _, 0, _ => .nil
  | _, _, _ + 1, .nil => .nil
  | _, _, n + 1, .cons h r => .cons h (r.take n)
theorem RdL.drop : ∀ {vs : List V} {ds : List D} (n : Nat), RdL K B vs ds → RdL K B (vs.drop n) (ds.drop n)
  | _, _, 0, r => r
  | _, _, _ + 1, .nil => .nil
  | _, _, n + 1, .cons _ r => r.drop n
theorem RdL.set {v : V} {d : D} (h : RdD K B v d) : ∀ {vs : List V} {ds : List D} (n : Nat), RdL K B vs ds → RdL K B (vs.set n v) (ds.set n d)
  | _, _, _, .nil => .nil
  | _, _, 0, .cons _ r => .cons h r
  | _, _, n + 1, .cons q r => .cons q (r.set h n)
theorem RdL.one {v : V} {d : D} (h : RdD K B v d) : RdL K B [v] [d] := .cons h .nil
theorem rd_int {v : V} {i : Int} (h : RdD K B v (.int i)) : v = .int i := by cases h; rfl
theorem rd_bl {v : V} {b : Bool} (h : RdD K B v (.bl b)) : v = .bl b := by cases h; rfl
theorem rd_str {v : V} {x : Str} (h : RdD K B v (.str x)) : v = .str x := by cases h; rfl
theorem rd_non {v : V} (h : RdD K B v .non) : v = .non := by cases h; rfl
theorem rd_ref {v : V} {a : Addr} (h : RdD K B v (.ref a)) : v = .ref a := by cases h; rfl
theorem rd_list {v : V} {ds : List D} (h : RdD K B v (.list ds)) : ∃ a xs, v = .ref a ∧ B a = some (.lst xs) ∧ RdL K B xs ds := by
  cases h with
  | lst h r => exact ⟨_, _, rfl, h, r⟩
theorem rd_tup {v : V} {ds : List D} (h : RdD K B v (.tup ds)) : ∃ a xs, v = .ref a ∧ SqT K B a xs ∧ RdL K B xs ds := by
  cases h with
  | tup h r => exact ⟨_, _, rfl, h, r⟩
theorem rd_scr {v : V} {ds : List D} (h : RdD K B v (.scr ds)) : ∃ a xs, v = .ref a ∧ SqL K B a xs ∧ RdL K B xs ds := by
  cases h with
  | scr h r => exact ⟨_, _, rfl, h, r⟩
theorem rdl_ints : ∀ ns : List Int, RdL K B (ns.map V.int) (ns.map D.int)
  | [] => .nil
  | n :: ns => .cons (.int n) (rdl_ints ns)
end
/-! ### the store -/
inductive O where
  | lst (ds : List D) | dct (kvs : List (Key × D)) | ins (C dx : Addr) (fs : List (Str × D)) | tap | lck (od : Obj) (xs : List (Key × V)) (kvs : List (Key × D)) | xd (fs : List (Str × D))
abbrev Sto := Addr → Option O
/-- a dict that may be read, locked or not -/
def DctAt (S : Sto) (a : Addr) (kvs : List (Key × D)) : Prop := S a = some (.dct kvs) ∨ ∃ od xs, S a = some (.lck od xs kvs)
def put (S : Sto) (a : Addr) (o : O) : Sto := fun b => if b = a then some o else S b
def del (S : Sto) (a : Addr) : Sto := fun b => if b = a then none else S b
theorem put_same {S : Sto} {a : Addr} {o : O} : put S a o a = some o := by unfold put; rw [if_pos rfl]
theorem put_ne {S : Sto} {a b : Addr} {o : O} (h : b ≠ a) : put S a o b = S b := by unfold put; rw [if_neg h]
theorem del_same {S : Sto} {a : Addr} : del S a a = none := by unfold del; rw [if_pos rfl]
theorem del_ne {S : Sto} {a b : Addr} (h : b ≠ a) : del S a b = S b := by unfold del; rw [if_neg h]
theorem put_put {S : Sto} {a : Addr} {o u : O} : put (put S a o) a u = put S a u := by funext b; unfold put; split <;> rfl
theorem del_put {S : Sto} {a : Addr} {o : O} (h : S a = none) : del (put S a o) a = S := by
  funext b; unfold del put
  split
  · rename_i e; rw [e, h]
  · rfl
theorem put_self {S : Sto} {a : Addr} {o : O} (h : S a = some o) : put S a o = S := by
  funext b; unfold put
  split
  · rename_i e; rw [e, h]
  · rfl
theorem put_comm {S : Sto} {a b : Addr} {o u : O} (h : a ≠ b) : put (put S a o) b u = put (put S b u) a o := by
  funext c; unfold put
  by_cases h1 : c = a
  · by_cases h2 : c = b
    · exact absurd (h1.symm.trans h2) h
    · rw [if_neg h2, if_pos h1, if_pos h1]
  · by_cases h2 : c = b
    · rw [if_pos h2, if_neg h1, if_pos h2]
    · rw [if_neg h2, if_neg h1, if_neg h1, if_neg h2]
theorem sto_ne {S : Sto} {a b : Addr} {o : O} (h : S a = some o) (n : S b = none) : a ≠ b := fun e => by rw [e, n] at h; cases h
def RdKV {κ : Type} (K : PySem.W.Frag) (B : Hp) : List (κ × V) → List (κ × D) → Prop := Paired fun p q => p.1 = q.1 ∧ RdD K B p.2 q.2
theorem RdKV.mono {κ : Type} {K : PySem.W.Frag} {B B' : Hp} (e : Ex B B') {l : List (κ × V)} {m : List (κ × D)} (h : RdKV K B l m) : RdKV K B' l m := Paired.mapP h fun _ _ r => ⟨r.1, r.2.mono e⟩
inductive RdO (K : PySem.W.Frag) (B : Hp) : HO → O → Prop
  | lst {xs : List V} {ds : List D} : RdL K B xs ds → RdO K B (.lst xs) (.lst ds)
  | dct {kvs : List (Key × V)} {dvs : List (Key × D)} : RdKV K B kvs dvs → RdO K B (.dK kvs) (.dct dvs)
  | ins {C dx : Addr} {fs : List (Str × V)} {gs : List (Str × D)} : RdKV K B fs gs → RdO K B (.ins C dx fs) (.ins C dx gs)
  | tap (a b c d : Int) : RdO K B (.lst [.int a, .int b, .int c, .int d]) .tap
  | lck {od : Obj} {xs : List (Key × V)} {kvs : List (Key × D)} : RdKV K B xs kvs → RdO K B (.frz od (.dK xs)) (.lck od xs kvs)
  | xd {fs : List (Str × V)} {gs : List (Str × D)} : RdKV K B fs gs → RdO K B (.xd fs) (.xd gs)
theorem RdO.mono {K : PySem.W.Frag} {B B' : Hp} (e : Ex B B') {h : HO} {o : O} (r : RdO K B h o) : RdO K B' h o := by
  cases r with
  | lst r => exact .lst (r.mono e)
  | dct r => exact .dct (r.mono e)
  | ins r => exact .ins (r.mono e)
  | tap a b c d => exact .tap a b c d
  | lck r => exact .lck (r.mono e)
  | xd r => exact .xd (r.mono e)
/-- B stands fast, S is what changes, H is both -/
structure R (K : PySem.W.Frag) (B : Hp) (S : Sto) (H : Hp) : Prop where
  ex : Ex B H
  own : ∀ a o, S a = some o → B a = none ∧ ∃ ho, H a = some ho ∧ RdO K B ho o
section
variable {K : PySem.W.Frag} {B H : Hp} {S : Sto}
theorem R.fresh (r : R K B S H) {p : Addr} (h : H p = none) : B p = none ∧ S p = none := by
  refine ⟨fresh_back r.ex h, ?_⟩
  cases e : S p with
  | none => rfl
  | some o =>
    obtain ⟨_, ho, e2, _⟩ := r.own p o e
    rw [h] at e2
    cases e2
/-- a new thing that stands fast -/
theorem R.new (r : R K B S H) {p : Addr} {o : HO} (h : H p = none) : R K (upd B p o) S (upd H p o) ∧ Ex B (upd B p o) := by
  have hb := (r.fresh h).1
  refine ⟨⟨fun a u e => ?_, fun a u e => ?_⟩, Ex.new hb⟩
  · by_cases z : a = p
    · subst z; rw [upd_same] at e ⊢; exact e
    · rw [upd_ne z] at e ⊢; exact r.ex a u e
  · obtain ⟨n, ho, h1, h2⟩ := r.own a u e
    have z : a ≠ p := fun z => by rw [z, h] at h1; cases h1
    exact ⟨by rw [upd_ne z]; exact n, ho, by rw [upd_ne z]; exact h1, h2.mono (Ex.new hb)⟩
/-- a new thing that may change -/
theorem R.newS (r : R K B S H) {p : Addr} {ho : HO} {o : O} (h : H p = none) (ro : RdO K B ho o) : R K B (put S p o) (upd H p ho) := by
  have hb := (r.fresh h).1
  refine ⟨r.ex.trans (Ex.new h), fun a u e => ?_⟩
  by_cases z : a = p
  · subst z; rw [put_same] at e; cases e; exact ⟨hb, ho, upd_same, ro⟩
  · rw [put_ne z] at e
    obtain ⟨n, ho', h1, h2⟩ := r.own a u e
    exact ⟨n, ho', by rw [upd_ne z]; exact h1, h2⟩
/-- a thing of the store changes -/
theorem R.mut (r : R K B S H) {p : Addr} {ho : HO} {o u : O} (h : S p = some u) (ro : RdO K B ho o) : R K B (put S p o) (upd H p ho) := by
  have hb := (r.own p u h).1
  refine ⟨r.ex.mut hb, fun a v e => ?_⟩
  by_cases z : a = p
  · subst z; rw [put_same] at e; cases e; exact ⟨hb, ho, upd_same, ro⟩
  · rw [put_ne z] at e
    obtain ⟨n, ho', h1, h2⟩ := r.own a v e
    exact ⟨n, ho', by rw [upd_ne z]; exact h1, h2⟩
/-- a list of the store stands fast from now on -/
theorem R.freeze (r : R K B S H) {p : Addr} {ds : List D} (h : S p = some (.lst ds)) : ∃ B', Ex B B' ∧ R K B' (del S p) H ∧ RdD K B' (.ref p) (.list ds) := by
  obtain ⟨hb, ho, h1, h2⟩ := r.own p _ h
  cases h2 with
  | lst rl =>
    rename_i xs
    have e : Ex B (upd B p (.lst xs)) := Ex.new hb
    refine ⟨_, e, ⟨fun a u q => ?_, fun a u q => ?_⟩, .lst upd_same (rl.mono e)⟩
    · by_cases z : a = p
      · subst z; rw [upd_same] at q; cases q; exact h1
      · rw [upd_ne z] at q; exact r.ex a u q
    · by_cases z : a = p
      · subst z; rw [del_same] at q; cases q
      · rw [del_ne z] at q
        obtain ⟨n, ho', h3, h4⟩ := r.own a u q
        exact ⟨by rw [upd_ne z]; exact n, ho', h3, h4.mono e⟩
theorem R.lst (r : R K B S H) {p : Addr} {ds : List D} (h : S p = some (.lst ds)) : ∃ xs, H p = some (.lst xs) ∧ RdL K B xs ds := by
  obtain ⟨_, ho, h1, h2⟩ := r.own p _ h
  cases h2 with
  | lst rl => exact ⟨_, h1, rl⟩
theorem R.dct (r : R K B S H) {p : Addr} {ds : List (Key × D)} (h : S p = some (.dct ds)) : ∃ xs, H p = some (.dK xs) ∧ RdKV K B xs ds := by
  obtain ⟨_, ho, h1, h2⟩ := r.own p _ h
  cases h2 with
  | dct rl => exact ⟨_, h1, rl⟩
theorem R.lck (r : R K B S H) {p : Addr} {od : Obj} {xs : List (Key × V)} {ds : List (Key × D)} (h : S p = some (.lck od xs ds)) : H p = some (.frz od (.dK xs)) ∧ RdKV K B xs ds := by
  obtain ⟨_, ho, h1, h2⟩ := r.own p _ h
  cases h2 with
  | lck rl => exact ⟨h1, rl⟩
theorem R.dctR (r : R K B S H) {p : Addr} {ds : List (Key × D)} (h : DctAt S p ds) : ∃ xs, Rd H p (.dK xs) ∧ RdKV K B xs ds := by
  rcases h with h | ⟨od, xs, h⟩
  · obtain ⟨xs, h1, h2⟩ := r.dct h
    exact ⟨xs, .inl h1, h2⟩
  · obtain ⟨h1, h2⟩ := r.lck h
    exact ⟨xs, .inr ⟨od, h1⟩, h2⟩
theorem R.ins (r : R K B S H) {p C dx : Addr} {ds : List (Str × D)} (h : S p = some (.ins C dx ds)) : ∃ xs, H p = some (.ins C dx xs) ∧ RdKV K B xs ds := by
  obtain ⟨_, ho, h1, h2⟩ := r.own p _ h
  cases h2 with
  | ins rl => exact ⟨_, h1, rl⟩
theorem R.tap (r : R K B S H) {p : Addr} (h : S p = some .tap) : Tap H p := by
  obtain ⟨_, ho, h1, h2⟩ := r.own p _ h
  cases h2 with
  | tap a b c d => exact ⟨a, b, c, d, h1⟩
end
/-! ### slots, wishes, readings -/
abbrev Dst := List (Option D)
abbrev DK := D → Sto → Prop
abbrev DE := Dst → Sto → DK → Prop
abbrev DT := Dst → Sto → (Bool → Sto → Prop) → Prop
abbrev DA := Dst → Sto → (List D → Sto → Prop) → Prop
structure DEnds where
  nx : Dst → Sto → Prop
  rt : DK
  bk : Dst → Sto → Prop := fun _ _ => False
  ct : Dst → Sto → Prop := fun _ _ => False
  xx : Value → Option Addr → Dst → Sto → Prop := fun _ _ _ _ => False
abbrev DS := DEnds → Dst → Sto → Prop
abbrev XDK := Value → Option Addr → Sto → Prop
/-- what is wished of an exception -/
abbrev WXD := Value → Option Addr → L2.St → Hp → Prop
abbrev SpD := List D → Sto → DK → XDK → Prop
structure Sl (K : PySem.W.Frag) (B : Hp) (σ : L2.St) (δ : Dst) : Prop where
  len : σ.length = δ.length
  at_ : ∀ (i : Nat) (d : D), δ[i]? = some (some d) → ∃ v, σ[i]? = some (some v) ∧ RdD K B v d
section
variable {K : PySem.W.Frag} {B B' H : Hp} {S : Sto} {σ : L2.St} {δ : Dst}
theorem Sl.mono (s : Sl K B σ δ) (e : Ex B B') : Sl K B' σ δ := ⟨s.len, fun i d h => let ⟨v, a, b⟩ := s.at_ i d h; ⟨v, a, b.mono e⟩⟩
theorem Sl.set (s : Sl K B σ δ) {v : V} {d : D} (h : RdD K B v d) (i : Nat) : Sl K B (σ.set i (some v)) (δ.set i (some d)) := by
  refine ⟨by simp [s.len], fun j x e => ?_⟩
  by_cases z : i = j
  · subst z
    by_cases hl : i < δ.length
    · rw [List.getElem?_set_self hl] at e
      cases e
      exact ⟨v, List.getElem?_set_self (by rw [s.len]; exact hl), h⟩
    · rw [List.getElem?_eq_none (by simpa using hl)] at e
      cases e
  · rw [List.getElem?_set_ne z] at e ⊢
    exact s.at_ j x e
end
/-- readings over data, as readings of the layer -/
def lE (K : PySem.W.Frag) (d : DE) : TE := fun σ H Q => ∃ B δ S k, Sl K B σ δ ∧ R K B S H ∧ d δ S k ∧ ∀ x S' v B' H', k x S' → Ex B B' → R K B' S' H' → RdD K B' v x → Q v H'
def lT (K : PySem.W.Frag) (d : DT) : TT := fun σ H Q => ∃ B δ S k, Sl K B σ δ ∧ R K B S H ∧ d δ S k ∧ ∀ b S' B' H', k b S' → Ex B B' → R K B' S' H' → Q b H'
def lA (K : PySem.W.Frag) (d : DA) : TA := fun σ H Q => ∃ B δ S k, Sl K B σ δ ∧ R K B S H ∧ d δ S k ∧ ∀ xs S' vs B' H', k xs S' → Ex B B' → R K B' S' H' → RdL K B' vs xs → Q vs H'
structure lD (K : PySem.W.Frag) (W : WXD) (B : Hp) (D : DEnds) (E : Ends) : Prop where
  nx : ∀ δ S σ B' H', D.nx δ S → Ex B B' → Sl K B' σ δ → R K B' S H' → E.nx σ H'
  rt : ∀ x S v B' H', D.rt x S → Ex B B' → R K B' S H' → RdD K B' v x → E.rt v H'
  bk : ∀ δ S σ B' H', D.bk δ S → Ex B B' → Sl K B' σ δ → R K B' S H' → E.bk σ H'
  ct : ∀ δ S σ B' H', D.ct δ S → Ex B B' → Sl K B' σ δ → R K B' S H' → E.ct σ H'
  xx : ∀ c od δ S σ B' H', D.xx c od δ S → Ex B B' → Sl K B' σ δ → R K B' S H' → W c od σ H'
def lS (K : PySem.W.Frag) (W : WXD) (d : DS) : TS := fun E σ H => ∃ B δ S D, Sl K B σ δ ∧ R K B S H ∧ d D δ S ∧ lD K W B D E
theorem lD.mono {K : PySem.W.Frag} {W : WXD} {B B' : Hp} {D : DEnds} {E : Ends} (h : lD K W B D E) (e : Ex B B') : lD K W B' D E :=
  ⟨fun δ S σ B2 H k e2 => h.nx δ S σ B2 H k (e.trans e2), fun x S v B2 H k e2 => h.rt x S v B2 H k (e.trans e2), fun δ S σ B2 H k e2 => h.bk δ S σ B2 H k (e.trans e2), fun δ S σ B2 H k e2 => h.ct δ S σ B2 H k (e.trans e2), fun c od δ S σ B2 H k e2 => h.xx c od δ S σ B2 H k (e.trans e2)⟩
def lSp (K : PySem.W.Frag) (f : SpD) : Sp := fun vs H Q E => ∃ B ds S k kx, RdL K B vs ds ∧ R K B S H ∧ f ds S k kx ∧ (∀ x S' v B' H', k x S' → Ex B B' → R K B' S' H' → RdD K B' v x → Q v H') ∧
  ∀ c od S' B' H', kx c od S' → Ex B B' → R K B' S' H' → E c od H'
/-! ### the judgements, weakened -/
section
variable {X : Cx}
theorem peOf {e : Expr} {t u : TE} (h : PE X e t) (k : ∀ σ H Q, u σ H Q → t σ H Q) : PE X e u := ⟨fun pins s σ H Q I q => h.run pins s σ H Q I (k σ H Q q)⟩
theorem ptOf {e : Expr} {t u : TT} (h : PT X e t) (k : ∀ σ H Q, u σ H Q → t σ H Q) : PT X e u := ⟨fun pins s σ H Q I q => h.run pins s σ H Q I (k σ H Q q)⟩
theorem pwOf {e : Expr} {t u : TT} (h : PW X e t) (k : ∀ σ H Q, u σ H Q → t σ H Q) : PW X e u := ⟨fun wh pins s σ H Q I q => h.run wh pins s σ H Q I (k σ H Q q)⟩
theorem paOf {e : List Expr} {t u : TA} (h : PA X e t) (k : ∀ σ H Q, u σ H Q → t σ H Q) : PA X e u := ⟨fun pos pins s σ H Q I q => h.run pos pins s σ H Q I (k σ H Q q)⟩
theorem psOf {st : Stmt} {t u : TS} (h : PS X st t) (k : ∀ D σ H, u D σ H → t D σ H) : PS X st u := ⟨fun pins s σ H D I q => h.run pins s σ H D I (k D σ H q)⟩
theorem pssOf {st : List Stmt} {t u : TS} (h : PSs X st t) (k : ∀ D σ H, u D σ H → t D σ H) : PSs X st u := ⟨fun pins s σ H D I q => h.run pins s σ H D I (k D σ H q)⟩
theorem pgOf {tg : Expr} {t u : TG} (h : PG X tg t) (k : ∀ v σ H Q, u v σ H Q → t v σ H Q) : PG X tg u := by
  obtain ⟨r⟩ := h
  exact ⟨fun pins s σ H v w Q I rv q => r pins s σ H v w Q I rv (k v σ H Q q)⟩
end
end DL

set_option Elab.async false
set_option linter.all false
set_option maxRecDepth 100000
namespace DL
open PySem L2 Evl EX
/-! ### expressions -/
section
variable {X : Cx} {K : PySem.W.Frag}
def dVar (i : Nat) : DE := fun δ S k => match δ[i]? with
  | some (some d) => k d S
  | _ => False
theorem de_var (i : Nat) {x : Str} {pos : Pos} (hN : X.N[i]? = some x := by rfl) (hv : Vis X.env.scope x := by first | exact Or.inl rfl | exact Or.inr (Or.inl rfl) | exact Or.inr (Or.inr rfl)) (hd : (x == ("__debug__" : Str)) = false := by decide)
    (hcd : (x == ("__classdict__" : Str)) = false := by decide) : PE X (.Name x pos) (lE K (dVar i)) := peOf (pv i hN hv hd hcd) fun σ H Q ⟨B, δ, S, k, s, r, h, q⟩ => by
  unfold dVar at h
  split at h
  · rename_i d e
    obtain ⟨v, hv, rv⟩ := s.at_ i d e
    exact ⟨v, hv, q d S v B H h (Ex.refl B) r rv⟩
  · exact h.elim
/-- a list of the store, read for good -/
def dFrz (i : Nat) : DE := fun δ S k => match δ[i]? with
  | some (some (.ref a)) => ∃ ds, S a = some (.lst ds) ∧ k (.list ds) (del S a)
  | _ => False
theorem de_frz (i : Nat) {x : Str} {pos : Pos} (hN : X.N[i]? = some x := by rfl) (hv : Vis X.env.scope x := by first | exact Or.inl rfl | exact Or.inr (Or.inl rfl) | exact Or.inr (Or.inr rfl)) (hd : (x == ("__debug__" : Str)) = false := by decide)
    (hcd : (x == ("__classdict__" : Str)) = false := by decide) : PE X (.Name x pos) (lE K (dFrz i)) := peOf (pv i hN hv hd hcd) fun σ H Q ⟨B, δ, S, k, s, r, h, q⟩ => by
  unfold dFrz at h
  split at h
  · rename_i a e
    obtain ⟨v, hv, rv⟩ := s.at_ i _ e
    obtain ⟨ds, hs, h⟩ := h
    obtain ⟨B', e', r', rd⟩ := r.freeze hs
    rw [rd_ref rv] at hv
    exact ⟨_, hv, q _ _ _ B' H h e' r' rd⟩
  · exact h.elim
def dC (d : D) : DE := fun _ S k => k d S
theorem de_c {e : Expr} {v : V} {d : D} (h : PE X e (tC v)) (hd : ∀ B, RdD K B v d) : PE X e (lE K (dC d)) := peOf h fun σ H Q ⟨B, δ, S, k, s, r, h, q⟩ => q d S v B H h (Ex.refl B) r (hd B)
theorem de_int {i j pos} : PE X (.Constant (.int i) j pos) (lE K (dC (.int i))) := de_c pe_int fun _ => .int i
theorem de_bl {b j pos} : PE X (.Constant (.bool b) j pos) (lE K (dC (.bl b))) := de_c pe_bl fun _ => .bl b
theorem de_non {j pos} : PE X (.Constant .none j pos) (lE K (dC .non)) := de_c pe_non fun _ => .non
theorem de_str {x j pos} : PE X (.Constant (.str x) j pos) (lE K (dC (.str x))) := de_c pe_str fun _ => .str x
/-- a constant of the module -/
def GlD (K : PySem.W.Frag) (mg : Str → Option Value) (x : Str) (d : D) : Prop := ∃ v u, mg x = some u ∧ RelV v u ∧ ∀ B, RdD K B v d
theorem de_gl {x : Str} {d : D} {pos : Pos} (hg : Gl X x) (h : GlD K X.mg x d) (hd : (x == ("__debug__" : Str)) = false := by decide) : PE X (.Name x pos) (lE K (dC d)) := by
  obtain ⟨v, u, hm, r, hb⟩ := h
  exact de_c (pe_glob hg hm r hd) hb
theorem de_blt {x : Str} {n : String} {pos : Pos} (hg : Gl X x) (hm : X.mg x = none) (hv : bootBuiltins x = some (.type n)) (hn : x ≠ "__name__" := by decide) (hd : (x == ("__debug__" : Str)) = false := by decide) : PE X (.Name x pos) (lE K (dC (.ty n))) :=
  de_c (pe_bltn (v := .ty n) hg hm hv rfl hn hd) fun _ => .ty n
/-! two operands -/
abbrev DR2 := D → D → Sto → DK → Prop
def dOp (rd : DR2) (da db : DE) : DE := fun δ S k => da δ S fun x S1 => db δ S1 fun y S2 => rd x y S2 k
def Sim2 (K : PySem.W.Frag) (r : R2) (rd : DR2) : Prop := ∀ (B : Hp) (S : Sto) (H : Hp) (v w : V) (x y : D) (k : DK) (Q : VK), R K B S H → RdD K B v x → RdD K B w y → rd x y S k →
  (∀ z S' u B' H', k z S' → Ex B B' → R K B' S' H' → RdD K B' u z → Q u H') → r v w H Q
theorem l_op {r : R2} {rd : DR2} {da db : DE} (hs : Sim2 K r rd) (σ : L2.St) (H : Hp) (Q : VK) : lE K (dOp rd da db) σ H Q → tOp r (lE K da) (lE K db) σ H Q := fun ⟨B, δ, S, k, s, r, h, q⟩ =>
  ⟨B, δ, S, _, s, r, h, fun x S1 v B1 H1 h1 e1 r1 d1 => ⟨B1, δ, S1, _, s.mono e1, r1, h1, fun y S2 w B2 H2 h2 e2 r2 d2 => hs B2 S2 H2 v w x y k Q r2 (d1.mono e2) d2 h2 fun z S' u B' H' hk e' r' d' => q z S' u B' H' hk (e1.trans (e2.trans e')) r' d'⟩⟩
theorem de_op {op : Operator} {r : R2} {rd : DR2} {a b : Expr} {da db : DE} {pos : Pos} (ho : OpR X (binaryOp op) r) (hs : Sim2 K r rd) (ha : PE X a (lE K da)) (hb : PE X b (lE K db)) : PE X (.BinOp a op b pos) (lE K (dOp rd da db)) := peOf (pe_op ho ha hb) (l_op hs)
theorem de_cmp {op : CmpOp} {r : R2} {rd : DR2} {a b : Expr} {da db : DE} {pos : Pos} (ho : OpR X (compareOp op) r) (hs : Sim2 K r rd) (ha : PE X a (lE K da)) (hb : PE X b (lE K db)) (hm : behindInMarks op b = false) : PE X (.Compare a [op] [b] pos) (lE K (dOp rd da db)) := peOf (pe_cmpR ho ha hb hm) (l_op hs)
theorem de_ix {r : R2} {rd : DR2} {a b : Expr} {da db : DE} {pos : Pos} (ho : IxR X r) (hs : Sim2 K r rd) (ha : PE X a (lE K da)) (hb : PE X b (lE K db)) (hp : PlainIx b) : PE X (.Subscript a b pos) (lE K (dOp rd da db)) := peOf (pe_ix ho ha hb hp) (l_op hs)
/-! tests -/
def dTest (de : DE) : DT := fun δ S k => de δ S fun x S1 => match x with
  | .bl b => k b S1
  | _ => False
theorem l_test {de : DE} (σ : L2.St) (H : Hp) (Q : Bool → Hp → Prop) : lT K (dTest de) σ H Q → lE K de σ H fun x H' => ∃ b, x = .bl b ∧ Q b H' := fun ⟨B, δ, S, k, s, r, h, q⟩ => ⟨B, δ, S, _, s, r, h, fun x S1 v B1 H1 h1 e1 r1 d1 => by
  split at h1
  · rename_i b
    exact ⟨b, rd_bl d1, q b S1 B1 H1 h1 e1 r1⟩
  · exact h1.elim⟩
theorem dt_cmp {op : CmpOp} {r : R2} {rd : DR2} {a b : Expr} {da db : DE} {pos : Pos} (ho : OpR X (compareOp op) r) (hs : Sim2 K r rd) (ha : PE X a (lE K da)) (hb : PE X b (lE K db)) (hm : behindInMarks op b = false) : PT X (.Compare a [op] [b] pos) (lT K (dTest (dOp rd da db))) :=
  ptOf (pt_cmpR ho ha hb hm) fun σ H Q h => by
    obtain ⟨B, δ, S, k, s, r', h, q⟩ := l_test σ H Q h
    exact l_op hs σ H _ ⟨B, δ, S, k, s, r', h, q⟩
theorem dt_val {e : Expr} {de : DE} (h : PE X e (lE K de)) (he : ∀ whole, isTrue e X.env whole = (do let v ← whole; standAt e.pos; holding [v] (truthy v)) := by intro _; rfl) : PT X e (lT K (dTest de)) := ptOf (pt_val h he) l_test
def dAnd (t u : DT) : DT := fun δ S k => t δ S fun c S1 => if c = true then u δ S1 k else k false S1
def dOr (t u : DT) : DT := fun δ S k => t δ S fun c S1 => if c = true then k true S1 else u δ S1 k
def dNot (t : DT) : DT := fun δ S k => t δ S fun c S1 => k (!c) S1
section
variable {a b : Expr} {rest : List Expr} {pos : Pos} {t u : DT}
theorem dw_and1 (h : PT X a (lT K t)) : PW X (.BoolOp .And [a] pos) (lT K t) := pw_and1 h
theorem dw_or1 (h : PT X a (lT K t)) : PW X (.BoolOp .Or [a] pos) (lT K t) := pw_or1 h
theorem dw_and (ha : PT X a (lT K t)) (hb : PW X (.BoolOp .And (b :: rest) pos) (lT K u)) : PW X (.BoolOp .And (a :: b :: rest) pos) (lT K (dAnd t u)) := pwOf (pw_and ha hb) fun σ H Q ⟨B, δ, S, k, s, r, h, q⟩ =>
  ⟨B, δ, S, _, s, r, h, fun c S1 B1 H1 h1 e1 r1 => by
    cases c with
    | true => exact ⟨B1, δ, S1, k, s.mono e1, r1, h1, fun c S2 B2 H2 h2 e2 r2 => q c S2 B2 H2 h2 (e1.trans e2) r2⟩
    | false => exact q false S1 B1 H1 h1 e1 r1⟩
theorem dw_or (ha : PT X a (lT K t)) (hb : PW X (.BoolOp .Or (b :: rest) pos) (lT K u)) : PW X (.BoolOp .Or (a :: b :: rest) pos) (lT K (dOr t u)) := pwOf (pw_or ha hb) fun σ H Q ⟨B, δ, S, k, s, r, h, q⟩ =>
  ⟨B, δ, S, _, s, r, h, fun c S1 B1 H1 h1 e1 r1 => by
    cases c with
    | true => exact q true S1 B1 H1 h1 e1 r1
    | false => exact ⟨B1, δ, S1, k, s.mono e1, r1, h1, fun c S2 B2 H2 h2 e2 r2 => q c S2 B2 H2 h2 (e1.trans e2) r2⟩⟩
theorem dt_not (ha : PT X a (lT K t)) : PT X (.UnaryOp .Not a pos) (lT K (dNot t)) := ptOf (pt_not ha) fun σ H Q ⟨B, δ, S, k, s, r, h, q⟩ =>
  ⟨B, δ, S, _, s, r, h, fun c S1 B1 H1 h1 e1 r1 => q (!c) S1 B1 H1 h1 e1 r1⟩
def dAndV (da db : DE) : DE := fun δ S k => da δ S fun x S1 => match x with
  | .bl c => if c = true then db δ S1 k else k (.bl false) S1
  | _ => False
def dOrV (da db : DE) : DE := fun δ S k => da δ S fun x S1 => match x with
  | .bl c => if c = true then k (.bl true) S1 else db δ S1 k
  | _ => False
def dNotV (da : DE) : DE := fun δ S k => da δ S fun x S1 => match x with
  | .bl c => k (.bl (!c)) S1
  | _ => False
variable {da db : DE}
def dIf (t : DT) (da db : DE) : DE := fun δ S k => t δ S fun c S1 => if c = true then da δ S1 k else db δ S1 k
end
/-! rows of expressions; tuples, lists; calls -/
def dNil : DA := fun _ S k => k [] S
def dCons (da : DE) (dr : DA) : DA := fun δ S k => da δ S fun x S1 => dr δ S1 fun xs S2 => k (x :: xs) S2
theorem da_nil : PA X [] (lA K dNil) := paOf pa_nil fun σ H Q ⟨B, δ, S, k, s, r, h, q⟩ => q [] S [] B H h (Ex.refl B) r .nil
theorem da_cons {e : Expr} {es : List Expr} {da : DE} {dr : DA} (ha : PE X e (lE K da)) (hr : PA X es (lA K dr)) (hs : starEach (e :: es) X.env = (false, eval e X.env) :: starEach es X.env := by rfl) : PA X (e :: es) (lA K (dCons da dr)) :=
  paOf (pa_cons ha hr hs) fun σ H Q ⟨B, δ, S, k, s, r, h, q⟩ => ⟨B, δ, S, _, s, r, h, fun x S1 v B1 H1 h1 e1 r1 d1 => ⟨B1, δ, S1, _, s.mono e1, r1, h1, fun xs S2 vs B2 H2 h2 e2 r2 d2 => q _ S2 _ B2 H2 h2 (e1.trans e2) r2 (.cons (d1.mono e2) d2)⟩⟩
def dTup (da : DA) : DE := fun δ S k => da δ S fun xs S1 => xs.length ≤ 100000 ∧ k (.tup xs) S1
def dLst (da : DA) : DE := fun δ S k => da δ S fun xs S1 => xs.length ≤ 100000 ∧ k (.list xs) S1
theorem de_lst {es : List Expr} {da : DA} {pos} (h : PA X es (lA K da)) : PE X (.List es pos) (lE K (dLst da)) := peOf (pe_lst h) fun σ H Q ⟨B, δ, S, k, s, r, h, q⟩ =>
  ⟨B, δ, S, _, s, r, h, fun xs S1 vs B1 H1 ⟨hl, h1⟩ e1 r1 d1 => ⟨sz_of (by rw [d1.length]; exact hl), fun p hp => q _ S1 _ _ _ h1 (e1.trans (r1.new hp).2) (r1.new hp).1 (.lst upd_same (d1.mono (r1.new hp).2))⟩⟩
/-- a list that will change -/
def dNew (da : DA) : DE := fun δ S k => da δ S fun xs S1 => xs.length ≤ 100000 ∧ ∀ p, S1 p = none → k (.ref p) (put S1 p (.lst xs))
theorem de_new {es : List Expr} {da : DA} {pos} (h : PA X es (lA K da)) : PE X (.List es pos) (lE K (dNew da)) := peOf (pe_lst h) fun σ H Q ⟨B, δ, S, k, s, r, h, q⟩ =>
  ⟨B, δ, S, _, s, r, h, fun xs S1 vs B1 H1 ⟨hl, h1⟩ e1 r1 d1 => ⟨sz_of (by rw [d1.length]; exact hl), fun p hp => q _ _ _ B1 _ (h1 p (r1.fresh hp).2) e1 (r1.newS hp (.lst d1)) (.ref p)⟩⟩
def dNewD : DE := fun _ S k => ∀ p, S p = none → k (.ref p) (put S p (.dct []))
theorem de_newD {pos} : PE X (.Dict [] [] pos) (lE K dNewD) := peOf pe_dnewK fun σ H Q ⟨B, δ, S, k, s, r, h, q⟩ => fun p hp => q _ _ _ B _ (h p (r.fresh hp).2) (Ex.refl B) (r.newS hp (.dct .nil)) (.ref p)
def dCall (f : SpD) (da : DA) : DE := fun δ S k => da δ S fun xs S1 => f xs S1 k fun _ _ _ => False
theorem l_call {f : SpD} {da : DA} (σ : L2.St) (H : Hp) (Q : VK) : lE K (dCall f da) σ H Q → tCall (lSp K f) [] E0 (lA K da) σ H Q := fun ⟨B, δ, S, k, s, r, h, q⟩ =>
  ⟨B, δ, S, _, s, r, h, fun xs S1 vs B1 H1 h1 e1 r1 d1 => ⟨B1, xs, S1, k, _, by rw [List.append_nil]; exact d1, r1, h1, fun x S' v B' H' hk e' => q x S' v B' H' hk (e1.trans e'), fun _ _ _ _ _ z => z.elim⟩⟩
/-- a def with its promise over data -/
abbrev DefD (P : Program) (w : World) (K : PySem.W.Frag) (mg : Str → Option Value) (base : Heap) (k : Nat) (x : Str) (ps : List Str) (f : SpD) : Prop := Def P w K mg base k x ps (lSp K f)
theorem de_call {k : Nat} {x : Str} {ps : List Str} {f : SpD} {p pos : Pos} {e : Expr} {es : List Expr} {da : DA} (h : Def X.prog X.w X.K X.mg X.base k x ps (lSp K f)) (hr : Room k X.A) (hg : Gl X x) (ha : PA X (e :: es) (lA K da))
    (hdb : (x == ("__debug__" : Str)) = false := by decide) (he : starEach (e :: es) X.env = (false, eval e X.env) :: starEach es X.env := by rfl) (hpl : (backTo pos (starEach es X.env)).any (·.1) = false := by rfl) :
    PE X (.Call (.Name x p) (e :: es) [] pos) (lE K (dCall f da)) := peOf (pe_def h hr hg ha hdb he hpl) l_call
/-! calls of built-ins -/
def SimC (K : PySem.W.Frag) (r : List V → Hp → VK → Prop) (rd : List D → Sto → DK → Prop) : Prop := ∀ (B : Hp) (S : Sto) (H : Hp) (vs : List V) (xs : List D) (k : DK) (Q : VK), R K B S H → RdL K B vs xs → rd xs S k →
  (∀ z S' u B' H', k z S' → Ex B B' → R K B' S' H' → RdD K B' u z → Q u H') → r vs H Q
def dCB (rd : List D → Sto → DK → Prop) (da : DA) : DE := fun δ S k => da δ S fun xs S1 => rd xs S1 k
theorem l_cb {r : List V → Hp → VK → Prop} {rd : List D → Sto → DK → Prop} {da : DA} (hs : SimC K r rd) (σ : L2.St) (H : Hp) (Q : VK) : lE K (dCB rd da) σ H Q → tCB r (lA K da) σ H Q := fun ⟨B, δ, S, k, s, r, h, q⟩ =>
  ⟨B, δ, S, _, s, r, h, fun xs S1 vs B1 H1 h1 e1 r1 d1 => hs B1 S1 H1 vs xs k Q r1 d1 h1 fun z S' u B' H' hk e' r' d' => q z S' u B' H' hk (e1.trans e') r' d'⟩
theorem de_callB {id : String} {x : Str} {p pos : Pos} {e : Expr} {es : List Expr} {da : DA} {r : List V → Hp → VK → Prop} {rd : List D → Sto → DK → Prop} (hc : CallR X (.builtin id) r) (hs : SimC K r rd) (hg : Gl X x) (hm : X.mg x = none) (hv : bootBuiltins x = some (.builtin id)) (ha : PA X (e :: es) (lA K da)) (hn : x ≠ "__name__" := by decide) (hdb : (x == ("__debug__" : Str)) = false := by decide)
    (he : starEach (e :: es) X.env = (false, eval e X.env) :: starEach es X.env := by rfl) (hpl : (backTo pos (starEach es X.env)).any (·.1) = false := by rfl) : PE X (.Call (.Name x p) (e :: es) [] pos) (lE K (dCB rd da)) := peOf (pe_callB hc hg hm hv ha hn hdb he hpl) (l_cb hs)
theorem de_callTy {T : String} {x : Str} {p pos : Pos} {e : Expr} {es : List Expr} {da : DA} {r : List V → Hp → VK → Prop} {rd : List D → Sto → DK → Prop} (hc : CallR X (.type T) r) (hs : SimC K r rd) (hg : Gl X x) (hm : X.mg x = none) (hv : bootBuiltins x = some (.type T)) (ha : PA X (e :: es) (lA K da)) (hn : x ≠ "__name__" := by decide) (hdb : (x == ("__debug__" : Str)) = false := by decide)
    (he : starEach (e :: es) X.env = (false, eval e X.env) :: starEach es X.env := by rfl) (hpl : (backTo pos (starEach es X.env)).any (·.1) = false := by rfl) : PE X (.Call (.Name x p) (e :: es) [] pos) (lE K (dCB rd da)) := peOf (pe_callTy hc hg hm hv ha hn hdb he hpl) (l_cb hs)
end
end DL

set_option Elab.async false
set_option linter.all false
set_option maxRecDepth 100000
namespace DL
open PySem L2 Evl EX
/-! ### statements -/
section
variable {X : Cx} {K : PySem.W.Frag} {W : WXD} {st : Stmt} {rest : List Stmt} {d e : DS} {pos : Pos}
def dNext : DS := fun D δ S => D.nx δ S
def dSeq (d e : DS) : DS := fun D δ S => d { D with nx := e D } δ S
def dCut (d e : DS) : DS := fun D δ S => ∃ M : Dst → Sto → Prop, d { D with nx := M } δ S ∧ ∀ δ' S', M δ' S' → e D δ' S'
theorem dss_nil : PSs X [] (lS K W dNext) := pssOf pss_nil fun E σ H ⟨B, δ, S, D, s, r, h, l⟩ => l.nx δ S σ B H h (Ex.refl B) s r
theorem dss_one (h : PS X st (lS K W d)) : PSs X [st] (lS K W d) := pssOf (pss_one h) fun E σ H h => h
theorem dss_cons (h1 : PS X st (lS K W d)) (h2 : PSs X rest (lS K W e)) : PSs X (st :: rest) (lS K W (dSeq d e)) := pssOf (pss_cons h1 h2) fun E σ H ⟨B, δ, S, D, s, r, h, l⟩ =>
  ⟨B, δ, S, _, s, r, h, fun δ1 S1 σ1 B1 H1 h1 e1 s1 r1 => ⟨B1, δ1, S1, D, s1, r1, h1, l.mono e1⟩, l.rt, l.bk, l.ct, l.xx⟩
theorem dss_cut (h1 : PS X st (lS K W d)) (h2 : PSs X rest (lS K W e)) : PSs X (st :: rest) (lS K W (dCut d e)) := pssOf (pss_cons h1 h2) fun E σ H ⟨B, δ, S, D, s, r, ⟨M, h, hm⟩, l⟩ =>
  ⟨B, δ, S, _, s, r, h, fun δ1 S1 σ1 B1 H1 h1 e1 s1 r1 => ⟨B1, δ1, S1, D, s1, r1, hm δ1 S1 h1, l.mono e1⟩, l.rt, l.bk, l.ct, l.xx⟩
def dDrop (de : DE) : DS := fun D δ S => de δ S fun _ S1 => D.nx δ S1
def dRet (de : DE) : DS := fun D δ S => de δ S D.rt
def dRetN : DS := fun D _ S => D.rt .non S
def dIfS (t : DT) (d e : DS) : DS := fun D δ S => t δ S fun b S1 => if b = true then d D δ S1 else e D δ S1
def dPass : DS := fun D δ S => D.nx δ S
def dBreak : DS := fun D δ S => D.bk δ S
def dCont : DS := fun D δ S => D.ct δ S
def dNever : DS := fun _ _ _ => False
variable {ex : Expr} {de : DE} {t : DT}
theorem ds_expr (h : PE X ex (lE K de)) (hs : swapsWith ex none pos.line X.env = pure false := by rfl) : PS X (.Expr ex pos) (lS K W (dDrop de)) := psOf (ps_expr h hs) fun E σ H ⟨B, δ, S, D, s, r, h, l⟩ =>
  ⟨B, δ, S, _, s, r, h, fun x S1 v B1 H1 h1 e1 r1 _ => l.nx δ S1 σ B1 H1 h1 e1 (s.mono e1) r1⟩
theorem ds_ret (h : PE X ex (lE K de)) : PS X (.Return (some ex) pos) (lS K W (dRet de)) := psOf (ps_ret h) fun E σ H ⟨B, δ, S, D, s, r, h, l⟩ => ⟨B, δ, S, _, s, r, h, l.rt⟩
theorem ds_retN : PS X (.Return none pos) (lS K W dRetN) := psOf ps_retN fun E σ H ⟨B, δ, S, D, s, r, h, l⟩ => l.rt _ S _ B H h (Ex.refl B) r .non
theorem ds_if {c : Expr} {a b : List Stmt} (hc : PT X c (lT K t)) (ha : PSs X a (lS K W d)) (hb : PSs X b (lS K W e)) : PS X (.If c a b pos) (lS K W (dIfS t d e)) := psOf (ps_if hc ha hb) fun E σ H ⟨B, δ, S, D, s, r, h, l⟩ =>
  ⟨B, δ, S, _, s, r, h, fun b S1 B1 H1 h1 e1 r1 => by
    cases b with
    | true => exact ⟨B1, δ, S1, D, s.mono e1, r1, h1, l.mono e1⟩
    | false => exact ⟨B1, δ, S1, D, s.mono e1, r1, h1, l.mono e1⟩⟩
theorem ds_never : PS X st (lS K W dNever) := psOf ps_never fun E σ H ⟨B, δ, S, D, s, r, h, l⟩ => h.elim
/-! targets -/
abbrev DG := D → Dst → Sto → (Dst → Sto → Prop) → Prop
abbrev DGs := List D → Dst → Sto → (Dst → Sto → Prop) → Prop
def lG (K : PySem.W.Frag) (g : DG) : TG := fun v σ H Q => ∃ B δ S x k, Sl K B σ δ ∧ R K B S H ∧ RdD K B v x ∧ g x δ S k ∧ ∀ δ' S' σ' B' H', k δ' S' → Ex B B' → Sl K B' σ' δ' → R K B' S' H' → Q σ' H'
def gN (i : Nat) : DG := fun x δ S k => k (δ.set i (some x)) S
theorem dg_name {i : Nat} {x : Str} (hN : X.N.Nodup) (hi : X.N[i]? = some x) (hx : Loc X.env.scope x) (hf : X.fn x = true ∨ X.env.scope.names.lookup x = some .local := by first | exact .inl rfl | exact .inr rfl | assumption) : PG X (.Name x pos) (lG K (gN i)) :=
  pgOf (pg_name hN hi hx hf) fun v σ H Q ⟨B, δ, S, x, k, s, r, rd, h, q⟩ => q _ S _ B H h (Ex.refl B) (s.set rd i) r
def gsNil : DGs := fun xs δ S k => match xs with
  | [] => k δ S
  | _ => False
def gsCons (g : DG) (gs : DGs) : DGs := fun xs δ S k => match xs with
  | x :: r => g x δ S fun δ' S' => gs r δ' S' k
  | [] => False
def gT (n : Nat) (gs : DGs) : DG := fun x δ S k => match x with
  | .tup ds => ds.length = n ∧ gs ds δ S k
  | _ => False
def dAsg (de : DE) (g : DG) : DS := fun D δ S => de δ S fun x S1 => g x δ S1 D.nx
theorem ds_asg {tg : Expr} {g : DG} (h : PE X ex (lE K de)) (hg : PG X tg (lG K g)) (hs : swapsWithSole [tg] ex pos.line X.env = pure false := by rfl) (hw : swappedStores [tg] ex X.env = pure none := by rfl)
    (h1 : (assignEach [tg] X.env).map (·.2) = [assign tg X.env] := by rfl) : PS X (.Assign [tg] ex pos) (lS K W (dAsg de g)) := psOf (ps_asg h hg hs hw h1) fun E σ H ⟨B, δ, S, D, s, r, h, l⟩ =>
  ⟨B, δ, S, _, s, r, h, fun x S1 v B1 H1 h1 e1 r1 d1 => ⟨B1, δ, S1, x, _, s.mono e1, r1, d1, h1, fun δ' S' σ' B' H' hk e' s' r' => l.nx δ' S' σ' B' H' hk (e1.trans e') s' r'⟩⟩
def dSet (de : DE) (i : Nat) : DS := fun D δ S => de δ S fun x S1 => D.nx (δ.set i (some x)) S1
theorem ds_set {i : Nat} {x : Str} {pos' : Pos} (hN : X.N.Nodup) (hi : X.N[i]? = some x) (hx : Loc X.env.scope x) (h : PE X ex (lE K de)) (hs : swapsWith ex (some (.Name x pos')) pos.line X.env = pure false := by rfl) (hf : X.fn x = true ∨ X.env.scope.names.lookup x = some .local := by first | exact .inl rfl | exact .inr rfl | assumption) :
    PS X (.Assign [.Name x pos'] ex pos) (lS K W (dSet de i)) := psOf (ps_set hN hi hx h hs hf) fun E σ H ⟨B, δ, S, D, s, r, h, l⟩ =>
  ⟨B, δ, S, _, s, r, h, fun x S1 v B1 H1 h1 e1 r1 d1 => l.nx _ S1 _ B1 H1 h1 e1 ((s.mono e1).set d1 i) r1⟩
/-! what is walked -/
abbrev DI := Dst → Sto → (List D → Sto → Prop) → Prop
structure ItOk (K : PySem.W.Frag) (B : Hp) (J : It) (ds : List D) : Prop where
  go : ∀ i H, Ex B H → i < ds.length → J.go i H
  stop : ∀ i H, Ex B H → ds.length ≤ i → J.stop i H
  yld : ∀ i H x H' B1 S, Ex B B1 → R K B1 S H → i < ds.length → J.yld i H x H' → ∃ d B2, ds[i]? = some d ∧ Ex B1 B2 ∧ R K B2 S H' ∧ RdD K B2 x d
def lI (K : PySem.W.Frag) (di : DI) : TI := fun σ H Rr => ∃ B δ S k, Sl K B σ δ ∧ R K B S H ∧ di δ S k ∧ ∀ ds S' B' H' J, k ds S' → Ex B B' → R K B' S' H' → ItOk K B' J ds → Rr J H'
theorem piOf {tg it : Expr} {t u : TI} (h : PI X tg it t) (k : ∀ σ H Q, u σ H Q → t σ H Q) : PI X tg it u := ⟨fun pins s σ H Q I q => h.run pins s σ H Q I (k σ H Q q)⟩
section
variable {tg l : Expr} {da : DA}
theorem itok_list {B : Hp} {a : Addr} {xs : List V} {ds : List D} (h : SqL K B a xs) (r : RdL K B xs ds) : ItOk K B (Itl K a) ds := by
  refine ⟨fun i H e hi => ?_, fun i H e hi => ⟨xs, ex_l e h, by rw [r.length]; exact hi⟩, fun i H x H' B1 S e1 r1 hi hy => ?_⟩
  · have : i < xs.length := by rw [r.length]; exact hi
    exact ⟨xs, xs[i], ex_l e h, List.getElem?_eq_getElem this⟩
  · obtain ⟨rfl, hy⟩ := hy
    have hx := hy xs (ex_l (e1.trans r1.ex) h)
    obtain ⟨d, hd, rd⟩ := r.getV hx
    exact ⟨d, B1, hd, Ex.refl B1, r1, rd.mono e1⟩
def diL (de : DE) : DI := fun δ S k => de δ S fun x S1 => match x with
  | .list ds => k ds S1
  | .scr ds => k ds S1
  | _ => False
theorem di_list (h : PE X l (lE K de)) (hk : X.K = K := by rfl) : PI X tg l (lI K (diL de)) := piOf (piL h hk) fun σ H Q ⟨B, δ, S, k, s, r, h, q⟩ =>
  ⟨B, δ, S, _, s, r, h, fun x S1 v B1 H1 h1 e1 r1 d1 => by
    split at h1
    · obtain ⟨a, xs, rfl, ha, rl⟩ := rd_list d1
      exact ⟨a, rfl, ⟨xs, sq_of (r1.ex _ _ ha)⟩, q _ S1 B1 H1 _ h1 e1 r1 (itok_list (sq_of ha) rl)⟩
    · obtain ⟨a, xs, rfl, ha, rl⟩ := rd_scr d1
      exact ⟨a, rfl, ⟨xs, ex_l r1.ex ha⟩, q _ S1 B1 H1 _ h1 e1 r1 (itok_list ha rl)⟩
    · exact h1.elim⟩
def diT (de : DE) : DI := fun δ S k => de δ S fun x S1 => match x with
  | .tup ds => k ds S1
  | _ => False
def rngD (lo : Int) (n : Nat) : List D := (List.range n).map fun (i : Nat) => .int (lo + (i : Int))
theorem rngD_len (lo : Int) (n : Nat) : (rngD lo n).length = n := by simp [rngD]
theorem rngD_get {lo : Int} {n i : Nat} {d : D} (h : (rngD lo n)[i]? = some d) : d = .int (lo + (i : Int)) ∧ i < n := by
  unfold rngD at h
  rw [List.getElem?_map] at h
  by_cases hi : i < n
  · rw [List.getElem?_range hi] at h
    cases h
    exact ⟨rfl, hi⟩
  · rw [List.getElem?_eq_none (by simpa using hi)] at h
    cases h
theorem itok_rng {B : Hp} (lo : Int) (n : Nat) : ItOk K B (Itr lo n) (rngD lo n) := by
  refine ⟨fun i H e hi => by rw [rngD_len] at hi; exact hi, fun i H e hi => by rw [rngD_len] at hi; exact hi, fun i H x H' B1 S e1 r1 hi hy => ?_⟩
  obtain ⟨rfl, rfl⟩ := hy
  rw [rngD_len] at hi
  exact ⟨.int (lo + i), B1, by unfold rngD; rw [List.getElem?_map, List.getElem?_range hi]; rfl, Ex.refl B1, r1, .int _⟩
def diR1 (da : DA) : DI := fun δ S k => da δ S fun xs S1 => match xs with
  | [.int j] => -(2 ^ 62) ≤ j ∧ j < 2 ^ 62 ∧ k (rngD 0 j.toNat) S1
  | _ => False
theorem di_range1 {a : Expr} {p pos : Pos} (hg : Gl X "range") (hm : X.mg "range" = none) (ha : PA X [a] (lA K da)) (hs : starEach [a] X.env = [(false, eval a X.env)] := by rfl) : PI X tg (.Call (.Name "range" p) [a] [] pos) (lI K (diR1 da)) :=
  piOf (pi_range1 hg hm ha hs) fun σ H Q ⟨B, δ, S, k, s, r, h, q⟩ => ⟨B, δ, S, _, s, r, h, fun xs S1 vs B1 H1 h1 e1 r1 d1 => by
    split at h1
    · rename_i j
      cases d1 with
      | cons d1 dr =>
        cases dr
        rw [rd_int d1]
        exact ⟨j, rfl, h1.1, h1.2.1, q _ S1 B1 H1 _ h1.2.2 e1 r1 (itok_rng 0 _)⟩
    · exact h1.elim⟩
def diR2 (da : DA) : DI := fun δ S k => da δ S fun xs S1 => match xs with
  | [.int i, .int j] => (-(2 ^ 62) ≤ i ∧ i < 2 ^ 62 ∧ -(2 ^ 62) ≤ j ∧ j < 2 ^ 62) ∧ k (rngD i (j - i).toNat) S1
  | _ => False
def diStr (de : DE) : DI := fun δ S k => de δ S fun x S1 => match x with
  | .str z => k (z.cps.toList.map fun c => .str ⟨#[c]⟩) S1
  | _ => False
def enumD (ds : List D) : List D := (List.range ds.length).map fun (i : Nat) => .tup [.int (i : Int), ds.getD i .non]
def diEnum (da : DA) : DI := fun δ S k => da δ S fun xs S1 => match xs with
  | [.list ds] => k (enumD ds) S1
  | [.scr ds] => k (enumD ds) S1
  | _ => False
end
/-! loops -/
def dFor (di : DI) (g : DG) (b : DS) : DS := fun D δ S => di δ S fun ds S1 => ∃ I : Nat → Dst → Sto → Prop, I 0 δ S1 ∧
  (∀ n d δ' S', ds[n]? = some d → I n δ' S' → g d δ' S' fun δ2 S2 => b { D with nx := I (n + 1), ct := I (n + 1), bk := D.nx } δ2 S2) ∧ ∀ δ' S', I ds.length δ' S' → D.nx δ' S'
theorem ds_for {iter tg : Expr} {body : List Stmt} {di : DI} {g : DG} (hp : PassesOwn (model X.prog X.w) X.A X.env X.xe) (hc : X.calm = true) (hi : PI X tg iter (lI K di)) (hg : PG X tg (lG K g)) (hb : PSs X body (lS K W d)) (hs : ∀ x, foldedSetIterable iter X.env x = pure x := by intro _; rfl)
    : PS X (.For tg iter body [] pos) (lS K W (dFor di g d)) := psOf (ps_for hp hc hi hg hb hs) fun E σ H ⟨B, δ, S, D, s, r, h, l⟩ =>
  ⟨B, δ, S, _, s, r, h, fun ds S1 B1 H1 J ⟨I, h0, hs, hd⟩ e1 r1 it => by
    refine ⟨fun i m σ' H' => m = ds.length - i ∧ i ≤ ds.length ∧ ∃ B2 δ2 S2, Ex B1 B2 ∧ Sl K B2 σ' δ2 ∧ R K B2 S2 H' ∧ I i δ2 S2, ⟨ds.length, rfl, Nat.zero_le _, B1, δ, S1, Ex.refl B1, s.mono e1, r1, h0⟩, ?_⟩
    rintro i m σ' H' ⟨rfl, hi, B2, δ2, S2, e2, s2, r2, hI⟩
    by_cases hlt : i < ds.length
    · refine .inr ⟨it.go i H' (e2.trans r2.ex) hlt, fun σ3 H3 => ∃ B3 δ3 S3, Ex B1 B3 ∧ Sl K B3 σ3 δ3 ∧ R K B3 S3 H3 ∧ I (i + 1) δ3 S3, fun σ3 H3 hn => ⟨ds.length - (i + 1), by omega, rfl, by omega, hn⟩, fun x H3 hy => ?_⟩
      obtain ⟨d', B3, hd', e3, r3, rd⟩ := it.yld i H' x H3 B2 S2 e2 r2 hlt hy
      refine ⟨B3, δ2, S2, d', _, s2.mono e3, r3, rd, hs i d' δ2 S2 hd' hI, fun δ4 S4 σ4 B4 H4 h4 e4 s4 r4 => ⟨B4, δ4, S4, _, s4, r4, h4, ?_⟩⟩
      have e14 : Ex B1 B4 := e2.trans (e3.trans e4)
      exact ⟨fun δ5 S5 σ5 B5 H5 h5 e5 s5 r5 => ⟨B5, δ5, S5, e14.trans e5, s5, r5, h5⟩, fun x S v B' H' hk e' => l.rt x S v B' H' hk (e1.trans (e14.trans e')), fun δ5 S5 σ5 B5 H5 h5 e5 s5 r5 => l.nx δ5 S5 σ5 B5 H5 h5 (e1.trans (e14.trans e5)) s5 r5,
        fun δ5 S5 σ5 B5 H5 h5 e5 s5 r5 => ⟨B5, δ5, S5, e14.trans e5, s5, r5, h5⟩, fun c od δ5 S5 σ5 B5 H5 h5 e5 => l.xx c od δ5 S5 σ5 B5 H5 h5 (e1.trans (e14.trans e5))⟩
    · have ei : i = ds.length := by omega
      subst ei
      exact .inl ⟨it.stop _ H' (e2.trans r2.ex) (Nat.le_refl _), l.nx δ2 S2 σ' B2 H' (hd δ2 S2 hI) (e1.trans e2) s2 r2⟩⟩
def dWhile (t : DT) (b : DS) : DS := fun D δ S => ∃ W : Nat → Dst → Sto → Prop, (∃ m, W m δ S) ∧ ∀ m δ' S', W m δ' S' → t δ' S' fun c S1 => if c = true then b { D with nx := fun δ2 S2 => ∃ m', m' < m ∧ W m' δ2 S2, ct := fun δ2 S2 => ∃ m', m' < m ∧ W m' δ2 S2, bk := D.nx } δ' S1 else D.nx δ' S1
theorem ds_while {c : Expr} {body : List Stmt} (hp : PassesOwn (model X.prog X.w) X.A X.env X.xe) (hc : PT X c (lT K t)) (hb : PSs X body (lS K W d)) : PS X (.While c body [] pos) (lS K W (dWhile t d)) := psOf (ps_while hp hc hb) fun E σ H ⟨B, δ, S, D, s, r, ⟨Wm, ⟨m0, w0⟩, h⟩, l⟩ => by
  refine ⟨fun m σ' H' => ∃ B2 δ2 S2, Ex B B2 ∧ Sl K B2 σ' δ2 ∧ R K B2 S2 H' ∧ Wm m δ2 S2, ⟨m0, B, δ, S, Ex.refl B, s, r, w0⟩, ?_⟩
  rintro m σ' H' ⟨B2, δ2, S2, e2, s2, r2, hW⟩
  refine ⟨B2, δ2, S2, _, s2, r2, h m δ2 S2 hW, fun c S3 B3 H3 h3 e3 r3 => ?_⟩
  cases c with
  | true =>
    refine ⟨fun σ4 H4 => ∃ m', m' < m ∧ ∃ B2 δ2 S2, Ex B B2 ∧ Sl K B2 σ4 δ2 ∧ R K B2 S2 H4 ∧ Wm m' δ2 S2, fun σ4 H4 h4 => h4, B3, δ2, S3, _, s2.mono e3, r3, h3, ?_⟩
    have e13 := e2.trans e3
    exact ⟨fun δ5 S5 σ5 B5 H5 ⟨m', hm, h5⟩ e5 s5 r5 => ⟨m', hm, B5, δ5, S5, e13.trans e5, s5, r5, h5⟩, fun x S v B' H' hk e' => l.rt x S v B' H' hk (e13.trans e'), fun δ5 S5 σ5 B5 H5 h5 e5 s5 r5 => l.nx δ5 S5 σ5 B5 H5 h5 (e13.trans e5) s5 r5,
      fun δ5 S5 σ5 B5 H5 ⟨m', hm, h5⟩ e5 s5 r5 => ⟨m', hm, B5, δ5, S5, e13.trans e5, s5, r5, h5⟩, fun c od δ5 S5 σ5 B5 H5 h5 e5 => l.xx c od δ5 S5 σ5 B5 H5 h5 (e13.trans e5)⟩
  | false => exact l.nx δ2 S3 σ' B3 H3 h3 (e2.trans e3) (s2.mono e3) r3
end
/-! ### a def -/
def startD (N : List Str) (ds : List D) : Dst := ds.map some ++ List.replicate (N.length - ds.length) none
theorem sl_start {K : PySem.W.Frag} {B : Hp} {N : List Str} {vs : List V} {ds : List D} (h : RdL K B vs ds) : Sl K B (L2.start N vs) (startD N ds) := by
  have hl := h.length
  refine ⟨by simp [L2.start, startD, hl], fun i d e => ?_⟩
  unfold startD at e
  by_cases hi : i < ds.length
  · rw [List.getElem?_append_left (by simpa using hi), List.getElem?_map] at e
    obtain ⟨d', h1, h2⟩ := Option.map_eq_some_iff.mp e
    cases h2
    obtain ⟨v, hv, rd⟩ := h.get h1
    refine ⟨v, ?_, rd⟩
    unfold L2.start
    rw [List.getElem?_append_left (by rw [List.length_map]; omega), List.getElem?_map, hv]
    rfl
  · rw [List.getElem?_append_right (by simpa using hi)] at e
    have := List.mem_of_getElem? e
    simp at this
section
variable {P : Program} {w : World} {K : PySem.W.Frag} {mg : Str → Option Value} {base : Heap}
theorem dok {x qual : Str} {st : Stmt} {f : Addr} {fd : FuncData} {N ps : List Str} {k : Nat} {sp : SpD} (F : Fun K x qual st f fd) (Sc : FnScope N ps (defScope st)) (len : ∀ ds S q qx, sp ds S q qx → ds.length = ps.length)
    (h : ∃ d : DS, (∀ (cdv : Value) (A : Around) (outer : List Env) (s : Shared) (H : Hp) (E : XK), Room k (A.deeper (PyProof.Rows.envOfC qual (defScope st) s.heap.objs.size f cdv)) → PSs (cxOf CX0 P w K mg base N qual (defScope st) f cdv A outer s H E).nox (defBody st) (lS K (fun _ _ _ _ => False) d)) ∧
      ∀ ds S q qx, sp ds S q qx → d { nx := fun _ S' => q .non S', rt := q } (startD N ds) S) : FnOk P w K mg base CX0 (k + 1) f fd ps (lSp K sp) := by
  obtain ⟨d, hd, hs⟩ := h
  refine F.ok Sc (fun vs H Q E ⟨B, ds, S, q, qx, rd, r, h, _⟩ => by rw [rd.length]; exact len ds S q qx h) (fun cdv A outer s H vs Q E hr ⟨B, ds, S, q, qx, rd, r, h, hq, _⟩ => ?_)
  refine ⟨_, hd cdv A outer s H E hr, B, startD N ds, S, _, sl_start rd, r, hs ds S q qx h, ?_⟩
  exact ⟨fun δ S' σ B' H' hk e' _ r' => hq .non S' .non B' H' hk e' r' .non, fun x S' v B' H' hk e' r' rd' => hq x S' v B' H' hk e' r' rd', fun _ _ _ _ _ z => z.elim, fun _ _ _ _ _ z => z.elim, fun _ _ _ _ _ _ _ z => z.elim⟩
end
end DL

set_option Elab.async false
set_option linter.all false
set_option maxRecDepth 100000
namespace DL
open PySem L2 Evl EX
/-! ### comprehensions -/
def wipeD (δ : Dst) : List Nat → Dst
  | [] => δ
  | v :: vs => (wipeD δ vs).set v none
theorem wipe_at (σ : L2.St) (i : Nat) : ∀ vs : List Nat, (wipe σ vs)[i]? = if i ∈ vs ∧ i < σ.length then some none else σ[i]?
  | [] => by simp [wipe]
  | v :: vs => by
    unfold wipe
    by_cases h : v = i
    · subst h
      by_cases hl : v < σ.length
      · rw [List.getElem?_set_self (by rw [wipe_length]; exact hl), if_pos ⟨List.mem_cons_self, hl⟩]
      · rw [List.getElem?_eq_none (by rw [List.length_set, wipe_length]; omega), if_neg (fun z => hl z.2), List.getElem?_eq_none (by omega)]
    · rw [List.getElem?_set_ne h, wipe_at σ i vs]
      have : (i ∈ v :: vs) ↔ i ∈ vs := by simp [List.mem_cons, Ne.symm h]
      simp [this]
theorem wipe_same {σ τ : L2.St} {vs : List Nat} (hl : σ.length = τ.length) (h : ∀ i, i ∉ vs → σ[i]? = τ[i]?) : wipe σ vs = wipe τ vs := by
  apply List.ext_getElem?
  intro i
  rw [wipe_at, wipe_at, hl]
  by_cases hi : i ∈ vs
  · by_cases h2 : i < τ.length
    · rw [if_pos ⟨hi, h2⟩, if_pos ⟨hi, h2⟩]
    · rw [if_neg (fun z => h2 z.2), if_neg (fun z => h2 z.2), List.getElem?_eq_none (by omega), List.getElem?_eq_none (by omega)]
  · rw [if_neg (fun z => hi z.1), if_neg (fun z => hi z.1)]
    exact h i hi
theorem Sl.setN {K : PySem.W.Frag} {B : Hp} {σ : L2.St} {δ : Dst} (s : Sl K B σ δ) (j : Nat) : Sl K B (σ.set j none) (δ.set j none) := by
  refine ⟨by simp [s.len], fun i d e => ?_⟩
  by_cases h : j = i
  · subst h
    by_cases hl : j < δ.length
    · rw [List.getElem?_set_self hl] at e; cases e
    · rw [List.getElem?_eq_none (by simpa using hl)] at e; cases e
  · rw [List.getElem?_set_ne h] at e ⊢
    exact s.at_ i d e
theorem Sl.wipe {K : PySem.W.Frag} {B : Hp} {σ : L2.St} {δ : Dst} (s : Sl K B σ δ) : ∀ vs, Sl K B (L2.wipe σ vs) (wipeD δ vs)
  | [] => s
  | v :: vs => (Sl.wipe s vs).setN v
abbrev DGc := D → Dst → (Dst → Prop) → Prop
/-- a comprehension's target: it sets slots of its own alone -/
def GcOk (K : PySem.W.Frag) (vs : List Nat) (g : TG) (gd : DGc) : Prop := ∀ (B H : Hp) (σ : L2.St) (δ : Dst) (v : V) (d : D) (k : Dst → Prop) (Q : L2.St → Hp → Prop), Sl K B (wipe σ vs) δ → Ex B H → RdD K B v d → gd d δ k →
  (∀ σ2 δ2, k δ2 → Sl K B σ2 δ2 → wipe σ2 vs = wipe σ vs → Q σ2 H) → g v (wipe σ vs) H Q
def gcN (j : Nat) : DGc := fun d δ k => k (δ.set j (some d))
theorem gc_name {K : PySem.W.Frag} {vs : List Nat} {j : Nat} (hj : j ∈ vs) : GcOk K vs (gName j) (gcN j) := fun B H σ δ v d k Q s e rd h q => by
  refine q _ _ h (s.set rd j) (wipe_same (by rw [List.length_set, wipe_length]) fun i hi => ?_)
  rw [List.getElem?_set_ne (show j ≠ i from fun z => hi (z ▸ hj)), wipe_at, if_neg (fun z => hi z.1)]
def setD (δ : Dst) : List Nat → List D → Dst
  | j :: js, d :: ds => setD (δ.set j (some d)) js ds
  | _, _ => δ
def gcT (js : List Nat) : DGc := fun d δ k => match d with
  | .tup ds => ds.length = js.length ∧ k (setD δ js ds)
  | _ => False
def dLc (di : DI) (g : DGc) (t : DT) (de : DE) (vs : List Nat) : DE := fun δ S k => di δ S fun ds S1 => ds.length < 100000 ∧ ∀ p, S1 p = none → ∃ I : Nat → List D → Sto → Prop, I 0 [] S1 ∧
  (∀ n d acc S', ds[n]? = some d → S' p = none → I n acc S' → g d (wipeD δ vs) fun δ2 => t δ2 (put S' p (.lst acc)) fun b S2 => if b = true then de δ2 S2 (fun y S3 => ∃ S4, S4 p = none ∧ S3 = put S4 p (.lst acc) ∧ I (n + 1) (acc ++ [y]) S4) else ∃ S4, S4 p = none ∧ S2 = put S4 p (.lst acc) ∧ I (n + 1) acc S4) ∧
  ∀ acc S', S' p = none → I ds.length acc S' → k (.list acc) S'
def dYes : DT := fun _ S k => k true S
section
variable {X : Cx} {K : PySem.W.Frag} {W : WXD}
theorem ptsOf {es : List Expr} {t u : TT} (h : PTs X es t) (k : ∀ σ H Q, u σ H Q → t σ H Q) : PTs X es u := ⟨fun pins s σ H Q I q => h.run pins s σ H Q I (k σ H Q q)⟩
theorem dts_nil : PTs X [] (lT K dYes) := ptsOf pts_nil fun σ H Q ⟨B, δ, S, k, s, r, h, q⟩ => q true S B H h (Ex.refl B) r
theorem dts_one {c : Expr} {t : DT} (h : PT X c (lT K t)) : PTs X [c] (lT K t) := pts_one h
theorem l_lc {di : DI} {g : TG} {gd : DGc} {t : DT} {de : DE} {vs : List Nat} (hg : GcOk K vs g gd) (σ : L2.St) (H : Hp) (Q : VK) : lE K (dLc di gd t de vs) σ H Q → tLc (lI K di) g (lT K t) (lE K de) vs σ H Q := fun ⟨B, δ, S, k, s, r, h, q⟩ =>
  ⟨B, δ, S, _, s, r, h, fun ds S1 B1 H1 J ⟨hlen, hp⟩ e1 r1 it => fun Dl hD => by
    have fr := (r1.fresh hD).2
    obtain ⟨I, h0, hs, hd⟩ := hp Dl fr
    refine ⟨fun i m H' => m = ds.length - i ∧ i ≤ ds.length ∧ ∃ B2 S2 acc, acc.length ≤ i ∧ S2 Dl = none ∧ Ex B1 B2 ∧ R K B2 (put S2 Dl (.lst acc)) H' ∧ I i acc S2, ⟨ds.length, rfl, Nat.zero_le _, B1, S1, [], Nat.le_refl _, fr, Ex.refl B1, r1.newS hD (.lst .nil), h0⟩, ?_⟩
    rintro i m H' ⟨rfl, hi, B2, S2, acc, hal, n2, e2, r2, hI⟩
    by_cases hlt : i < ds.length
    · refine .inr ⟨it.go i H' (e2.trans r2.ex) hlt, fun H3 => ∃ B3 S3 acc, acc.length ≤ i + 1 ∧ S3 Dl = none ∧ Ex B1 B3 ∧ R K B3 (put S3 Dl (.lst acc)) H3 ∧ I (i + 1) acc S3, fun H3 hn => ⟨ds.length - (i + 1), by omega, rfl, by omega, hn⟩, fun x H3 hy => ?_⟩
      obtain ⟨d, B3, hd', e3, r3, rd⟩ := it.yld i H' x H3 B2 _ e2 r2 hlt hy
      refine hg B3 H3 σ (wipeD δ vs) x d _ _ ((s.mono (e1.trans (e2.trans e3))).wipe vs) r3.ex rd (hs i d acc S2 hd' n2 hI) fun σ2 δ2 hk s2 hw => ⟨hw, ?_⟩
      refine ⟨B3, δ2, _, _, s2, r3, hk, fun b S4 B4 H4 h4 e4 r4 => ?_⟩
      have e14 : Ex B1 B4 := e2.trans (e3.trans e4)
      cases b with
      | false =>
        obtain ⟨S5, n5, rfl, hI5⟩ := h4
        exact ⟨B4, S5, acc, by omega, n5, e14, r4, hI5⟩
      | true =>
        refine ⟨B4, δ2, S4, _, s2.mono e4, r4, h4, fun y S5 v B5 H5 ⟨S6, n6, h6, hI6⟩ e5 r5 d5 => ?_⟩
        subst h6
        obtain ⟨xs, hx, rl⟩ := r5.lst put_same
        have r6 := r5.mut put_same (.lst (rl.append (.one d5)))
        rw [put_put] at r6
        exact ⟨xs, hx, sz_lt (by rw [rl.length]; omega), B5, S6, acc ++ [y], by simp; omega, n6, e14.trans e5, r6, hI6⟩
    · have ei : i = ds.length := by omega
      subst ei
      obtain ⟨B', e', r', rd⟩ := r2.freeze put_same
      rw [del_put n2] at r'
      exact .inl ⟨it.stop _ H' (e2.trans r2.ex) (Nat.le_refl _), q _ _ _ B' H' (hd acc S2 n2 hI) (e1.trans (e2.trans e')) r' rd⟩⟩
theorem de_lc {elt tg iter : Expr} {ifs : List Expr} {scope : Scope} {own : List (Str × Nat)} {pos : Pos} {di : DI} {g : TG} {gd : DGc} {t : DT} {de : DE} (hgc : GcOk K (own.map (·.2)) g gd) (hc : X.calm = true) (hN : X.N.Nodup) (hi : PI X tg iter (lI K di)) (ok : BlkOk X.N X.env.scope scope own)
    (hg : ∀ (s : Shared) (H : Hp) (C : Addr) (cl : List (Str × Addr)) (fp : List Addr), PG (X.blk s H scope (compEnvC scope cl C X.env) fp) tg g) (ht : ∀ (s : Shared) (H : Hp) (C : Addr) (cl : List (Str × Addr)) (fp : List Addr), PTs (X.blk s H scope (compEnvC scope cl C X.env) fp) ifs (lT K t))
    (he : ∀ (s : Shared) (H : Hp) (C : Addr) (cl : List (Str × Addr)) (fp : List Addr), PE (X.blk s H scope (compEnvC scope cl C X.env) fp) elt (lE K de)) (hs : ∀ x, foldedSetIterable iter X.env x = pure x := by intro _; rfl) :
    PE X (.ListComp elt [⟨tg, iter, ifs, 0⟩] scope pos) (lE K (dLc di gd t de (own.map (·.2)))) := peOf (pe_lc hc hN hi ok hg ht he hs) (l_lc hgc)
theorem ds_setLc {i : Nat} {y : Str} {py : Pos} {elt tg iter : Expr} {ifs : List Expr} {scope : Scope} {own : List (Str × Nat)} {pos spos : Pos} {di : DI} {g : TG} {gd : DGc} {t : DT} {de : DE} (hgc : GcOk K (own.map (·.2)) g gd) (hc : X.calm = true) (hN : X.N.Nodup) (hy : X.N[i]? = some y) (hyl : X.env.scope.names.lookup y = some .local)
    (hsw : swapsWith (.ListComp elt [⟨tg, iter, ifs, 0⟩] scope pos) (some (.Name y py)) spos.line X.env = pure true) (hi : PI X tg iter (lI K di)) (ok : BlkOk X.N X.env.scope scope own)
    (hg : ∀ (s : Shared) (H : Hp) (C : Addr) (cl : List (Str × Addr)) (fp : List Addr), PG (X.blk s H scope (compEnvC scope cl C X.env) fp) tg g) (ht : ∀ (s : Shared) (H : Hp) (C : Addr) (cl : List (Str × Addr)) (fp : List Addr), PTs (X.blk s H scope (compEnvC scope cl C X.env) fp) ifs (lT K t))
    (he : ∀ (s : Shared) (H : Hp) (C : Addr) (cl : List (Str × Addr)) (fp : List Addr), PE (X.blk s H scope (compEnvC scope cl C X.env) fp) elt (lE K de)) (hs : ∀ x, foldedSetIterable iter X.env x = pure x := by intro _; rfl) :
    PS X (.Assign [.Name y py] (.ListComp elt [⟨tg, iter, ifs, 0⟩] scope pos) spos) (lS K W (dSet (dLc di gd t de (own.map (·.2))) i)) := psOf (ps_setLc hc hN hy hyl hsw hi ok hg ht he hs) fun E σ H ⟨B, δ, S, D, s, r, h, l⟩ =>
  l_lc hgc σ H _ ⟨B, δ, S, _, s, r, h, fun x S1 v B1 H1 h1 e1 r1 d1 => l.nx _ S1 _ B1 H1 h1 e1 ((s.mono e1).set d1 i) r1⟩
end
/-- a comprehension that leaves the store: the list so far by what holds of it -/
def LcO (S : Sto) (p : Addr) (acc : List D) (Q : Prop) (S3 : Sto) : Prop := ∃ S4, S4 p = none ∧ S3 = put S4 p (.lst acc) ∧ S4 = S ∧ Q
theorem LcO.of {S : Sto} {p : Addr} {acc : List D} {Q : Prop} (hp : S p = none) (h : Q) : LcO S p acc Q (put S p (.lst acc)) := ⟨S, hp, rfl, rfl, h⟩
theorem lc_go {g : DGc} {t : DT} {de : DE} {vs : List Nat} {δ : Dst} {S : Sto} {k : DK} {ds : List D} (P : Nat → List D → Prop) (hl : ds.length < 100000) (h0 : P 0 [])
    (hs : ∀ p, S p = none → ∀ n d acc, ds[n]? = some d → P n acc → g d (wipeD δ vs) fun δ2 => t δ2 (put S p (.lst acc)) fun b S2 => if b = true then de δ2 S2 (fun y S3 => LcO S p acc (P (n + 1) (acc ++ [y])) S3) else LcO S p acc (P (n + 1) acc) S2) (hd : ∀ acc, P ds.length acc → k (.list acc) S) :
    ds.length < 100000 ∧ ∀ p, S p = none → ∃ I : Nat → List D → Sto → Prop, I 0 [] S ∧
  (∀ n d acc S', ds[n]? = some d → S' p = none → I n acc S' → g d (wipeD δ vs) fun δ2 => t δ2 (put S' p (.lst acc)) fun b S2 => if b = true then de δ2 S2 (fun y S3 => ∃ S4, S4 p = none ∧ S3 = put S4 p (.lst acc) ∧ I (n + 1) (acc ++ [y]) S4) else ∃ S4, S4 p = none ∧ S2 = put S4 p (.lst acc) ∧ I (n + 1) acc S4) ∧
  ∀ acc S', S' p = none → I ds.length acc S' → k (.list acc) S' := by
  refine ⟨hl, fun p hp => ⟨fun n acc S' => S' = S ∧ P n acc, ⟨rfl, h0⟩, ?_, ?_⟩⟩
  · rintro n d acc S' hd' _ ⟨rfl, hP⟩
    exact hs p hp n d acc hd' hP
  · rintro acc S' _ ⟨rfl, hP⟩
    exact hd acc hP
end DL

set_option Elab.async false
set_option linter.all false
set_option maxRecDepth 100000
namespace DL
open PySem L2 Evl EX
/-! ### operators -/
def oI (f : Int → Int → D) : DR2 := fun x y S k => match x, y with
  | .int i, .int j => k (f i j) S
  | _, _ => False
def oIc (C : Int → Int → Prop) (f : Int → Int → D) : DR2 := fun x y S k => match x, y with
  | .int i, .int j => C i j ∧ k (f i j) S
  | _, _ => False
def oS (f : Str → Str → D) : DR2 := fun x y S k => match x, y with
  | .str i, .str j => k (f i j) S
  | _, _ => False
section
variable {K : PySem.W.Frag}
theorem si_I {g : Int → Int → V} {f : Int → Int → D} (h : ∀ i j B, RdD K B (g i j) (f i j)) : Sim2 K (rI0 g) (oI f) := fun B S H v w x y k Q r rx ry h1 q => by
  unfold oI at h1
  split at h1
  · rename_i i j
    exact ⟨i, j, rd_int rx, rd_int ry, q _ S _ B H h1 (Ex.refl B) r (h i j B)⟩
  · exact h1.elim
theorem si_Ic {C : Int → Int → Prop} {g : Int → Int → V} {f : Int → Int → D} (h : ∀ i j B, RdD K B (g i j) (f i j)) : Sim2 K (rI C g) (oIc C f) := fun B S H v w x y k Q r rx ry h1 q => by
  unfold oIc at h1
  split at h1
  · rename_i i j
    exact ⟨i, j, rd_int rx, rd_int ry, h1.1, q _ S _ B H h1.2 (Ex.refl B) r (h i j B)⟩
  · exact h1.elim
theorem si_add : Sim2 K (rI0 fun i j => .int (i + j)) (oI fun i j => .int (i + j)) := si_I fun _ _ _ => .int _
theorem si_sub : Sim2 K (rI0 fun i j => .int (i - j)) (oI fun i j => .int (i - j)) := si_I fun _ _ _ => .int _
theorem si_mul : Sim2 K (rI CMul fun i j => .int (i * j)) (oIc CMul fun i j => .int (i * j)) := si_Ic fun _ _ _ => .int _
theorem si_fdiv : Sim2 K (rI CDiv fun i j => .int (i / j)) (oIc CDiv fun i j => .int (i / j)) := si_Ic fun _ _ _ => .int _
theorem si_mod : Sim2 K (rI (fun _ j => 0 < j) fun i j => .int (i % j)) (oIc (fun _ j => 0 < j) fun i j => .int (i % j)) := si_Ic fun _ _ _ => .int _
theorem si_pow : Sim2 K (rI CPow fun i j => .int (i ^ j.toNat)) (oIc CPow fun i j => .int (i ^ j.toNat)) := si_Ic fun _ _ _ => .int _
theorem si_lt : Sim2 K (rI0 fun i j => .bl (decide (i < j))) (oI fun i j => .bl (decide (i < j))) := si_I fun _ _ _ => .bl _
theorem si_gt : Sim2 K (rI0 fun i j => .bl (decide (j < i))) (oI fun i j => .bl (decide (j < i))) := si_I fun _ _ _ => .bl _
def oAddS : DR2 := fun x y S k => match x, y with
  | .str i, .str j => i.length + j.length ≤ 100000 ∧ k (.str (i ++ j)) S
  | _, _ => False
def oMulS : DR2 := fun x y S k => match x, y with
  | .str i, .int n => i.length ≤ 16 ∧ -(2 ^ 63 : Int) ≤ n ∧ n ≤ 1048576 ∧ k (.str (Txt.mul i n)) S
  | _, _ => False
/-- one sign in a text -/
def oSg (neg : Bool) : DR2 := fun x y S k => match y with
  | .str z => ∃ c : Nat, x = .str ⟨#[c]⟩ ∧ k (.bl (if neg then !decide (c ∈ z.cps.toList) else decide (c ∈ z.cps.toList))) S
  | _ => False
/-- is None -/
def isNon : D → Bool
  | .non => true
  | _ => false
def oIsN (neg : Bool) : DR2 := fun x y S k => match y with
  | .non => k (.bl (if neg then !isNon x else isNon x)) S
  | _ => False
theorem isNon_iff {B : Hp} {v : V} {x : D} (h : RdD K B v x) : decide (v = .non) = isNon x := by
  cases h <;> simp [isNon]
theorem si_isN : Sim2 K (fun x y H Q => y = .non ∧ Q (.bl (decide (x = .non))) H) (oIsN false) := fun B S H v w x y k Q r rx ry h1 q => by
  unfold oIsN at h1
  split at h1
  · exact ⟨rd_non ry, by rw [isNon_iff rx]; exact q _ S _ B H h1 (Ex.refl B) r (.bl _)⟩
  · exact h1.elim
/-- == of scalars -/
def sEq : D → D → Option Bool
  | .int i, .int j => some (decide (i = j))
  | .str a, .str b => some (decide (a = b))
  | .bl a, .bl b => some (decide (a = b))
  | .non, .non => some true
  | .non, .int _ => some false
  | .non, .str _ => some false
  | .non, .bl _ => some false
  | .int _, .non => some false
  | .str _, .non => some false
  | .bl _, .non => some false
  | .int _, .str _ => some false
  | .str _, .int _ => some false
  | .bl _, .str _ => some false
  | .str _, .bl _ => some false
  | _, _ => none
theorem sEq_ok {B : Hp} {v w : V} {x y : D} {b : Bool} (h : sEq x y = some b) (rx : RdD K B v x) (ry : RdD K B w y) : scal v w = true ∧ decide (v = w) = b := by
  cases rx <;> cases ry <;> first | (simp [sEq] at h; done) | (simp only [sEq, Option.some.injEq] at h; subst h; exact ⟨rfl, by simp⟩)
def oEq (neg : Bool) : DR2 := fun x y S k => match sEq x y with
  | some b => k (.bl (if neg then !b else b)) S
  | none => False
theorem si_eq : Sim2 K rEq (oEq false) := fun B S H v w x y k Q r rx ry h1 q => by
  unfold oEq at h1
  split at h1
  · rename_i b e
    obtain ⟨h2, h3⟩ := sEq_ok e rx ry
    exact ⟨h2, by rw [h3]; exact q _ S _ B H h1 (Ex.refl B) r (.bl _)⟩
  · exact h1.elim
/-! what a sequence is -/
def SeqD (S : Sto) (x : D) (ds : List D) : Prop := match x with
  | .list es => es = ds
  | .scr es => es = ds
  | .tup es => es = ds
  | .ref a => S a = some (.lst ds)
  | _ => False
theorem seqD_ok {B H : Hp} {S : Sto} {v : V} {x : D} {ds : List D} (h : SeqD S x ds) (r : R K B S H) (rx : RdD K B v x) : ∃ p xs, v = .ref p ∧ (SqL K H p xs ∨ SqT K H p xs) ∧ RdL K B xs ds := by
  unfold SeqD at h
  split at h
  · subst h
    obtain ⟨a, xs, rfl, ha, rl⟩ := rd_list rx
    exact ⟨a, xs, rfl, .inl (sq_of (r.ex _ _ ha)), rl⟩
  · subst h
    obtain ⟨a, xs, rfl, ha, rl⟩ := rd_scr rx
    exact ⟨a, xs, rfl, .inl (ex_l r.ex ha), rl⟩
  · subst h
    obtain ⟨a, xs, rfl, ha, rl⟩ := rd_tup rx
    exact ⟨a, xs, rfl, .inr (ex_t r.ex ha), rl⟩
  · obtain ⟨xs, ha, rl⟩ := r.lst h
    exact ⟨_, xs, rd_ref rx, .inl (sq_of ha), rl⟩
  · exact h.elim
theorem rdl_atI {B : Hp} {xs : List V} {ds : List D} {i : Int} {d : D} (h : RdL K B xs ds) (e : atI ds i = some d) : ∃ v, atI xs i = some v ∧ RdD K B v d := by
  unfold atI at e ⊢
  rw [h.length]
  obtain ⟨j, hj, e⟩ := Option.bind_eq_some_iff.mp e
  obtain ⟨v, hv, rd⟩ := h.get e
  exact ⟨v, by rw [hj]; exact hv, rd⟩
/-- x[i] -/
def oIx : DR2 := fun x y S k => match y with
  | .int i => match x with
    | .str z => ∃ c, z.length ≤ 100000 ∧ atI z.cps.toList i = some c ∧ k (.str ⟨#[c]⟩) S
    | x => ∃ ds d, SeqD S x ds ∧ atI ds i = some d ∧ k d S
  | _ => False
theorem si_ix {X : Cx} (hk : X.K = K) : Sim2 K (L2.rIx X.K) oIx := fun B S H v w x y k Q r rx ry h1 q => by
  subst hk
  unfold oIx at h1
  split at h1
  · rename_i i
    rw [rd_int ry]
    split at h1
    · rename_i z
      obtain ⟨c, hz, hc, h1⟩ := h1
      rw [rd_str rx]
      exact .inr (.inr ⟨z, i, c, rfl, rfl, sz_of hz, hc, q _ S _ B H h1 (Ex.refl B) r (.str _)⟩)
    · obtain ⟨ds, d, hs, hd, h1⟩ := h1
      obtain ⟨p, xs, rfl, hp, rl⟩ := seqD_ok hs r rx
      obtain ⟨v, hv, rd⟩ := rdl_atI rl hd
      rcases hp with hp | hp
      · exact .inl ⟨p, xs, i, v, rfl, rfl, hp, hv, q _ S _ B H h1 (Ex.refl B) r rd⟩
      · exact .inr (.inl ⟨p, xs, i, v, rfl, rfl, hp, hv, q _ S _ B H h1 (Ex.refl B) r rd⟩)
  · exact h1.elim
/-- flat things -/
def toV : D → V
  | .non => .non
  | .bl b => .bl b
  | .int i => .int i
  | .str x => .str x
  | _ => .ty ""
def flatD : D → Bool
  | .non => true
  | .bl _ => true
  | .int _ => true
  | .str _ => true
  | _ => false
theorem toV_ok {B : Hp} {v : V} {x : D} (h : RdD K B v x) (f : flatD x = true) : v = toV x ∧ flatV v = true := by
  cases h <;> first | exact ⟨rfl, rfl⟩ | cases f
theorem toV_all {B : Hp} : ∀ {vs : List V} {ds : List D}, RdL K B vs ds → ds.all flatD = true → vs = ds.map toV ∧ vs.all flatV = true
  | _, _, .nil, _ => ⟨rfl, rfl⟩
  | _, _, .cons h r, f => by
    rw [List.all_cons, Bool.and_eq_true] at f
    obtain ⟨h1, h2⟩ := toV_ok h f.1
    obtain ⟨h3, h4⟩ := toV_all r f.2
    exact ⟨by rw [h1, h3]; rfl, by rw [List.all_cons, h2, h4]; rfl⟩
def inD (x : D) (ds : List D) : Bool := inV (toV x) (ds.map toV)
def oIn (neg : Bool) : DR2 := fun x y S k => ∃ ds, SeqD S y ds ∧ flatD x = true ∧ ds.all flatD = true ∧ k (.bl (if neg then !inD x ds else inD x ds)) S
theorem si_in (neg : Bool) : Sim2 K (rIn K neg) (oIn neg) := fun B S H v w x y k Q r rx ry h1 q => by
  obtain ⟨ds, hs, f1, f2, h1⟩ := h1
  obtain ⟨p, xs, rfl, hp, rl⟩ := seqD_ok hs r ry
  obtain ⟨h2, h3⟩ := toV_ok rx f1
  obtain ⟨h4, h5⟩ := toV_all rl f2
  refine ⟨p, xs, rfl, hp, h3, h5, ?_⟩
  rw [h2, h4]
  exact q _ S _ B H h1 (Ex.refl B) r (.bl _)
/-- list + list, tuple + tuple -/
def oCat : DR2 := fun x y S k => match x, y with
  | .list a, .list b => a.length + b.length ≤ 100000 ∧ k (.list (a ++ b)) S
  | _, _ => False
theorem si_cat : Sim2 K rCat oCat := fun B S H v w x y k Q r rx ry h1 q => by
  unfold oCat at h1
  split at h1
  · obtain ⟨p, xs, rfl, hp, rl⟩ := rd_list rx
    obtain ⟨p2, ys, rfl, hp2, rl2⟩ := rd_list ry
    refine ⟨p, p2, xs, ys, rfl, rfl, r.ex _ _ hp, r.ex _ _ hp2, sz_of (by rw [rl.length, rl2.length]; exact h1.1), fun z hz => ?_⟩
    have n := r.new (o := .lst (xs ++ ys)) hz
    exact q _ S _ _ _ h1.2 n.2 n.1 (.lst upd_same ((rl.append rl2).mono n.2))
  · exact h1.elim
def oCatT : DR2 := fun x y S k => match x, y with
  | .tup a, .tup b => a ≠ [] ∧ a.length + b.length ≤ 100000 ∧ k (.tup (a ++ b)) S
  | _, _ => False
/-! slices -/
def cutD (xs : List D) (lo hi : Option Int) : List D := (xs.drop (HT.sIx xs.length 0 lo)).take (HT.sIx xs.length xs.length hi - HT.sIx xs.length 0 lo)
theorem rdl_cut {B : Hp} {xs : List V} {ds : List D} (h : RdL K B xs ds) (lo hi : Option Int) : RdL K B (cutV xs lo hi) (cutD ds lo hi) := by
  unfold cutV cutD
  rw [h.length]
  exact (h.drop _).take _
end
abbrev DO := Dst → Sto → (Option Int → Sto → Prop) → Prop
def lO (K : PySem.W.Frag) (d : DO) : TO := fun σ H Q => ∃ B δ S k, Sl K B σ δ ∧ R K B S H ∧ d δ S k ∧ ∀ o S' B' H', k o S' → Ex B B' → R K B' S' H' → Q o H'
def dNoP : DO := fun _ S k => k none S
def dPart (de : DE) : DO := fun δ S k => de δ S fun x S1 => match x with
  | .int i => k (some i) S1
  | _ => False
section
variable {X : Cx} {K : PySem.W.Frag} {e : Expr} {de : DE} {lo hi : Option Expr} {dl dh : DO}
theorem poOf {t u : TO} {lo : Option Expr} (h : PO X lo t) (k : ∀ σ H Q, u σ H Q → t σ H Q) : PO X lo u := by
  obtain ⟨r⟩ := h
  exact ⟨fun pins s σ H Q I q => r pins s σ H Q I (k σ H Q q)⟩
theorem do_none : PO X none (lO K dNoP) := poOf po_none fun σ H Q ⟨B, δ, S, k, s, r, h, q⟩ => q none S B H h (Ex.refl B) r
theorem do_some (h : PE X e (lE K de)) : PO X (some e) (lO K (dPart de)) := poOf (po_some h) fun σ H Q ⟨B, δ, S, k, s, r, h, q⟩ => ⟨B, δ, S, _, s, r, h, fun x S1 v B1 H1 h1 e1 r1 d1 => by
  split at h1
  · exact ⟨_, rd_int d1, q _ S1 B1 H1 h1 e1 r1⟩
  · exact h1.elim⟩
def dSl (rd : D → Option Int → Option Int → Sto → DK → Prop) (de : DE) (dl dh : DO) : DE := fun δ S k => de δ S fun x S1 => dl δ S1 fun l S2 => dh δ S2 fun u S3 => rd x l u S3 k
def SimS (K : PySem.W.Frag) (r : V → Option Int → Option Int → Hp → VK → Prop) (rd : D → Option Int → Option Int → Sto → DK → Prop) : Prop := ∀ (B : Hp) (S : Sto) (H : Hp) (v : V) (x : D) (l u : Option Int) (k : DK) (Q : VK), R K B S H → RdD K B v x → rd x l u S k →
  (∀ z S' u B' H', k z S' → Ex B B' → R K B' S' H' → RdD K B' u z → Q u H') → r v l u H Q
theorem de_slice {r : V → Option Int → Option Int → Hp → VK → Prop} {rd : D → Option Int → Option Int → Sto → DK → Prop} {p2 pos : Pos} (hr : SlR X r) (hs : SimS K r rd) (he : PE X e (lE K de)) (hl : PO X lo (lO K dl)) (hu : PO X hi (lO K dh)) : PE X (.Subscript e (.Slice lo hi none p2) pos) (lE K (dSl rd de dl dh)) :=
  peOf (pe_slice hr he hl hu) fun σ H Q ⟨B, δ, S, k, s, r, h, q⟩ => ⟨B, δ, S, _, s, r, h, fun x S1 v B1 H1 h1 e1 r1 d1 => ⟨B1, δ, S1, _, s.mono e1, r1, h1, fun l S2 B2 H2 h2 e2 r2 => ⟨B2, δ, S2, _, s.mono (e1.trans e2), r2, h2, fun u S3 B3 H3 h3 e3 r3 =>
    hs B3 S3 H3 v x l u k Q r3 (d1.mono (e2.trans e3)) h3 fun z S' w B' H' hk e' r' d' => q z S' w B' H' hk (e1.trans (e2.trans (e3.trans e'))) r' d'⟩⟩⟩
def oSlL : D → Option Int → Option Int → Sto → DK → Prop := fun x l u S k => match x with
  | .list ds => k (.list (cutD ds l u)) S
  | .scr ds => k (.list (cutD ds l u)) S
  | .ref a => ∃ ds, S a = some (.lst ds) ∧ k (.list (cutD ds l u)) S
  | _ => False
theorem si_slL : SimS K (rSlL K) oSlL := fun B S H v x l u k Q r rx h1 q => by
  have main : ∀ ds, SeqD S x ds → (∃ p xs, v = .ref p ∧ SqL K H p xs ∧ RdL K B xs ds) → k (.list (cutD ds l u)) S → rSlL K v l u H Q := fun ds hs ⟨p, xs, hv, hp, rl⟩ h1 =>
    ⟨p, xs, hv, hp, fun z hz => by
      have n := r.new (o := .lst (cutV xs l u)) hz
      exact q _ S _ _ _ h1 n.2 n.1 (.lst upd_same ((rdl_cut rl l u).mono n.2))⟩
  unfold oSlL at h1
  split at h1
  · obtain ⟨a, xs, rfl, ha, rl⟩ := rd_list rx
    exact main _ rfl ⟨a, xs, rfl, sq_of (r.ex _ _ ha), rl⟩ h1
  · obtain ⟨a, xs, rfl, ha, rl⟩ := rd_scr rx
    exact main _ rfl ⟨a, xs, rfl, ex_l r.ex ha, rl⟩ h1
  · obtain ⟨ds, hs, h1⟩ := h1
    obtain ⟨xs, ha, rl⟩ := r.lst hs
    exact main ds hs ⟨_, xs, rd_ref rx, sq_of ha, rl⟩ h1
  · exact h1.elim
def oSlS : D → Option Int → Option Int → Sto → DK → Prop := fun x l u S k => match x with
  | .str z => z.length ≤ 100000 ∧ k (.str (cutS z l u)) S
  | _ => False
end
end DL

set_option Elab.async false
set_option linter.all false
set_option maxRecDepth 100000
namespace DL
open PySem L2 Evl EX
/-! ### calls of built-ins -/
section
variable {K : PySem.W.Frag}
theorem rdl1 {B : Hp} {vs : List V} {x : D} (h : RdL K B vs [x]) : ∃ v, vs = [v] ∧ RdD K B v x := by
  cases h with
  | cons h r => cases r; exact ⟨_, rfl, h⟩
theorem rdl2 {B : Hp} {vs : List V} {x y : D} (h : RdL K B vs [x, y]) : ∃ v w, vs = [v, w] ∧ RdD K B v x ∧ RdD K B w y := by
  cases h with
  | cons h r =>
    obtain ⟨w, rfl, hw⟩ := rdl1 r
    exact ⟨_, w, rfl, h, hw⟩
/-- len -/
def oLen : List D → Sto → DK → Prop := fun xs S k => match xs with
  | [.str z] => z.length ≤ 100000 ∧ k (.int z.length) S
  | [x] => ∃ ds, SeqD S x ds ∧ k (.int ds.length) S
  | _ => False
theorem si_len {X : Cx} (hk : X.K = K) : SimC K (fun xs H Q => ∃ x n, xs = [x] ∧ LenV X.K x H n ∧ Q (.int n) H) oLen := fun B S H vs xs k Q r rx h1 q => by
  subst hk
  unfold oLen at h1
  split at h1
  · rename_i z
    obtain ⟨v, rfl, rv⟩ := rdl1 rx
    cases rd_str rv
    exact ⟨_, z.length, rfl, ⟨sz_of h1.1, rfl⟩, q _ S _ B H h1.2 (Ex.refl B) r (.int _)⟩
  · rename_i x hx
    obtain ⟨v, rfl, rv⟩ := rdl1 rx
    obtain ⟨ds, hs, h1⟩ := h1
    obtain ⟨p, xs, rfl, hp, rl⟩ := seqD_ok hs r rv
    refine ⟨_, xs.length, rfl, ?_, by rw [rl.length]; exact q _ S _ B H h1 (Ex.refl B) r (.int _)⟩
    rcases hp with hp | hp
    · exact .inl ⟨xs, hp, rfl⟩
    · exact .inr ⟨xs, hp, rfl⟩
  · exact h1.elim
def oLenD : List D → Sto → DK → Prop := fun xs S k => match xs with
  | [.ref a] => ∃ kvs, S a = some (.dct kvs) ∧ k (.int kvs.length) S
  | _ => False
theorem rdkv_len {κ : Type} {B : Hp} : ∀ {l : List (κ × V)} {m : List (κ × D)}, RdKV K B l m → l.length = m.length := fun h => Paired.length h
def oI1 (f : Int → D) : List D → Sto → DK → Prop := fun xs S k => match xs with
  | [.int i] => k (f i) S
  | _ => False
def oI2 (f : Int → Int → D) : List D → Sto → DK → Prop := fun xs S k => match xs with
  | [.int i, .int j] => k (f i j) S
  | _ => False
theorem si_abs : SimC K (fun xs H Q => ∃ i, xs = [.int i] ∧ Q (.int (if i < 0 then -i else i)) H) (oI1 fun i => .int (if i < 0 then -i else i)) := fun B S H vs xs k Q r rx h1 q => by
  unfold oI1 at h1
  split at h1
  · obtain ⟨v, rfl, rv⟩ := rdl1 rx
    cases rd_int rv
    exact ⟨_, rfl, q _ S _ B H h1 (Ex.refl B) r (.int _)⟩
  · exact h1.elim
def oInt1 : List D → Sto → DK → Prop := fun xs S k => match xs with
  | [.int i] => k (.int i) S
  | [.bl b] => k (.int (if b then 1 else 0)) S
  | _ => False
def oIntS : List D → Sto → DK → Prop := fun xs S k => match xs with
  | [.str a] => ∃ n, PySem.intText? a = some n ∧ a.length ≤ 640 ∧ k (.int n) S
  | _ => False
def oStr : List D → Sto → DK → Prop := fun xs S k => match xs with
  | [.int i] => i.natAbs.log2 < 1920 ∧ k (.str (toString i)) S
  | [.str a] => k (.str a) S
  | _ => False
/-- list(xs): a new list, told once for all; list(xs) that will change -/
def oList : List D → Sto → DK → Prop := fun xs S k => match xs with
  | [x] => ∃ ds, SeqD S x ds ∧ k (.list ds) S
  | _ => False
theorem si_list : SimC K (rListS K) oList := fun B S H vs xs k Q r rx h1 q => by
  unfold oList at h1
  split at h1
  · obtain ⟨v, rfl, rv⟩ := rdl1 rx
    obtain ⟨ds, hs, h1⟩ := h1
    obtain ⟨p, ys, rfl, hp, rl⟩ := seqD_ok hs r rv
    refine ⟨p, ys, rfl, hp, fun l hl => ?_⟩
    have n := r.new (o := .lst ys) hl
    exact q _ S _ _ _ h1 n.2 n.1 (.lst upd_same (rl.mono n.2))
  · exact h1.elim
def oListN : List D → Sto → DK → Prop := fun xs S k => match xs with
  | [x] => ∃ ds, SeqD S x ds ∧ ∀ p, S p = none → k (.ref p) (put S p (.lst ds))
  | _ => False
theorem si_listN : SimC K (rListS K) oListN := fun B S H vs xs k Q r rx h1 q => by
  unfold oListN at h1
  split at h1
  · obtain ⟨v, rfl, rv⟩ := rdl1 rx
    obtain ⟨ds, hs, h1⟩ := h1
    obtain ⟨p, ys, rfl, hp, rl⟩ := seqD_ok hs r rv
    exact ⟨p, ys, rfl, hp, fun l hl => q _ _ _ B _ (h1 l (r.fresh hl).2) (Ex.refl B) (r.newS hl (.lst rl)) (.ref l)⟩
  · exact h1.elim
def oTuple : List D → Sto → DK → Prop := fun xs S k => match xs with
  | [x] => ∃ ds, SeqD S x ds ∧ k (.tup ds) S
  | _ => False
/-! any, all, sum over lists -/
theorem rdl_of_map {α : Type} {B : Hp} {f : α → D} {g : α → V} (h : ∀ v a, RdD K B v (f a) → v = g a) : ∀ {vs : List V} (as : List α), RdL K B vs (as.map f) → vs = as.map g
  | _, [], .nil => rfl
  | _, a :: as, .cons hd r => by rw [h _ a hd, rdl_of_map h as r]; rfl
def oAny : List D → Sto → DK → Prop := fun xs S k => match xs with
  | [.list ds] => ∃ bs : List Bool, ds = bs.map D.bl ∧ k (.bl (bs.any id)) S
  | _ => False
def oAll : List D → Sto → DK → Prop := fun xs S k => match xs with
  | [.list ds] => ∃ bs : List Bool, ds = bs.map D.bl ∧ k (.bl (bs.all id)) S
  | _ => False
def oSum : List D → Sto → DK → Prop := fun xs S k => match xs with
  | [.list ds] => ∃ ns : List Int, ds = ns.map D.int ∧ k (.int ns.sum) S
  | _ => False
/-! sorted -/
def oSortI : List D → Sto → DK → Prop := fun xs S k => match xs with
  | [x] => ∃ ns : List Int, SeqD S x (ns.map D.int) ∧ (∀ ds, x ≠ .tup ds) ∧ ∀ ms : List Int, ms.Perm ns → ms.Pairwise (· ≤ ·) → k (.list (ms.map D.int)) S
  | _ => False
theorem seqL_ok {B H : Hp} {S : Sto} {v : V} {x : D} {ds : List D} (h : SeqD S x ds) (ht : ∀ ds, x ≠ .tup ds) (r : R K B S H) (rx : RdD K B v x) : ∃ p xs, v = .ref p ∧ SqL K H p xs ∧ RdL K B xs ds := by
  unfold SeqD at h
  split at h
  · subst h
    obtain ⟨a, xs, rfl, ha, rl⟩ := rd_list rx
    exact ⟨a, xs, rfl, sq_of (r.ex _ _ ha), rl⟩
  · subst h
    obtain ⟨a, xs, rfl, ha, rl⟩ := rd_scr rx
    exact ⟨a, xs, rfl, ex_l r.ex ha, rl⟩
  · exact absurd rfl (ht _)
  · obtain ⟨xs, ha, rl⟩ := r.lst h
    exact ⟨_, xs, rd_ref rx, sq_of ha, rl⟩
  · exact h.elim
def oSortS : List D → Sto → DK → Prop := fun xs S k => match xs with
  | [x] => ∃ ns : List Str, SeqD S x (ns.map D.str) ∧ ns.length < 64 ∧ (∀ ds, x ≠ .tup ds) ∧ ∀ ms : List Str, ms.Perm ns → PyProof.Rows.sortedS ms = true → k (.list (ms.map D.str)) S
  | _ => False
/-! isinstance -/
def tyD (S : Sto) : D → Option String
  | .non => some "NoneType"
  | .bl _ => some "bool"
  | .int _ => some "int"
  | .str _ => some "str"
  | .list _ => some "list"
  | .scr _ => some "list"
  | .tup _ => some "tuple"
  | .ref a => match S a with
    | some (.lst _) => some "list"
    | some (.dct _) => some "dict"
    | _ => none
  | .ty _ => none
def isB (t c : String) : Bool := t == c || (t == "bool" && c == "int")
def Ts : List String := ["NoneType", "bool", "int", "str", "list", "tuple", "dict"]
def Cs : List String := ["bool", "int", "str", "list", "tuple", "dict"]
theorem isB_ok : ∀ t ∈ Ts, ∀ c ∈ Cs, kitB t c = some (isB t c) := by decide +kernel
theorem tyD_mem {S : Sto} {x : D} {t : String} (h : tyD S x = some t) : t ∈ Ts := by
  unfold tyD at h
  split at h <;> first | (cases h; decide) | (split at h <;> first | (cases h; decide) | cases h) | cases h
theorem tyD_ok {B H : Hp} {S : Sto} {v : V} {x : D} {t : String} (h : tyD S x = some t) (r : R K B S H) (rx : RdD K B v x) : TyX K H v (.type t) := by
  cases rx with
  | non => cases h; exact .base .non
  | bl b => cases h; exact .base (.bl b)
  | int i => cases h; exact .base (.int i)
  | str z => cases h; exact .base (.str z)
  | ty n => cases h
  | lst ha rl => cases h; exact .base (.lst (r.ex _ _ ha))
  | tup ha rl =>
    cases h
    rcases ex_t r.ex ha with (ha | ⟨o, ha⟩) | ⟨o, its, n, h1, h2, _⟩
    · exact .base (.tup ha)
    · exact .fTuple ha
    · exact .kTuple h1 h2
  | scr ha rl =>
    cases h
    rcases ex_l r.ex ha with (ha | ⟨o, ha⟩) | ⟨o, its, n, h1, h2, _⟩
    · exact .base (.lst ha)
    · exact .base (.frz ha)
    · exact .kList h1 h2
  | ref a =>
    simp only [tyD] at h
    split at h
    · rename_i ds e
      cases h
      obtain ⟨xs, ha, _⟩ := r.lst e
      exact .base (.lst ha)
    · rename_i ds e
      cases h
      obtain ⟨xs, ha, _⟩ := r.dct e
      exact .base (.dK ha)
    · cases h
def oIsi : List D → Sto → DK → Prop := fun xs S k => match xs with
  | [x, .ty c] => ∃ t, tyD S x = some t ∧ c ∈ Cs ∧ k (.bl (isB t c)) S
  | _ => False
theorem clIsi' {X : Cx} (h : X.K = K := by rfl) : CallR X (.builtin "isinstance") (rIsi K) := h ▸ call_isi
theorem si_isi : SimC K (rIsi K) oIsi := fun B S H vs xs k Q r rx h1 q => by
  unfold oIsi at h1
  split at h1
  · rename_i x c
    obtain ⟨v, w, rfl, rv, rw'⟩ := rdl2 rx
    obtain ⟨t, ht, hc, h1⟩ := h1
    have hw : w = .ty c := by cases rw'; rfl
    subst hw
    exact ⟨v, .ty c, .type t, .type c, isB t c, rfl, .ty c, tyD_ok ht r rv, kit_ty (isB_ok t (tyD_mem ht) c hc), q _ S _ B H h1 (Ex.refl B) r (.bl _)⟩
  · exact h1.elim
def dIsiT (c1 c2 : String) (de : DE) : DE := fun δ S k => de δ S fun x S1 => ∃ t, tyD S1 x = some t ∧ c1 ∈ Cs ∧ c2 ∈ Cs ∧ k (.bl (isB t c1 || isB t c2)) S1
end
end DL

set_option Elab.async false
set_option linter.all false
set_option maxRecDepth 100000
namespace DL
open PySem L2 Evl EX
/-! ### methods of lists and texts -/
abbrev DM := D → List D → Sto → DK → Prop
def SimM (K : PySem.W.Frag) (r : V → List V → Hp → VK → Prop) (rd : DM) : Prop := ∀ (B : Hp) (S : Sto) (H : Hp) (v : V) (x : D) (vs : List V) (xs : List D) (k : DK) (Q : VK), R K B S H → RdD K B v x → RdL K B vs xs → rd x xs S k →
  (∀ z S' u B' H', k z S' → Ex B B' → R K B' S' H' → RdD K B' u z → Q u H') → r v vs H Q
/-- a method of a list -/
def IsL (S : Sto) : D → Prop
  | .ref a => ∃ ds, S a = some (.lst ds)
  | .list _ => True
  | .scr _ => True
  | _ => False
theorem isL_ok {K : PySem.W.Frag} {B H : Hp} {S : Sto} {v : V} {x : D} (h : IsL S x) (r : R K B S H) (rx : RdD K B v x) : tyV K "list" v H := by
  cases rx with
  | ref a =>
    obtain ⟨ds, h⟩ := h
    obtain ⟨xs, ha, _⟩ := r.lst h
    exact .inl ⟨rfl, xs, sq_of ha⟩
  | lst ha rl => exact .inl ⟨rfl, _, sq_of (r.ex _ _ ha)⟩
  | scr ha rl => exact .inl ⟨rfl, _, ex_l r.ex ha⟩
  | _ => exact h.elim
def dML (rd : DM) (do' : DE) (da : DA) : DE := fun δ S k => do' δ S fun x S1 => IsL S1 x ∧ da δ S1 fun xs S2 => rd x xs S2 k
def dMS (rd : DM) (do' : DE) (da : DA) : DE := fun δ S k => do' δ S fun x S1 => match x with
  | .str z => da δ S1 fun xs S2 => rd (.str z) xs S2 k
  | _ => False
section
variable {X : Cx} {K : PySem.W.Frag} {W : WXD} {o e : Expr} {es : List Expr} {dO : DE} {da : DA} {name : Str} {apos cpos : Pos} {id : String} {r : V → List V → Hp → VK → Prop} {rd : DM}
theorem de_ml (slot : Slot "list" name id) (hty : typeOf (.builtin id) = pure (.type "method_descriptor")) (hm : MtR X id r) (hs' : SimM K r rd) (ho : PE X o (lE K dO)) (ha : PA X (e :: es) (lA K da))
    (hbase : attributeBase o name X.env (eval o X.env) = eval o X.env := by rfl)
    (hfew : ((backTo cpos (starEach (e :: es) X.env)).all (fun x => !x.1) && (backToKw cpos (keywordEach [] X.env)).all (fun x => x.1.isSome)
      && decide ((e :: es).length + ([] : List Keyword).length + (if ([] : List Keyword).isEmpty then 0 else 1) < 30)) = true := by rfl)
    (hline : (apos.endLine == cpos.line) = true := by rfl) (hs : starEach (e :: es) X.env = (false, eval e X.env) :: starEach es X.env := by rfl) (hplain : (backTo cpos (starEach es X.env)).any (·.1) = false := by rfl) (h : X.K = K := by rfl) :
    PE X (.Call (.Attribute o name apos) (e :: es) [] cpos) (lE K (dML rd dO da)) := peOf (peBm (K := K) PySem.F.plainAttrs_list slot hty hm ho ha hbase hfew hline hs hplain h) fun σ H Q ⟨B, δ, S, k, s, r, h, q⟩ =>
  ⟨B, δ, S, _, s, r, h, fun x S1 v B1 H1 ⟨hl, h1⟩ e1 r1 d1 => ⟨isL_ok hl r1 d1, B1, δ, S1, _, s.mono e1, r1, h1, fun xs S2 vs B2 H2 h2 e2 r2 d2 => hs' B2 S2 H2 v x vs xs k Q r2 (d1.mono e2) d2 h2 fun z S' u B' H' hk e' r' d' => q z S' u B' H' hk (e1.trans (e2.trans e')) r' d'⟩⟩
theorem de_ml0 (slot : Slot "list" name id) (hty : typeOf (.builtin id) = pure (.type "method_descriptor")) (hm : MtR X id r) (hs' : SimM K r rd) (ho : PE X o (lE K dO))
    (hbase : attributeBase o name X.env (eval o X.env) = eval o X.env := by rfl) (hline : (apos.endLine == cpos.line) = true := by rfl) (h : X.K = K := by rfl) :
    PE X (.Call (.Attribute o name apos) [] [] cpos) (lE K (dML rd dO dNil)) := peOf (pe_bm0 PySem.F.plainAttrs_list slot hty hm ho hbase hline) fun σ H Q ⟨B, δ, S, k, s, r, hh, q⟩ =>
  ⟨B, δ, S, _, s, r, hh, fun x S1 v B1 H1 ⟨hl, h1⟩ e1 r1 d1 => ⟨by subst h; exact isL_ok hl r1 d1, hs' B1 S1 H1 v x [] [] k Q r1 d1 .nil h1 fun z S' u B' H' hk e' r' d' => q z S' u B' H' hk (e1.trans e') r' d'⟩⟩
end
section
variable {K : PySem.W.Frag}
def oApp : DM := fun x xs S k => match x, xs with
  | .ref a, [y] => ∃ ds, S a = some (.lst ds) ∧ ds.length < 100000 ∧ k .non (put S a (.lst (ds ++ [y])))
  | _, _ => False
theorem si_app : SimM K rAppend oApp := fun B S H v x vs xs k Q r rx rl h1 q => by
  unfold oApp at h1
  split at h1
  · obtain ⟨w, rfl, rw'⟩ := rdl1 rl
    obtain ⟨ds, hs, hl, h1⟩ := h1
    obtain ⟨ys, ha, rr⟩ := r.lst hs
    cases rd_ref rx
    exact ⟨_, ys, w, rfl, rfl, ha, sz_lt (by rw [rr.length]; exact hl), q _ _ _ B _ h1 (Ex.refl B) (r.mut hs (.lst (rr.append (.one rw')))) .non⟩
  · exact h1.elim
def oExt : DM := fun x xs S k => match x, xs with
  | .ref a, [.list es] => ∃ ds, S a = some (.lst ds) ∧ ds.length + es.length ≤ 100000 ∧ k .non (put S a (.lst (ds ++ es)))
  | _, _ => False
theorem si_ext : SimM K rExtend oExt := fun B S H v x vs xs k Q r rx rl h1 q => by
  unfold oExt at h1
  split at h1
  · obtain ⟨w, rfl, rw'⟩ := rdl1 rl
    obtain ⟨ds, hs, hl, h1⟩ := h1
    obtain ⟨ys, ha, rr⟩ := r.lst hs
    obtain ⟨b, zs, rfl, hb, rz⟩ := rd_list rw'
    cases rd_ref rx
    exact ⟨_, b, ys, zs, rfl, rfl, ha, r.ex _ _ hb, sz_of (by rw [rr.length, rz.length]; exact hl), q _ _ _ B _ h1 (Ex.refl B) (r.mut hs (.lst (rr.append rz))) .non⟩
  · exact h1.elim
def oPop : DM := fun x xs S k => match x, xs with
  | .ref a, [] => ∃ ds y, S a = some (.lst (ds ++ [y])) ∧ k y (put S a (.lst ds))
  | _, _ => False
theorem RdL.snoc {B : Hp} {xs : List V} {ds : List D} {d : D} (h : RdL K B xs (ds ++ [d])) : ∃ ys v, xs = ys ++ [v] ∧ RdL K B ys ds ∧ RdD K B v d := by
  have hl := h.length
  have h1 := h.take ds.length
  have h2 := h.drop ds.length
  rw [List.take_left'] at h1
  · rw [List.drop_left'] at h2
    · cases hx : xs.drop ds.length with
      | nil => rw [hx] at h2; cases h2
      | cons v r =>
        rw [hx] at h2
        cases h2 with
        | cons hd hr =>
          cases hr
          refine ⟨xs.take ds.length, v, ?_, h1, hd⟩
          rw [← hx, List.take_append_drop]
    · rfl
  · rfl
theorem si_pop : SimM K rPop oPop := fun B S H v x vs xs k Q r rx rl h1 q => by
  unfold oPop at h1
  split at h1
  · cases rl
    obtain ⟨ds, y, hs, h1⟩ := h1
    obtain ⟨ys, ha, rr⟩ := r.lst hs
    obtain ⟨zs, w, rfl, rz, rw'⟩ := rr.snoc
    cases rd_ref rx
    refine ⟨_, zs ++ [w], w, rfl, rfl, ha, by simp, ?_⟩
    rw [List.dropLast_concat]
    exact q _ _ _ B _ h1 (Ex.refl B) (r.mut hs (.lst rz)) rw'
  · exact h1.elim
/-- xs.pop(0) -/
def oPop0 : DM := fun x xs S k => match x, xs with
  | .ref a, [.int 0] => ∃ ds y, S a = some (.lst (y :: ds)) ∧ k y (put S a (.lst ds))
  | _, _ => False
theorem si_pop0 : SimM K rPopAt oPop0 := fun B S H v x vs xs k Q r rx rl h1 q => by
  unfold oPop0 at h1
  split at h1
  · obtain ⟨w, rfl, rw'⟩ := rdl1 rl
    obtain ⟨ds, y, hs, h1⟩ := h1
    obtain ⟨ys, ha, rr⟩ := r.lst hs
    cases rr with
    | cons hy rr =>
      cases rd_ref rx
      cases rd_int rw'
      exact ⟨_, _, 0, 0, _, rfl, rfl, ha, by decide, by decide, by simp [seqIndex?], rfl, q _ _ _ B _ h1 (Ex.refl B) (r.mut hs (.lst rr)) hy⟩
  · exact h1.elim
/-! texts -/
def oSS (f : Str → Str → D) : DM := fun x xs S k => match x, xs with
  | .str a, [.str b] => k (f a b) S
  | _, _ => False
def oSSc (C : Str → Str → Prop) (f : Str → Str → D) : DM := fun x xs S k => match x, xs with
  | .str a, [.str b] => C a b ∧ k (f a b) S
  | _, _ => False
def oSSI (f : Str → Str → Int → D) : DM := fun x xs S k => match x, xs with
  | .str a, [.str b, .int i] => k (f a b i) S
  | _, _ => False
/-- a.split(b) -/
def dSplit (da db : DE) : DE := fun δ S k => da δ S fun x S1 => match x with
  | .str a => db δ S1 fun y S2 => match y with
    | .str b => (b.length == 0) = false ∧ a.length + 2 ≤ 100000 ∧ k (.list ((Txt.split a b).map D.str)) S2
    | _ => False
  | _ => False
/-- a.join(xs) -/
def dJoin (da db : DE) : DE := fun δ S k => da δ S fun x S1 => match x with
  | .str a => db δ S1 fun y S2 => ∃ ys : List Str, SeqD S2 y (ys.map D.str) ∧ (ys.map (·.length)).sum + ys.length * a.length ≤ 16777216 ∧ k (.str (Txt.join a ys)) S2
  | _ => False
end
section
variable {X : Cx} {K : PySem.W.Frag} {W : WXD} {o e : Expr} {dO de : DE} {apos pos : Pos}
/-! x op= e -/
def dAug (i : Nat) (f : Int → Int → Int) (de : DE) : DS := fun D δ S => match δ[i]? with
  | some (some (.int a)) => de δ S fun y S1 => match y with
    | .int b => D.nx (δ.set i (some (.int (f a b)))) S1
    | _ => False
  | _ => False
end
end DL

set_option Elab.async false
set_option linter.all false
set_option maxRecDepth 100000
namespace DL
open PySem L2 Evl EX
/-! ### == at any depth -/
mutual
def D.py : D → PyData
  | .bl b => .bool b
  | .int i => .int i
  | .str x => .str x
  | .list ds => .list (pyL ds)
  | .scr ds => .list (pyL ds)
  | .tup ds => .tuple (pyL ds)
  | _ => .none
def pyL : List D → List PyData
  | [] => []
  | d :: ds => d.py :: pyL ds
end
mutual
/-- data of numbers (or, f: of truth values), texts (well made), None, lists, tuples -/
def D.nbG (f : Bool) : D → Bool
  | .non => true
  | .int _ => !f
  | .bl _ => f
  | .str x => PyData.strOk x
  | .list ds => nbGL f ds
  | .tup ds => nbGL f ds
  | _ => false
def nbGL (f : Bool) : List D → Bool
  | [] => true
  | d :: ds => d.nbG f && nbGL f ds
end
abbrev D.nb (d : D) : Bool := d.nbG false
abbrev nbL (ds : List D) : Bool := nbGL false ds
mutual
def D.deep : D → Nat
  | .list ds => deepL ds + 1
  | .tup ds => deepL ds + 1
  | _ => 0
def deepL : List D → Nat
  | [] => 0
  | d :: ds => max d.deep (deepL ds)
end
theorem deepL_le {n : Nat} : ∀ ds : List D, deepL ds ≤ n ↔ ∀ d ∈ ds, d.deep ≤ n
  | [] => by simp [deepL]
  | d :: ds => by simp [deepL, deepL_le ds, Nat.max_le]
mutual
theorem py_lay {f : Bool} : ∀ d : D, d.nbG f = true → d.py.canLay0 = true
  | .non, _ => rfl
  | .int _, _ => rfl
  | .str x, h => by simpa [D.nbG, D.py, PyData.canLay0] using h
  | .list ds, h => by
    rw [D.nbG] at h
    rw [D.py, PyData.canLay0]
    exact pyL_lay ds h
  | .tup ds, h => by
    rw [D.nbG] at h
    rw [D.py, PyData.canLay0]
    exact pyL_lay ds h
  | .bl _, h => rfl
  | .ref _, h => by cases h
  | .ty _, h => by cases h
  | .scr _, h => by simp [D.nbG] at h
theorem pyL_lay {f : Bool} : ∀ ds : List D, nbGL f ds = true → PyData.canLayAll0 (pyL ds) = true
  | [], _ => rfl
  | d :: ds, h => by
    rw [nbGL, Bool.and_eq_true] at h
    rw [pyL, PyData.canLayAll0, py_lay d h.1, pyL_lay ds h.2]
    rfl
end
mutual
theorem py_deep {f : Bool} : ∀ d : D, d.nbG f = true → d.py.depth = d.deep
  | .non, _ => rfl
  | .int _, _ => rfl
  | .str x, h => rfl
  | .list ds, h => by
    rw [D.nbG] at h
    rw [D.py, PyData.depth, D.deep, pyL_deep ds h]
  | .tup ds, h => by
    rw [D.nbG] at h
    rw [D.py, PyData.depth, D.deep, pyL_deep ds h]
  | .bl _, h => rfl
  | .ref _, h => by cases h
  | .ty _, h => by cases h
  | .scr _, h => by simp [D.nbG] at h
theorem pyL_deep {f : Bool} : ∀ ds : List D, nbGL f ds = true → PyData.depthAll (pyL ds) = deepL ds
  | [], _ => rfl
  | d :: ds, h => by
    rw [nbGL, Bool.and_eq_true] at h
    rw [pyL, PyData.depthAll, deepL, py_deep d h.1, pyL_deep ds h.2]
end
mutual
theorem py_inj {f : Bool} : ∀ d e : D, d.nbG f = true → e.nbG f = true → PyData.eqv d.py e.py = true → d = e
  | .non, e, _, he, h => by cases e <;> first | rfl | (simp [D.py, PyData.eqv] at h; done) | (simp [D.nbG] at he; done)
  | .int i, e, hd, he, h => by
    cases e with
    | int j => simp [D.py, PyData.eqv] at h; rw [h]
    | bl b => simp [D.nbG] at hd he; rw [hd] at he; cases he
    | _ => first | (simp [D.py, PyData.eqv] at h; done) | (simp [D.nbG] at he; done)
  | .str x, e, _, he, h => by
    cases e with
    | str y => simp [D.py, PyData.eqv] at h; rw [h]
    | _ => first | (simp [D.py, PyData.eqv] at h; done) | (simp [D.nbG] at he; done)
  | .list ds, e, hd, he, h => by
    cases e with
    | list es =>
      rw [D.nbG] at hd he
      rw [D.py, D.py, PyData.eqv] at h
      rw [pyL_inj ds es hd he h]
    | _ => first | (simp [D.py, PyData.eqv] at h; done) | (simp [D.nbG] at he; done)
  | .tup ds, e, hd, he, h => by
    cases e with
    | tup es =>
      rw [D.nbG] at hd he
      rw [D.py, D.py, PyData.eqv] at h
      rw [pyL_inj ds es hd he h]
    | _ => first | (simp [D.py, PyData.eqv] at h; done) | (simp [D.nbG] at he; done)
  | .bl b, e, hd, he, h => by
    cases e with
    | bl c => simp [D.py, PyData.eqv] at h; rw [h]
    | int i => simp [D.nbG] at hd he; rw [hd] at he; cases he
    | _ => first | (simp [D.py, PyData.eqv] at h; done) | (simp [D.nbG] at he; done)
  | .ref _, _, hd, _, _ => by cases hd
  | .ty _, _, hd, _, _ => by cases hd
  | .scr _, _, hd, _, _ => by simp [D.nbG] at hd
theorem pyL_inj {f : Bool} : ∀ ds es : List D, nbGL f ds = true → nbGL f es = true → PyData.eqvAll (pyL ds) (pyL es) = true → ds = es
  | [], [], _, _, _ => rfl
  | [], _ :: _, _, _, h => by simp [pyL, PyData.eqvAll] at h
  | _ :: _, [], _, _, h => by simp [pyL, PyData.eqvAll] at h
  | d :: ds, e :: es, hd, he, h => by
    rw [nbGL, Bool.and_eq_true] at hd he
    rw [pyL, pyL, PyData.eqvAll, Bool.and_eq_true] at h
    rw [py_inj d e hd.1 he.1 h.1, pyL_inj ds es hd.2 he.2 h.2]
end
section
variable {K : PySem.W.Frag} {B H : Hp}
mutual
theorem dp_of {f : Bool} (e : Ex B H) : ∀ {v : V} {d : D}, RdD K B v d → d.nbG f = true → Dp K H v d.py
  | _, _, .non, _ => .non
  | _, _, .int i, _ => .int i
  | _, _, .str x, _ => .str x
  | _, _, .lst ha r, h => by
    rw [D.nbG] at h
    rw [D.py]
    exact .lst (sq_of (e _ _ ha)) (dpL_of e r h)
  | _, _, .tup ha r, h => by
    rw [D.nbG] at h
    rw [D.py]
    exact .tup (ex_t e ha) (dpL_of e r h)
  | _, _, .bl b, h => .bl b
  | _, _, .ref _, h => by cases h
  | _, _, .ty _, h => by cases h
  | _, _, .scr _ _, h => by simp [D.nbG] at h
theorem dpL_of {f : Bool} (e : Ex B H) : ∀ {vs : List V} {ds : List D}, RdL K B vs ds → nbGL f ds = true → DpAll K H vs (pyL ds)
  | _, _, .nil, _ => .nil
  | _, _, .cons h r, hn => by
    rw [nbGL, Bool.and_eq_true] at hn
    rw [pyL]
    exact .cons (dp_of e h hn.1) (dpL_of e r hn.2)
end
/-- a list of the store told by what it holds -/
def res (S : Sto) : D → D
  | .ref a => match S a with
    | some (.lst ds) => .list ds
    | _ => .ref a
  | x => x
end
section
variable {X : Cx} {K : PySem.W.Frag}
def rEqM (K : PySem.W.Frag) (neg : Bool) : R2 := fun x y H Q => ∃ d e, Dp K H x d ∧ Dp K H y e ∧ d.canLay0 = true ∧ e.canLay0 = true ∧ min d.depth e.depth ≤ 64 ∧ Q (.bl (if neg then !PyData.eqv d e else PyData.eqv d e)) H
theorem op_eqM (hu : X.A.units + 64 < cLine) (hk : X.K = K := by rfl) : OpR X (compareOp .Eq) (rEqM K false) := by
  intro pins s σ H x y v u Q I rx ry h
  subst hk
  obtain ⟨d, e, hd, he, sd, se, hm, q⟩ := h
  obtain ⟨as, r1⟩ := Dp.reads I d x v hd rx
  obtain ⟨bs, r2⟩ := Dp.reads I e y u he ry
  exact SeqAt.compareEq_reads r1 r2 sd se (by omega) ⟨.bl _, H, I, rfl, q⟩
theorem op_neM (hu : X.A.units + 64 < cLine) (hk : X.K = K := by rfl) : OpR X (compareOp .NotEq) (rEqM K true) := by
  intro pins s σ H x y v u Q I rx ry h
  subst hk
  obtain ⟨d, e, hd, he, sd, se, hm, q⟩ := h
  obtain ⟨as, r1⟩ := Dp.reads I d x v hd rx
  obtain ⟨bs, r2⟩ := Dp.reads I e y u he ry
  exact SeqAt.compareNe_reads r1 r2 sd se (by omega) ⟨.bl _, H, I, rfl, q⟩
open Classical in
def oEqD (neg : Bool) : DR2 := fun x y S k => ∃ f, (res S x).nbG f = true ∧ (res S y).nbG f = true ∧ min (res S x).deep (res S y).deep ≤ 64 ∧ k (.bl (if neg then !decide (res S x = res S y) else decide (res S x = res S y))) S
/-! x in xs, a list of data -/
open Classical in
def oInD (neg : Bool) : DR2 := fun x y S k => ∃ ds, y = .list ds ∧ x.nb = true ∧ nbL ds = true ∧ x.deep ≤ 64 ∧ deepL ds ≤ 60 ∧ k (.bl (if neg then !decide (x ∈ ds) else decide (x ∈ ds))) S
end
end DL

set_option Elab.async false
set_option linter.all false
set_option maxRecDepth 100000
/-! ### draws, told over data -/
namespace DL
open PySem L2 Evl EX
section
variable {K : PySem.W.Frag} {B H H' : Hp} {S : Sto}
theorem R.drawn (r : R K B S H) {tp : Addr} (ht : S tp = some .tap) (e : Ex (hide tp H) H') (t : Tap H' tp) : R K B S H' := by
  have hb := (r.own tp _ ht).1
  refine ⟨(ex_hide r.ex hb).trans e, fun a o h => ?_⟩
  obtain ⟨n, ho, h1, h2⟩ := r.own a o h
  by_cases z : a = tp
  · subst z
    rw [ht] at h
    cases h
    obtain ⟨x, y, u, v, h3⟩ := t
    exact ⟨n, _, h3, .tap x y u v⟩
  · exact ⟨n, ho, e a ho (hide_get h1 z), h2⟩
/-- all that is new stands fast -/
theorem R.grow (r : R K B S H) (e : Ex H H') : ∃ B', Ex B B' ∧ R K B' S H' ∧ ∀ a o, H' a = some o → S a = none → B' a = some o := by
  refine ⟨fun a => if (S a).isSome then none else H' a, fun a o h => ?_, ⟨fun a o h => ?_, fun a o h => ?_⟩, fun a o h n => ?_⟩
  · have hs : S a = none := by
      cases q : S a with
      | none => rfl
      | some u => rw [(r.own a u q).1] at h; cases h
    show (if (S a).isSome = true then none else H' a) = some o
    rw [hs]
    exact e a o (r.ex a o h)
  · have h' : (if (S a).isSome = true then none else H' a) = some o := h
    split at h'
    · cases h'
    · exact h'
  · obtain ⟨n, ho, h1, h2⟩ := r.own a o h
    refine ⟨?_, ho, e a ho h1, h2.mono fun b u hb => ?_⟩
    · show (if (S a).isSome = true then none else H' a) = none
      rw [h]
      rfl
    · have hs : S b = none := by
        cases q : S b with
        | none => rfl
        | some u => rw [(r.own b u q).1] at hb; cases hb
      show (if (S b).isSome = true then none else H' b) = some u
      rw [hs]
      exact e b u (r.ex b u hb)
  · show (if (S a).isSome = true then none else H' a) = some o
    rw [n]
    exact h
end
section
variable {P : Program} {w : World} {K : PySem.W.Frag} {mg : Str → Option Value} {base : Heap} {k : Nat} {f : Addr} {fd : FuncData} {ps : List Str}
end
end DL

set_option Elab.async false
set_option linter.all false
set_option maxRecDepth 100000
/-! ### stepping: readings over data, rewritten from the head on -/
namespace DL
open PySem L2 Evl EX
/-- what is marked is not rewritten within -/
structure Tag {α : Sort _} (a : α) : Type where
/-- an open choice -/
def branch (b : Bool) (A B : Prop) (_ : Tag (fun x : Bool => if x = true then A else B)) : Prop := if b = true then A else B
/-- a slot that is read -/
def rdv (o : Option (Option D)) (S : Sto) (k : DK) (_ : Tag k) : Prop := match o with
  | some (some d) => k d S
  | _ => False
def tst (x : D) (S : Sto) (k : Bool → Sto → Prop) (_ : Tag k) : Prop := match x with
  | .bl b => k b S
  | _ => False
def tstV (x : D) (k : Bool → Prop) (_ : Tag k) : Prop := match x with
  | .bl b => k b
  | _ => False
/-- a call by a promise -/
def ask (f : SpD) (xs : List D) (S : Sto) (k : DK) (_ : Tag k) : Prop := f xs S k fun _ _ _ => False
/-- a new place -/
def fresh (S : Sto) (k : Addr → Prop) (_ : Tag k) : Prop := ∀ p, S p = none → k p
def few (n : Nat) (A : Prop) (_ : Tag A) : Prop := n ≤ 100000 ∧ A
/-- what is asked, then the rest -/
def need (C A : Prop) (_ : Tag A) : Prop := C ∧ A
def ixq (x : D) (i : Int) (S : Sto) (k : DK) (_ : Tag k) : Prop := oIx x (.int i) S k
theorem x_few {n : Nat} {A : Prop} (h : n ≤ 100000) : few n A ⟨⟩ = A := propext ⟨fun z => z.2, fun z => ⟨h, z⟩⟩
theorem x_need {C A : Prop} (h : C) : need C A ⟨⟩ = A := propext ⟨fun z => z.2, fun z => ⟨h, z⟩⟩
section
variable {δ : Dst} {S : Sto} {k : DK} {kt : Bool → Sto → Prop} {ka : List D → Sto → Prop} {E : DEnds} {da db de : DE} {dA : DA} {t u : DT} {d e : DS} {i j : Nat} {x y : D}
theorem x_seq : dSeq d e E δ S = d { E with nx := e E } δ S := propext Iff.rfl
theorem x_nx : dNext E δ S = E.nx δ S := propext Iff.rfl
theorem x_pass : dPass E δ S = E.nx δ S := propext Iff.rfl
theorem x_brk : dBreak E δ S = E.bk δ S := propext Iff.rfl
theorem x_cnt : dCont E δ S = E.ct δ S := propext Iff.rfl
theorem x_drop : dDrop de E δ S = de δ S fun _ S1 => E.nx δ S1 := propext Iff.rfl
theorem x_ret : dRet de E δ S = de δ S E.rt := propext Iff.rfl
theorem x_retN : dRetN E δ S = E.rt .non S := propext Iff.rfl
theorem x_ifS : dIfS t d e E δ S = t δ S fun b S1 => branch b (d E δ S1) (e E δ S1) ⟨⟩ := propext Iff.rfl
theorem x_set : dSet de i E δ S = de δ S fun x S1 => E.nx (δ.set i (some x)) S1 := propext Iff.rfl
theorem x_asg {g : DG} : dAsg de g E δ S = de δ S fun x S1 => g x δ S1 E.nx := propext Iff.rfl
theorem x_gN {kg : Dst → Sto → Prop} : gN i x δ S kg = kg (δ.set i (some x)) S := propext Iff.rfl
theorem x_gT {n : Nat} {gs : DGs} {ds : List D} {kg : Dst → Sto → Prop} : gT n gs (.tup ds) δ S kg = need (ds.length = n) (gs ds δ S kg) ⟨⟩ := propext Iff.rfl
theorem x_gsC {g : DG} {gs : DGs} {ds : List D} {kg : Dst → Sto → Prop} : gsCons g gs (x :: ds) δ S kg = g x δ S fun δ' S' => gs ds δ' S' kg := propext Iff.rfl
theorem x_gsN {kg : Dst → Sto → Prop} : gsNil [] δ S kg = kg δ S := propext Iff.rfl
theorem x_var : dVar i δ S k = rdv δ[i]? S k ⟨⟩ := propext (by unfold dVar rdv; exact Iff.rfl)
theorem x_rdv : rdv (some (some x)) S k ⟨⟩ = k x S := propext Iff.rfl
theorem x_c : dC x δ S k = k x S := propext Iff.rfl
theorem x_op {rd : DR2} : dOp rd da db δ S k = da δ S fun x S1 => db δ S1 fun y S2 => rd x y S2 k := propext Iff.rfl
theorem x_test : dTest de δ S kt = de δ S fun x S1 => tst x S1 kt ⟨⟩ := propext (by unfold dTest tst; exact Iff.rfl)
theorem x_tst {b : Bool} : tst (.bl b) S kt ⟨⟩ = kt b S := propext Iff.rfl
theorem x_and : dAnd t u δ S kt = t δ S fun c S1 => branch c (u δ S1 kt) (kt false S1) ⟨⟩ := propext Iff.rfl
theorem x_or : dOr t u δ S kt = t δ S fun c S1 => branch c (kt true S1) (u δ S1 kt) ⟨⟩ := propext Iff.rfl
theorem x_not : dNot t δ S kt = t δ S fun c S1 => kt (!c) S1 := propext Iff.rfl
theorem x_andV : dAndV da db δ S k = da δ S fun x S1 => tstV x (fun c => branch c (db δ S1 k) (k (.bl false) S1) ⟨⟩) ⟨⟩ := propext (by unfold dAndV tstV; exact Iff.rfl)
theorem x_orV : dOrV da db δ S k = da δ S fun x S1 => tstV x (fun c => branch c (k (.bl true) S1) (db δ S1 k) ⟨⟩) ⟨⟩ := propext (by unfold dOrV tstV; exact Iff.rfl)
theorem x_notV : dNotV da δ S k = da δ S fun x S1 => tstV x (fun c => k (.bl (!c)) S1) ⟨⟩ := propext (by unfold dNotV tstV; exact Iff.rfl)
theorem x_tstV {b : Bool} {kb : Bool → Prop} : tstV (.bl b) kb ⟨⟩ = kb b := propext Iff.rfl
theorem x_ifE : dIf t da db δ S k = t δ S fun c S1 => branch c (da δ S1 k) (db δ S1 k) ⟨⟩ := propext Iff.rfl
theorem x_true {A B : Prop} : branch true A B ⟨⟩ = A := by unfold branch; simp
theorem x_false {A B : Prop} : branch false A B ⟨⟩ = B := by unfold branch; simp
theorem x_nil : dNil δ S ka = ka [] S := propext Iff.rfl
theorem x_cons : dCons da dA δ S ka = da δ S fun x S1 => dA δ S1 fun xs S2 => ka (x :: xs) S2 := propext Iff.rfl
theorem x_tup : dTup dA δ S k = dA δ S fun xs S1 => few xs.length (k (.tup xs) S1) ⟨⟩ := propext Iff.rfl
theorem x_lst : dLst dA δ S k = dA δ S fun xs S1 => few xs.length (k (.list xs) S1) ⟨⟩ := propext Iff.rfl
theorem x_new : dNew dA δ S k = dA δ S fun xs S1 => few xs.length (fresh S1 (fun p => k (.ref p) (put S1 p (.lst xs))) ⟨⟩) ⟨⟩ := propext Iff.rfl
theorem x_newD : dNewD δ S k = fresh S (fun p => k (.ref p) (put S p (.dct []))) ⟨⟩ := propext Iff.rfl
theorem x_call {f : SpD} : dCall f dA δ S k = dA δ S fun xs S1 => ask f xs S1 k ⟨⟩ := propext Iff.rfl
theorem x_cb {rd : List D → Sto → DK → Prop} : dCB rd dA δ S k = dA δ S fun xs S1 => rd xs S1 k := propext Iff.rfl
theorem x_oI {f : Int → Int → D} {a b : Int} : oI f (.int a) (.int b) S k = k (f a b) S := propext Iff.rfl
theorem x_oIc {C : Int → Int → Prop} {f : Int → Int → D} {a b : Int} : oIc C f (.int a) (.int b) S k = need (C a b) (k (f a b) S) ⟨⟩ := propext Iff.rfl
theorem x_oS {f : Str → Str → D} {a b : Str} : oS f (.str a) (.str b) S k = k (f a b) S := propext Iff.rfl
theorem x_addS {a b : Str} : oAddS (.str a) (.str b) S k = few (a.length + b.length) (k (.str (a ++ b)) S) ⟨⟩ := propext Iff.rfl
theorem x_isN : oIsN false x .non S k = k (.bl (isNon x)) S := propext Iff.rfl
theorem x_notN : oIsN true x .non S k = k (.bl (!isNon x)) S := propext Iff.rfl
theorem x_eqI {a b : Int} : oEq false (.int a) (.int b) S k = k (.bl (decide (a = b))) S := propext Iff.rfl
theorem x_eqS {a b : Str} : oEq false (.str a) (.str b) S k = k (.bl (decide (a = b))) S := propext Iff.rfl
theorem x_eqIS {a : Int} {b : Str} : oEq false (.int a) (.str b) S k = k (.bl false) S := propext Iff.rfl
theorem x_eqSI {a : Str} {b : Int} : oEq false (.str a) (.int b) S k = k (.bl false) S := propext Iff.rfl
theorem x_eqNS {b : Str} : oEq false .non (.str b) S k = k (.bl false) S := propext Iff.rfl
theorem x_neI {a b : Int} : oEq true (.int a) (.int b) S k = k (.bl (!decide (a = b))) S := propext Iff.rfl
theorem x_neS {a b : Str} : oEq true (.str a) (.str b) S k = k (.bl (!decide (a = b))) S := propext Iff.rfl
theorem x_neB {a b : Bool} : oEq true (.bl a) (.bl b) S k = k (.bl (!decide (a = b))) S := propext Iff.rfl
theorem x_eqB {a b : Bool} : oEq false (.bl a) (.bl b) S k = k (.bl (decide (a = b))) S := propext Iff.rfl
theorem x_lenS {z : Str} : oLen [.str z] S k = few z.length (k (.int z.length) S) ⟨⟩ := propext Iff.rfl
theorem ix_of {ds : List D} {i : Int} {d : D} {k : DK} {x : D} (hx : x = .list ds ∨ x = .tup ds ∨ x = .scr ds) (h : atI ds i = some d) : oIx x (.int i) S k = k d S := by
  rcases hx with rfl | rfl | rfl
  all_goals
    refine propext ⟨fun ⟨es, e, hs, he, q⟩ => ?_, fun q => ⟨ds, d, rfl, h, q⟩⟩
    cases (show ds = es from hs)
    rw [h] at he
    cases he
    exact q
theorem x_ix {a : Int} : oIx x (.int a) S k = ixq x a S k ⟨⟩ := propext Iff.rfl
theorem x_ixq {ds : List D} {i : Int} {d : D} (hx : x = .list ds ∨ x = .tup ds ∨ x = .scr ds) (h : atI ds i = some d) : ixq x i S k ⟨⟩ = k d S := ix_of hx h
theorem x_ixL0 {a : D} {r : List D} : ixq (.list (a :: r)) 0 S k ⟨⟩ = k a S := ix_of (.inl rfl) (atI_nat (j := 0) rfl)
theorem x_ixT0 {a : D} {r : List D} : ixq (.tup (a :: r)) 0 S k ⟨⟩ = k a S := ix_of (.inr (.inl rfl)) (atI_nat (j := 0) rfl)
theorem x_ixT1 {a b : D} {r : List D} : ixq (.tup (a :: b :: r)) 1 S k ⟨⟩ = k b S := ix_of (.inr (.inl rfl)) (atI_nat (j := 1) rfl)
theorem x_ixT2 {a b c : D} {r : List D} : ixq (.tup (a :: b :: c :: r)) 2 S k ⟨⟩ = k c S := ix_of (.inr (.inl rfl)) (atI_nat (j := 2) rfl)
theorem x_ixT3 {a b c d : D} {r : List D} : ixq (.tup (a :: b :: c :: d :: r)) 3 S k ⟨⟩ = k d S := ix_of (.inr (.inl rfl)) (atI_nat (j := 3) rfl)
theorem x_ixT4 {a b c d e : D} {r : List D} : ixq (.tup (a :: b :: c :: d :: e :: r)) 4 S k ⟨⟩ = k e S := ix_of (.inr (.inl rfl)) (atI_nat (j := 4) rfl)
theorem seq_of {S : Sto} {x : D} {ds : List D} {Q : List D → Prop} (h : SeqD S x ds) : (∃ es, SeqD S x es ∧ Q es) = Q ds := by
  refine propext ⟨fun ⟨es, hs, q⟩ => ?_, fun q => ⟨ds, h, q⟩⟩
  have : es = ds := by
    unfold SeqD at h hs
    cases x with
    | list l => exact hs.symm.trans h
    | scr l => exact hs.symm.trans h
    | tup l => exact hs.symm.trans h
    | ref a =>
      have h' : S a = some (.lst ds) := h
      have hs' : S a = some (.lst es) := hs
      rw [h'] at hs'
      cases hs'
      rfl
    | _ => exact h.elim
  rw [← this]
  exact q
theorem x_lenL {ds : List D} : oLen [.list ds] S k = k (.int ds.length) S := seq_of (Q := fun es => k (.int es.length) S) rfl
theorem x_lenT {ds : List D} : oLen [.tup ds] S k = k (.int ds.length) S := seq_of (Q := fun es => k (.int es.length) S) rfl
theorem x_lenC {ds : List D} : oLen [.scr ds] S k = k (.int ds.length) S := seq_of (Q := fun es => k (.int es.length) S) rfl
theorem x_lenR {a : Addr} {ds : List D} (h : S a = some (.lst ds)) : oLen [.ref a] S k = k (.int ds.length) S := seq_of (Q := fun es => k (.int es.length) S) h
theorem x_listL {ds : List D} : oList [.list ds] S k = k (.list ds) S := seq_of (Q := fun es => k (.list es) S) rfl
theorem x_listT {ds : List D} : oList [.tup ds] S k = k (.list ds) S := seq_of (Q := fun es => k (.list es) S) rfl
theorem x_tupL {ds : List D} : oTuple [.list ds] S k = k (.tup ds) S := seq_of (Q := fun es => k (.tup es) S) rfl
theorem x_tupT {ds : List D} : oTuple [.tup ds] S k = k (.tup ds) S := seq_of (Q := fun es => k (.tup es) S) rfl
theorem x_strI {a : Int} : oStr [.int a] S k = need (a.natAbs.log2 < 1920) (k (.str (toString a)) S) ⟨⟩ := propext Iff.rfl
theorem x_strS {a : Str} : oStr [.str a] S k = k (.str a) S := propext Iff.rfl
theorem x_int1 {a : Int} : oInt1 [.int a] S k = k (.int a) S := propext Iff.rfl
theorem x_intB {b : Bool} : oInt1 [.bl b] S k = k (.int (if b then 1 else 0)) S := propext Iff.rfl
theorem x_I1 {f : Int → D} {a : Int} : oI1 f [.int a] S k = k (f a) S := propext Iff.rfl
theorem x_I2 {f : Int → Int → D} {a b : Int} : oI2 f [.int a, .int b] S k = k (f a b) S := propext Iff.rfl
theorem x_cat {a b : List D} : oCat (.list a) (.list b) S k = few (a.length + b.length) (k (.list (a ++ b)) S) ⟨⟩ := propext Iff.rfl
theorem x_catT {a b : List D} : oCatT (.tup a) (.tup b) S k = need (a ≠ []) (few (a.length + b.length) (k (.tup (a ++ b)) S) ⟨⟩) ⟨⟩ := propext Iff.rfl
theorem x_split {a b : Str} : dSplit (dC (.str a)) (dC (.str b)) δ S k = need ((b.length == 0) = false) (few (a.length + 2) (k (.list ((Txt.split a b).map D.str)) S) ⟨⟩) ⟨⟩ := propext Iff.rfl
theorem x_frz : dFrz i δ S k = rdv δ[i]? S (fun x _ => ∃ a ds, x = .ref a ∧ S a = some (.lst ds) ∧ k (.list ds) (del S a)) ⟨⟩ := by
  unfold dFrz rdv
  refine propext ⟨fun h => ?_, fun h => ?_⟩
  · split at h
    · rename_i b e
      obtain ⟨ds, h1, h2⟩ := h
      rw [e]
      exact ⟨b, ds, rfl, h1, h2⟩
    · exact h.elim
  · split at h
    · rename_i d e
      obtain ⟨b, ds, rfl, h1, h2⟩ := h
      rw [e]
      exact ⟨ds, h1, h2⟩
    · exact h.elim
end
theorem br {b : Bool} {A B : Prop} (h1 : b = true → A) (h2 : b = false → B) : branch b A B ⟨⟩ := by
  unfold branch
  cases b with
  | true => exact h1 rfl
  | false => exact h2 rfl
section
variable {δ : Dst} {S : Sto} {t u : DT} {a b : Bool} {de : DE}
end
end DL
namespace DL
open PySem L2 Evl EX
section
variable {S : Sto} {k : DK} {tp : Addr} {x : D}
/-- xs[j], j a place that is there -/
theorem ixAt {ds : List D} {j : Nat} {d : D} (hx : x = .list ds ∨ x = .tup ds ∨ x = .scr ds) (h : ds[j]? = some d) (q : k d S) : ixq x (j : Int) S k ⟨⟩ := by
  rw [x_ixq hx (atI_nat h)]
  exact q
theorem fewOf {n : Nat} {A : Prop} (h : n ≤ 100000) (q : A) : few n A ⟨⟩ := ⟨h, q⟩
theorem needOf {C A : Prop} (h : C) (q : A) : need C A ⟨⟩ := ⟨h, q⟩
theorem freshOf {k : Addr → Prop} (h : ∀ p, S p = none → k p) : fresh S k ⟨⟩ := h
end
end DL

set_option Elab.async false
set_option linter.all false
set_option maxRecDepth 100000
namespace DL
open PySem L2 Evl EX
theorem nrfl {α : Sort _} {a b : α} (h : a = b) : a = b := h
theorem x_flS {s : Str} : flatD (.str s) = true := nrfl rfl
theorem x_flI {s : Int} : flatD (.int s) = true := nrfl rfl
theorem x_flN : flatD .non = true := nrfl rfl
theorem x_flB {s : Bool} : flatD (.bl s) = true := nrfl rfl
theorem x_cs_bool : ("bool" ∈ Cs) = True := eq_true (by decide)
theorem x_isB_NoneType_bool : isB "NoneType" "bool" = false := nrfl (by decide)
theorem x_isB_bool_bool : isB "bool" "bool" = true := nrfl (by decide)
theorem x_isB_int_bool : isB "int" "bool" = false := nrfl (by decide)
theorem x_isB_str_bool : isB "str" "bool" = false := nrfl (by decide)
theorem x_isB_list_bool : isB "list" "bool" = false := nrfl (by decide)
theorem x_isB_tuple_bool : isB "tuple" "bool" = false := nrfl (by decide)
theorem x_isB_dict_bool : isB "dict" "bool" = false := nrfl (by decide)
theorem x_cs_int : ("int" ∈ Cs) = True := eq_true (by decide)
theorem x_isB_NoneType_int : isB "NoneType" "int" = false := nrfl (by decide)
theorem x_isB_bool_int : isB "bool" "int" = true := nrfl (by decide)
theorem x_isB_int_int : isB "int" "int" = true := nrfl (by decide)
theorem x_isB_str_int : isB "str" "int" = false := nrfl (by decide)
theorem x_isB_list_int : isB "list" "int" = false := nrfl (by decide)
theorem x_isB_tuple_int : isB "tuple" "int" = false := nrfl (by decide)
theorem x_isB_dict_int : isB "dict" "int" = false := nrfl (by decide)
theorem x_cs_str : ("str" ∈ Cs) = True := eq_true (by decide)
theorem x_isB_NoneType_str : isB "NoneType" "str" = false := nrfl (by decide)
theorem x_isB_bool_str : isB "bool" "str" = false := nrfl (by decide)
theorem x_isB_int_str : isB "int" "str" = false := nrfl (by decide)
theorem x_isB_str_str : isB "str" "str" = true := nrfl (by decide)
theorem x_isB_list_str : isB "list" "str" = false := nrfl (by decide)
theorem x_isB_tuple_str : isB "tuple" "str" = false := nrfl (by decide)
theorem x_isB_dict_str : isB "dict" "str" = false := nrfl (by decide)
theorem x_cs_list : ("list" ∈ Cs) = True := eq_true (by decide)
theorem x_isB_NoneType_list : isB "NoneType" "list" = false := nrfl (by decide)
theorem x_isB_bool_list : isB "bool" "list" = false := nrfl (by decide)
theorem x_isB_int_list : isB "int" "list" = false := nrfl (by decide)
theorem x_isB_str_list : isB "str" "list" = false := nrfl (by decide)
theorem x_isB_list_list : isB "list" "list" = true := nrfl (by decide)
theorem x_isB_tuple_list : isB "tuple" "list" = false := nrfl (by decide)
theorem x_isB_dict_list : isB "dict" "list" = false := nrfl (by decide)
theorem x_cs_tuple : ("tuple" ∈ Cs) = True := eq_true (by decide)
theorem x_isB_NoneType_tuple : isB "NoneType" "tuple" = false := nrfl (by decide)
theorem x_isB_bool_tuple : isB "bool" "tuple" = false := nrfl (by decide)
theorem x_isB_int_tuple : isB "int" "tuple" = false := nrfl (by decide)
theorem x_isB_str_tuple : isB "str" "tuple" = false := nrfl (by decide)
theorem x_isB_list_tuple : isB "list" "tuple" = false := nrfl (by decide)
theorem x_isB_tuple_tuple : isB "tuple" "tuple" = true := nrfl (by decide)
theorem x_isB_dict_tuple : isB "dict" "tuple" = false := nrfl (by decide)
theorem x_cs_dict : ("dict" ∈ Cs) = True := eq_true (by decide)
theorem x_isB_NoneType_dict : isB "NoneType" "dict" = false := nrfl (by decide)
theorem x_isB_bool_dict : isB "bool" "dict" = false := nrfl (by decide)
theorem x_isB_int_dict : isB "int" "dict" = false := nrfl (by decide)
theorem x_isB_str_dict : isB "str" "dict" = false := nrfl (by decide)
theorem x_isB_list_dict : isB "list" "dict" = false := nrfl (by decide)
theorem x_isB_tuple_dict : isB "tuple" "dict" = false := nrfl (by decide)
theorem x_isB_dict_dict : isB "dict" "dict" = true := nrfl (by decide)
/-! what waits for an answer -/
def st2 (rd : DR2) (x y : D) (S : Sto) (k : DK) (_ : Tag k) : Prop := rd x y S k
def stC (rd : List D → Sto → DK → Prop) (xs : List D) (S : Sto) (k : DK) (_ : Tag k) : Prop := rd xs S k
def stM (rd : DM) (x : D) (xs : List D) (S : Sto) (k : DK) (_ : Tag k) : Prop := rd x xs S k
def stL (rd : D → Option Int → Option Int → Sto → DK → Prop) (x : D) (l u : Option Int) (S : Sto) (k : DK) (_ : Tag k) : Prop := rd x l u S k
def itL (x : D) (S : Sto) (k : List D → Sto → Prop) (_ : Tag k) : Prop := match x with
  | .list ds => k ds S
  | .scr ds => k ds S
  | _ => False
def itT (x : D) (S : Sto) (k : List D → Sto → Prop) (_ : Tag k) : Prop := match x with
  | .tup ds => k ds S
  | _ => False
def itS (x : D) (S : Sto) (k : List D → Sto → Prop) (_ : Tag k) : Prop := match x with
  | .str z => k (z.cps.toList.map fun c => .str ⟨#[c]⟩) S
  | _ => False
def forC (ds : List D) (g : DG) (b : DS) (E : DEnds) (δ : Dst) (S : Sto) (_ : Tag (E, g, b)) : Prop := ∃ I : Nat → Dst → Sto → Prop, I 0 δ S ∧
  (∀ n d δ' S', ds[n]? = some d → I n δ' S' → g d δ' S' fun δ2 S2 => b { E with nx := I (n + 1), ct := I (n + 1), bk := E.nx } δ2 S2) ∧ ∀ δ' S', I ds.length δ' S' → E.nx δ' S'
def lcC (ds : List D) (g : DGc) (t : DT) (de : DE) (vs : List Nat) (δ : Dst) (S : Sto) (k : DK) (_ : Tag (k, g, t, de)) : Prop := ds.length < 100000 ∧ ∀ p, S p = none → ∃ I : Nat → List D → Sto → Prop, I 0 [] S ∧
  (∀ n d acc S', ds[n]? = some d → S' p = none → I n acc S' → g d (wipeD δ vs) fun δ2 => t δ2 (put S' p (.lst acc)) fun b S2 => if b = true then de δ2 S2 (fun y S3 => ∃ S4, S4 p = none ∧ S3 = put S4 p (.lst acc) ∧ I (n + 1) (acc ++ [y]) S4) else ∃ S4, S4 p = none ∧ S2 = put S4 p (.lst acc) ∧ I (n + 1) acc S4) ∧
  ∀ acc S', S' p = none → I ds.length acc S' → k (.list acc) S'
def cutC (d e : DS) (E : DEnds) (δ : Dst) (S : Sto) (_ : Tag (E, d, e)) : Prop := dCut d e E δ S
theorem x_cut {d e : DS} {E : DEnds} {δ : Dst} {S : Sto} : dCut d e E δ S = cutC d e E δ S ⟨⟩ := propext Iff.rfl
/-- a word between a statement and the rest -/
theorem cutOf {d e : DS} {E : DEnds} {δ : Dst} {S : Sto} (M : Dst → Sto → Prop) (h : d { E with nx := M } δ S) (k : ∀ δ' S', M δ' S' → e E δ' S') : cutC d e E δ S ⟨⟩ := ⟨M, h, k⟩
def whlC (t : DT) (b : DS) (E : DEnds) (δ : Dst) (S : Sto) (_ : Tag (E, t, b)) : Prop := dWhile t b E δ S
section
variable {δ : Dst} {S : Sto} {k : DK} {kt : Bool → Sto → Prop} {ka : List D → Sto → Prop} {E : DEnds} {da db de : DE} {dA : DA} {t u : DT} {d e b : DS} {i j : Nat} {x y : D} {g : DG} {gc : DGc} {di : DI} {vs : List Nat} {ds : List D} {a : Addr}
theorem x_for : dFor di g b E δ S = di δ S fun ds S1 => forC ds g b E δ S1 ⟨⟩ := propext Iff.rfl
theorem x_lc : dLc di gc t de vs δ S k = di δ S fun ds S1 => lcC ds gc t de vs δ S1 k ⟨⟩ := propext Iff.rfl
theorem x_whl : dWhile t b E δ S = whlC t b E δ S ⟨⟩ := propext Iff.rfl
theorem x_diL : diL de δ S ka = de δ S fun x S1 => itL x S1 ka ⟨⟩ := propext (by unfold diL itL; exact Iff.rfl)
theorem x_diT : diT de δ S ka = de δ S fun x S1 => itT x S1 ka ⟨⟩ := propext (by unfold diT itT; exact Iff.rfl)
theorem x_diS : diStr de δ S ka = de δ S fun x S1 => itS x S1 ka ⟨⟩ := propext (by unfold diStr itS; exact Iff.rfl)
theorem x_itL : itL (.list ds) S ka ⟨⟩ = ka ds S := propext Iff.rfl
theorem x_itC : itL (.scr ds) S ka ⟨⟩ = ka ds S := propext Iff.rfl
theorem x_itT : itT (.tup ds) S ka ⟨⟩ = ka ds S := propext Iff.rfl
theorem x_itS {z : Str} : itS (.str z) S ka ⟨⟩ = ka (z.cps.toList.map fun c => .str ⟨#[c]⟩) S := propext Iff.rfl
def rng1 (xs : List D) (S : Sto) (k : List D → Sto → Prop) (_ : Tag k) : Prop := match xs with
  | [.int j] => -(2 ^ 62) ≤ j ∧ j < 2 ^ 62 ∧ k (rngD 0 j.toNat) S
  | _ => False
def rng2 (xs : List D) (S : Sto) (k : List D → Sto → Prop) (_ : Tag k) : Prop := match xs with
  | [.int i, .int j] => (-(2 ^ 62) ≤ i ∧ i < 2 ^ 62 ∧ -(2 ^ 62) ≤ j ∧ j < 2 ^ 62) ∧ k (rngD i (j - i).toNat) S
  | _ => False
def enm (xs : List D) (S : Sto) (k : List D → Sto → Prop) (_ : Tag k) : Prop := match xs with
  | [.list ds] => k (enumD ds) S
  | [.scr ds] => k (enumD ds) S
  | _ => False
theorem x_diR1 : diR1 dA δ S ka = dA δ S fun xs S1 => rng1 xs S1 ka ⟨⟩ := propext (by unfold diR1 rng1; exact Iff.rfl)
theorem x_diR2 : diR2 dA δ S ka = dA δ S fun xs S1 => rng2 xs S1 ka ⟨⟩ := propext (by unfold diR2 rng2; exact Iff.rfl)
theorem x_diE : diEnum dA δ S ka = dA δ S fun xs S1 => enm xs S1 ka ⟨⟩ := propext (by unfold diEnum enm; exact Iff.rfl)
theorem x_enmL : enm [.list ds] S ka ⟨⟩ = ka (enumD ds) S := propext Iff.rfl
theorem x_enmC : enm [.scr ds] S ka ⟨⟩ = ka (enumD ds) S := propext Iff.rfl
theorem rngOf {n : Int} (h0 : 0 ≤ n) (h1 : n ≤ 100000) (q : ka (rngD 0 n.toNat) S) : rng1 [.int n] S ka ⟨⟩ := ⟨by omega, by omega, q⟩
/-- a loop by its invariant -/
theorem forOf (I : Nat → Dst → Sto → Prop) (h0 : I 0 δ S) (hs : ∀ n d δ' S', ds[n]? = some d → I n δ' S' → g d δ' S' fun δ2 S2 => b { E with nx := I (n + 1), ct := I (n + 1), bk := E.nx } δ2 S2) (hd : ∀ δ' S', I ds.length δ' S' → E.nx δ' S') : forC ds g b E δ S ⟨⟩ := ⟨I, h0, hs, hd⟩
theorem whlOf (W : Nat → Dst → Sto → Prop) (m : Nat) (h0 : W m δ S) (hs : ∀ m δ' S', W m δ' S' → t δ' S' fun c S1 => branch c (b { E with nx := fun δ2 S2 => ∃ m', m' < m ∧ W m' δ2 S2, ct := fun δ2 S2 => ∃ m', m' < m ∧ W m' δ2 S2, bk := E.nx } δ' S1) (E.nx δ' S1) ⟨⟩) : whlC t b E δ S ⟨⟩ := ⟨W, ⟨m, h0⟩, hs⟩
theorem lcOf (P : Nat → List D → Prop) (hl : ds.length < 100000) (h0 : P 0 [])
    (hs : ∀ p, S p = none → ∀ n d acc, ds[n]? = some d → P n acc → gc d (wipeD δ vs) fun δ2 => t δ2 (put S p (.lst acc)) fun b S2 => branch b (de δ2 S2 (fun y S3 => LcO S p acc (P (n + 1) (acc ++ [y])) S3)) (LcO S p acc (P (n + 1) acc) S2) ⟨⟩) (hd : ∀ acc, P ds.length acc → k (.list acc) S) :
    lcC ds gc t de vs δ S k ⟨⟩ := lc_go P hl h0 hs hd
theorem x_gcN {kg : Dst → Prop} : gcN i x δ kg = kg (δ.set i (some x)) := propext Iff.rfl
theorem x_gcT {js : List Nat} {kg : Dst → Prop} : gcT js (.tup ds) δ kg = need (ds.length = js.length) (kg (setD δ js ds)) ⟨⟩ := propext Iff.rfl
theorem x_yes : dYes δ S kt = kt true S := propext Iff.rfl
/-! methods -/
theorem x_ml {rd : DM} : dML rd da dA δ S k = da δ S fun x S1 => need (IsL S1 x) (dA δ S1 fun xs S2 => stM rd x xs S2 k ⟨⟩) ⟨⟩ := propext Iff.rfl
def strq (x : D) (k : Str → Prop) (_ : Tag k) : Prop := match x with
  | .str z => k z
  | _ => False
theorem x_ms {rd : DM} : dMS rd da dA δ S k = da δ S fun x S1 => strq x (fun z => dA δ S1 fun xs S2 => stM rd (.str z) xs S2 k ⟨⟩) ⟨⟩ := propext (by unfold dMS strq stM; exact Iff.rfl)
theorem x_strq {z : Str} {kz : Str → Prop} : strq (.str z) kz ⟨⟩ = kz z := propext Iff.rfl
theorem appOf (h : S a = some (.lst ds)) (hl : ds.length < 100000) (q : k .non (put S a (.lst (ds ++ [y])))) : stM oApp (.ref a) [y] S k ⟨⟩ := ⟨ds, h, hl, q⟩
theorem extOf {es : List D} (h : S a = some (.lst ds)) (hl : ds.length + es.length ≤ 100000) (q : k .non (put S a (.lst (ds ++ es)))) : stM oExt (.ref a) [.list es] S k ⟨⟩ := ⟨ds, h, hl, q⟩
theorem popOf (h : S a = some (.lst (ds ++ [y]))) (q : k y (put S a (.lst ds))) : stM oPop (.ref a) [] S k ⟨⟩ := ⟨ds, y, h, q⟩
theorem isLOf (h : S a = some (.lst ds)) : IsL S (.ref a) := ⟨ds, h⟩
theorem x_ss {f : Str → Str → D} {a b : Str} : stM (oSS f) (.str a) [.str b] S k ⟨⟩ = k (f a b) S := propext Iff.rfl
theorem x_ssc {C : Str → Str → Prop} {f : Str → Str → D} {a b : Str} : stM (oSSc C f) (.str a) [.str b] S k ⟨⟩ = need (C a b) (k (f a b) S) ⟨⟩ := propext Iff.rfl
theorem x_ssi {f : Str → Str → Int → D} {a b : Str} {i : Int} : stM (oSSI f) (.str a) [.str b, .int i] S k ⟨⟩ = k (f a b i) S := propext Iff.rfl
def joinq (a : Str) (y : D) (S : Sto) (k : DK) (_ : Tag k) : Prop := ∃ ys : List Str, SeqD S y (ys.map D.str) ∧ (ys.map (·.length)).sum + ys.length * a.length ≤ 16777216 ∧ k (.str (Txt.join a ys)) S
theorem x_join : dJoin da db δ S k = da δ S fun x S1 => strq x (fun z => db δ S1 fun y S2 => joinq z y S2 k ⟨⟩) ⟨⟩ := propext (by unfold dJoin strq joinq; exact Iff.rfl)
theorem x_st2I {f : Int → Int → D} {a b : Int} : st2 (oI f) (.int a) (.int b) S k ⟨⟩ = k (f a b) S := propext Iff.rfl
/-! slices -/
theorem x_sl {rd : D → Option Int → Option Int → Sto → DK → Prop} {dl dh : DO} : dSl rd da dl dh δ S k = da δ S fun x S1 => dl δ S1 fun l S2 => dh δ S2 fun u S3 => stL rd x l u S3 k ⟨⟩ := propext Iff.rfl
theorem x_noP {ko : Option Int → Sto → Prop} : dNoP δ S ko = ko none S := propext Iff.rfl
def intq (x : D) (k : Int → Prop) (_ : Tag k) : Prop := match x with
  | .int z => k z
  | _ => False
theorem x_part {ko : Option Int → Sto → Prop} : dPart da δ S ko = da δ S fun x S1 => intq x (fun i => ko (some i) S1) ⟨⟩ := propext (by unfold dPart intq; exact Iff.rfl)
theorem x_intq {i : Int} {ki : Int → Prop} : intq (.int i) ki ⟨⟩ = ki i := propext Iff.rfl
theorem x_aug {f : Int → Int → Int} : dAug i f de E δ S = rdv δ[i]? S (fun x _ => intq x (fun a => de δ S fun y S1 => intq y (fun b => E.nx (δ.set i (some (.int (f a b)))) S1) ⟨⟩) ⟨⟩) ⟨⟩ := propext (by
  unfold dAug rdv intq
  cases h : δ[i]? with
  | none => exact Iff.rfl
  | some o =>
    cases o with
    | none => exact Iff.rfl
    | some d => cases d <;> exact Iff.rfl)
theorem x_slL {l u : Option Int} : stL oSlL (.list ds) l u S k ⟨⟩ = k (.list (cutD ds l u)) S := propext Iff.rfl
theorem x_slC {l u : Option Int} : stL oSlL (.scr ds) l u S k ⟨⟩ = k (.list (cutD ds l u)) S := propext Iff.rfl
theorem x_slS {l u : Option Int} {z : Str} : stL oSlS (.str z) l u S k ⟨⟩ = few z.length (k (.str (cutS z l u)) S) ⟨⟩ := propext Iff.rfl
/-! in, == -/
theorem x_in {neg : Bool} : oIn neg x y S k = st2 (oIn neg) x y S k ⟨⟩ := propext Iff.rfl
theorem x_inT (h1 : flatD x = true) (h2 : ds.all flatD = true) : st2 (oIn false) x (.tup ds) S k ⟨⟩ = k (.bl (inD x ds)) S :=
  (seq_of (Q := fun es => flatD x = true ∧ es.all flatD = true ∧ k (.bl (inD x es)) S) (show SeqD S (.tup ds) ds from rfl)).trans (propext ⟨fun z => z.2.2, fun z => ⟨h1, h2, z⟩⟩)
theorem x_inL (h1 : flatD x = true) (h2 : ds.all flatD = true) : st2 (oIn false) x (.list ds) S k ⟨⟩ = k (.bl (inD x ds)) S :=
  (seq_of (Q := fun es => flatD x = true ∧ es.all flatD = true ∧ k (.bl (inD x es)) S) (show SeqD S (.list ds) ds from rfl)).trans (propext ⟨fun z => z.2.2, fun z => ⟨h1, h2, z⟩⟩)
theorem x_ninT (h1 : flatD x = true) (h2 : ds.all flatD = true) : st2 (oIn true) x (.tup ds) S k ⟨⟩ = k (.bl (!inD x ds)) S :=
  (seq_of (Q := fun es => flatD x = true ∧ es.all flatD = true ∧ k (.bl (!inD x es)) S) (show SeqD S (.tup ds) ds from rfl)).trans (propext ⟨fun z => z.2.2, fun z => ⟨h1, h2, z⟩⟩)
theorem x_ninL (h1 : flatD x = true) (h2 : ds.all flatD = true) : st2 (oIn true) x (.list ds) S k ⟨⟩ = k (.bl (!inD x ds)) S :=
  (seq_of (Q := fun es => flatD x = true ∧ es.all flatD = true ∧ k (.bl (!inD x es)) S) (show SeqD S (.list ds) ds from rfl)).trans (propext ⟨fun z => z.2.2, fun z => ⟨h1, h2, z⟩⟩)
theorem x_ninR (h : S a = some (.lst ds)) (h1 : flatD x = true) (h2 : ds.all flatD = true) : st2 (oIn true) x (.ref a) S k ⟨⟩ = k (.bl (!inD x ds)) S :=
  (seq_of (Q := fun es => flatD x = true ∧ es.all flatD = true ∧ k (.bl (!inD x es)) S) (show SeqD S (.ref a) ds from h)).trans (propext ⟨fun z => z.2.2, fun z => ⟨h1, h2, z⟩⟩)
theorem x_inN : inD x [] = false := by simp [inD, inV]
theorem x_inSS {s z : Str} : inD (.str s) (.str z :: ds) = (decide (s = z) || inD (.str s) ds) := by
  unfold inD
  rw [List.map_cons]
  show (([V.str z] ++ _).any _) = _
  rw [List.any_append]
  congr 1
  show ((z == s) || false) = _
  rw [Bool.or_false, Bool.eq_iff_iff]
  simp only [beq_iff_eq, decide_eq_true_eq]
  exact eq_comm
theorem x_inSI {s : Str} {z : Int} : inD (.str s) (.int z :: ds) = inD (.str s) ds := by unfold inD; rfl
theorem x_inIS {s : Int} {z : Str} : inD (.int s) (.str z :: ds) = inD (.int s) ds := by unfold inD; rfl
theorem x_inII {s z : Int} : inD (.int s) (.int z :: ds) = (decide (s = z) || inD (.int s) ds) := by
  unfold inD
  rw [List.map_cons]
  show (([V.int z] ++ _).any _) = _
  rw [List.any_append]
  congr 1
  show ((z == s) || false) = _
  rw [Bool.or_false, Bool.eq_iff_iff]
  simp only [beq_iff_eq, decide_eq_true_eq]
  exact eq_comm
theorem x_sg {neg : Bool} : oSg neg x y S k = st2 (oSg neg) x y S k ⟨⟩ := propext Iff.rfl
theorem x_sgS {c : Nat} {z : Str} : st2 (oSg false) (.str ⟨#[c]⟩) (.str z) S k ⟨⟩ = k (.bl (decide (c ∈ z.cps.toList))) S := propext ⟨fun ⟨d, e, q⟩ => by
  have : c = d := by injection e with e; injection e with e; simpa using congrArg (fun a : Array Nat => a.toList) e
  subst this
  exact q, fun q => ⟨c, rfl, q⟩⟩
theorem x_nsgS {c : Nat} {z : Str} : st2 (oSg true) (.str ⟨#[c]⟩) (.str z) S k ⟨⟩ = k (.bl (!decide (c ∈ z.cps.toList))) S := propext ⟨fun ⟨d, e, q⟩ => by
  have : c = d := by injection e with e; injection e with e; simpa using congrArg (fun a : Array Nat => a.toList) e
  subst this
  exact q, fun q => ⟨c, rfl, q⟩⟩
theorem x_eqD {neg : Bool} : oEqD neg x y S k = st2 (oEqD neg) x y S k ⟨⟩ := propext Iff.rfl
theorem x_inDD {neg : Bool} : oInD neg x y S k = st2 (oInD neg) x y S k ⟨⟩ := propext Iff.rfl
theorem x_mulS {a : Str} {n : Int} : oMulS (.str a) (.int n) S k = need (a.length ≤ 16 ∧ -(2 ^ 63 : Int) ≤ n ∧ n ≤ 1048576) (k (.str (Txt.mul a n)) S) ⟨⟩ := propext ⟨fun ⟨a, b, c, d⟩ => ⟨⟨a, b, c⟩, d⟩, fun ⟨⟨a, b, c⟩, d⟩ => ⟨a, b, c, d⟩⟩
/-! isinstance, any, all, sorted, .. -/
theorem x_isi {xs : List D} : oIsi xs S k = stC oIsi xs S k ⟨⟩ := propext Iff.rfl
theorem isi_of {c t : String} (h : tyD S x = some t) (hc : c ∈ Cs) : stC oIsi [x, .ty c] S k ⟨⟩ = k (.bl (isB t c)) S := propext ⟨fun ⟨u, hu, _, q⟩ => by rw [h] at hu; cases hu; exact q, fun q => ⟨t, h, hc, q⟩⟩
theorem x_isiS {s : Str} {c : String} (hc : c ∈ Cs) : stC oIsi [.str s, .ty c] S k ⟨⟩ = k (.bl (isB "str" c)) S := isi_of rfl hc
theorem x_isiI {s : Int} {c : String} (hc : c ∈ Cs) : stC oIsi [.int s, .ty c] S k ⟨⟩ = k (.bl (isB "int" c)) S := isi_of rfl hc
theorem x_isiB {s : Bool} {c : String} (hc : c ∈ Cs) : stC oIsi [.bl s, .ty c] S k ⟨⟩ = k (.bl (isB "bool" c)) S := isi_of rfl hc
theorem x_isiN {c : String} (hc : c ∈ Cs) : stC oIsi [.non, .ty c] S k ⟨⟩ = k (.bl (isB "NoneType" c)) S := isi_of rfl hc
theorem x_isiL {c : String} (hc : c ∈ Cs) : stC oIsi [.list ds, .ty c] S k ⟨⟩ = k (.bl (isB "list" c)) S := isi_of rfl hc
theorem x_isiT {c : String} (hc : c ∈ Cs) : stC oIsi [.tup ds, .ty c] S k ⟨⟩ = k (.bl (isB "tuple" c)) S := isi_of rfl hc
def isTq (c1 c2 : String) (x : D) (S : Sto) (k : DK) (_ : Tag k) : Prop := ∃ t, tyD S x = some t ∧ c1 ∈ Cs ∧ c2 ∈ Cs ∧ k (.bl (isB t c1 || isB t c2)) S
theorem x_isTT {c1 c2 : String} : dIsiT c1 c2 de δ S k = de δ S fun x S1 => isTq c1 c2 x S1 k ⟨⟩ := propext Iff.rfl
theorem isT_of {c1 c2 t : String} (h : tyD S x = some t) (h1 : c1 ∈ Cs) (h2 : c2 ∈ Cs) : isTq c1 c2 x S k ⟨⟩ = k (.bl (isB t c1 || isB t c2)) S := propext ⟨fun ⟨u, hu, _, _, q⟩ => by rw [h] at hu; cases hu; exact q, fun q => ⟨t, h, h1, h2, q⟩⟩
theorem x_itI {c1 c2 : String} {s : Int} (h1 : c1 ∈ Cs) (h2 : c2 ∈ Cs) : isTq c1 c2 (.int s) S k ⟨⟩ = k (.bl (isB "int" c1 || isB "int" c2)) S := isT_of rfl h1 h2
theorem x_itStr {c1 c2 : String} {s : Str} (h1 : c1 ∈ Cs) (h2 : c2 ∈ Cs) : isTq c1 c2 (.str s) S k ⟨⟩ = k (.bl (isB "str" c1 || isB "str" c2)) S := isT_of rfl h1 h2
theorem x_itN {c1 c2 : String} (h1 : c1 ∈ Cs) (h2 : c2 ∈ Cs) : isTq c1 c2 .non S k ⟨⟩ = k (.bl (isB "NoneType" c1 || isB "NoneType" c2)) S := isT_of rfl h1 h2
theorem x_itB {c1 c2 : String} {s : Bool} (h1 : c1 ∈ Cs) (h2 : c2 ∈ Cs) : isTq c1 c2 (.bl s) S k ⟨⟩ = k (.bl (isB "bool" c1 || isB "bool" c2)) S := isT_of rfl h1 h2
theorem x_itLst {c1 c2 : String} (h1 : c1 ∈ Cs) (h2 : c2 ∈ Cs) : isTq c1 c2 (.list ds) S k ⟨⟩ = k (.bl (isB "list" c1 || isB "list" c2)) S := isT_of rfl h1 h2
theorem x_itTup {c1 c2 : String} (h1 : c1 ∈ Cs) (h2 : c2 ∈ Cs) : isTq c1 c2 (.tup ds) S k ⟨⟩ = k (.bl (isB "tuple" c1 || isB "tuple" c2)) S := isT_of rfl h1 h2
theorem ixSeq {j : Nat} {d : D} (h : SeqD S x ds) (hd : ds[j]? = some d) (q : k d S) : ixq x (j : Int) S k ⟨⟩ := by
  cases x with
  | list l => exact ixAt (.inl rfl) (by rw [show l = ds from h]; exact hd) q
  | tup l => exact ixAt (.inr (.inl rfl)) (by rw [show l = ds from h]; exact hd) q
  | scr l => exact ixAt (.inr (.inr rfl)) (by rw [show l = ds from h]; exact hd) q
  | ref a => exact ⟨ds, d, h, atI_nat hd, q⟩
  | _ => exact (show False from h).elim
theorem x_any {xs : List D} : oAny xs S k = stC oAny xs S k ⟨⟩ := propext Iff.rfl
theorem x_all {xs : List D} : oAll xs S k = stC oAll xs S k ⟨⟩ := propext Iff.rfl
theorem x_sum {xs : List D} : oSum xs S k = stC oSum xs S k ⟨⟩ := propext Iff.rfl
theorem x_srtI {xs : List D} : oSortI xs S k = stC oSortI xs S k ⟨⟩ := propext Iff.rfl
theorem x_srtS {xs : List D} : oSortS xs S k = stC oSortS xs S k ⟨⟩ := propext Iff.rfl
theorem x_intS {z : Str} : oIntS [.str z] S k = stC oIntS [.str z] S k ⟨⟩ := propext Iff.rfl
theorem x_lenRf : oLen [.ref a] S k = stC oLen [.ref a] S k ⟨⟩ := propext Iff.rfl
theorem lenRf (h : S a = some (.lst ds)) (q : k (.int ds.length) S) : stC oLen [.ref a] S k ⟨⟩ := by
  show oLen [.ref a] S k
  rw [x_lenR h]
  exact q
theorem x_tupRf : oTuple [.ref a] S k = stC oTuple [.ref a] S k ⟨⟩ := propext Iff.rfl
def frzq (x : D) (S : Sto) (k : DK) (_ : Tag k) : Prop := ∃ a ds, x = .ref a ∧ S a = some (.lst ds) ∧ k (.list ds) (del S a)
theorem frzOf (h : S a = some (.lst ds)) (q : k (.list ds) (del S a)) : frzq (.ref a) S k ⟨⟩ := ⟨a, ds, rfl, h, q⟩
theorem x_frz' : dFrz i δ S k = rdv δ[i]? S (fun x _ => frzq x S k ⟨⟩) ⟨⟩ := x_frz
end
end DL

set_option Elab.async false
set_option linter.all false
set_option maxRecDepth 100000
/-! ### classes of the program's own -/
namespace DL
open PySem L2 Evl EX
/-- a class: what the text has of it, its fields -/
structure ClsD (K : PySem.W.Frag) (C : Addr) (flds : List Str) : Prop where
  cl : Cls K C
  nF : ∀ f ∈ flds, NoAttr K C f
structure MDef (P : Program) (w : World) (K : PySem.W.Frag) (mg : Str → Option Value) (base : Heap) (k : Nat) (C : Addr) (m : Str) (ps : List Str) (sp : Sp) : Prop where
  ex : ∃ (f : Addr) (fd : FuncData), FnOk P w K mg base CX0 k f fd ps sp ∧ Meth K C m f ∧ Binds K fd ps []
structure MkDef (P : Program) (w : World) (K : PySem.W.Frag) (mg : Str → Option Value) (base : Heap) (k : Nat) (x : Str) (C : Addr) (ps : List Str) (sp : Sp) : Prop where
  ex : ∃ (f : Addr) (fd : FuncData), Mk K C f ∧ FnOk P w K mg base CX0 k f fd ps sp ∧ mg x = some (.ref C) ∧ Binds K fd ps []
def putFD (f : Str) (v : D) : List (Str × D) → List (Str × D)
  | [] => [(f, v)]
  | (g, w) :: r => if g = f then (g, v) :: r else (g, w) :: putFD f v r
section
variable {K : PySem.W.Frag} {B : Hp}
theorem rdkv_lookup {f : Str} : ∀ {fs : List (Str × V)} {gs : List (Str × D)}, RdKV K B fs gs → ∀ {d : D}, gs.lookup f = some d → ∃ v, fs.lookup f = some v ∧ RdD K B v d
  | _, _, .nil, _, h => by cases h
  | (a, v) :: fs, (b, e) :: gs, .cons h r, d, hd => by
    obtain ⟨h1, h2⟩ := h
    have h1 : a = b := h1
    subst h1
    rw [List.lookup_cons] at hd ⊢
    cases q : f == a with
    | true => rw [q] at hd; cases hd; exact ⟨v, rfl, h2⟩
    | false => rw [q] at hd; exact rdkv_lookup r hd
theorem rdkv_none {f : Str} : ∀ {fs : List (Str × V)} {gs : List (Str × D)}, RdKV K B fs gs → gs.lookup f = none → fs.lookup f = none
  | _, _, .nil, _ => rfl
  | (a, v) :: fs, (b, e) :: gs, .cons h r, hd => by
    have h1 : a = b := h.1
    subst h1
    rw [List.lookup_cons] at hd ⊢
    cases q : f == a with
    | true => rw [q] at hd; cases hd
    | false => rw [q] at hd; exact rdkv_none r hd
theorem rdkv_put {f : Str} {v : V} {d : D} (hv : RdD K B v d) : ∀ {fs : List (Str × V)} {gs : List (Str × D)}, RdKV K B fs gs → RdKV K B (putF f v fs) (putFD f d gs)
  | _, _, .nil => .cons ⟨rfl, hv⟩ .nil
  | (a, w) :: fs, (b, e) :: gs, .cons h r => by
    have h1 : a = b := h.1
    subst h1
    unfold putF putFD
    by_cases q : a = f
    · rw [if_pos q, if_pos q]
      exact .cons ⟨rfl, hv⟩ r
    · rw [if_neg q, if_neg q]
      exact .cons h (rdkv_put hv r)
end
def fldq (C : Addr) (x : D) (f : Str) (S : Sto) (k : DK) (_ : Tag k) : Prop := ∃ a dx fs v, x = .ref a ∧ S a = some (.ins C dx fs) ∧ fs.lookup f = some v ∧ k v S
def dFld (C : Addr) (de : DE) (f : Str) : DE := fun δ S k => de δ S fun x S1 => fldq C x f S1 k ⟨⟩
def fldsq (C : Addr) (x : D) (f : Str) (y : D) (S : Sto) (k : Sto → Prop) (_ : Tag k) : Prop := ∃ a dx fs, x = .ref a ∧ S a = some (.ins C dx fs) ∧ fs.length < 1000 ∧ k (put S a (.ins C dx (putFD f y fs)))
def dFldS (C : Addr) (dv dO : DE) (f : Str) : DS := fun E δ S => dv δ S fun y S1 => dO δ S1 fun x S2 => fldsq C x f y S2 (fun S3 => E.nx δ S3) ⟨⟩
/-- o.f op= e, of ints -/
def dFldA (C : Addr) (g : Int → Int → Int) (dv dO : DE) (f : Str) : DS := fun E δ S => dO δ S fun x S1 => fldq C x f S1 (fun v S2 => dv δ S2 fun y S3 => st2 (oI fun i j => .int (g i j)) v y S3 (fun z S4 => fldsq C x f z S4 (fun S5 => E.nx δ S5) ⟨⟩) ⟨⟩) ⟨⟩
def dMeth (C : Addr) (m : Str) (f : SpD) (dO : DE) (da : DA) : DE := fun δ S k => dO δ S fun x S1 => need (∃ a dx fs, x = .ref a ∧ S1 a = some (.ins C dx fs) ∧ fs.lookup m = none) (da δ S1 fun xs S2 => ask f (x :: xs) S2 k ⟨⟩) ⟨⟩
def dMake (C : Addr) (f : SpD) (da : DA) : DE := fun δ S k => da δ S fun xs S1 => fresh S1 (fun a => ∀ dx, ask f (.ref a :: xs) (put S1 a (.ins C dx [])) (fun v S2 => v = .non ∧ k (.ref a) S2) ⟨⟩) ⟨⟩
section
variable {X : Cx} {K : PySem.W.Frag} {W : WXD} {C : Addr} {o e value : Expr} {es : List Expr} {f m x : Str} {dO dv de : DE} {da : DA} {pos pos' apos tpos p : Pos} {flds : List Str} {k : Nat} {ps : List Str} {sp : SpD}
theorem de_fld (hc : ClsD K C flds) (hf : f ∈ flds) (h : PE X e (lE K de)) (hb : attributeBase e f X.env (eval e X.env) = eval e X.env := by rfl) (hk : X.K = K := by rfl) : PE X (.Attribute e f pos) (lE K (dFld C de f)) := by
  subst hk
  refine peOf (pe_fld h hb) fun σ H Q ⟨B, δ, S, k, s, r, h, q⟩ => ⟨B, δ, S, _, s, r, h, fun x S1 v B1 H1 h1 e1 r1 d1 => ?_⟩
  obtain ⟨a, dx, fs, v', rfl, ha, hl, h1⟩ := h1
  obtain ⟨gs, hg, rg⟩ := r1.ins ha
  obtain ⟨w, hw, rw'⟩ := rdkv_lookup rg hl
  cases rd_ref d1
  exact ⟨a, C, dx, gs, w, rfl, hg, hc.cl, hc.nF f hf, hw, q _ S1 _ B1 H1 h1 e1 r1 rw'⟩
theorem ds_fld (hc : ClsD K C flds) (hf : f ∈ flds) (ha : PE X o (lE K dO)) (hv : PE X value (lE K dv)) (hs : swapsWith value (some (.Attribute o f pos')) pos.line X.env = pure false := by rfl) (hk : X.K = K := by rfl) : PS X (.Assign [.Attribute o f pos'] value pos) (lS K W (dFldS C dv dO f)) := by
  subst hk
  refine psOf (ps_fld ha hv hs) fun E σ H ⟨B, δ, S, D, s, r, h, l⟩ => ⟨B, δ, S, _, s, r, h, fun y S1 w B1 H1 h1 e1 r1 d1 => ⟨B1, δ, S1, _, s.mono e1, r1, h1, fun x S2 v B2 H2 h2 e2 r2 d2 => ?_⟩⟩
  obtain ⟨a, dx, fs, rfl, ha, hl, h2⟩ := h2
  obtain ⟨gs, hg, rg⟩ := r2.ins ha
  cases rd_ref d2
  exact ⟨a, C, dx, gs, rfl, hg, hc.cl, hc.nF f hf, by rw [rdkv_len rg]; exact hl, l.nx δ _ σ B2 _ h2 (e1.trans e2) (s.mono (e1.trans e2)) (r2.mut ha (.ins (rdkv_put (d1.mono e2) rg)))⟩
theorem ds_fldaug {op : Operator} {g : Int → Int → Int} (hc : ClsD K C flds) (hf : f ∈ flds) (ha : PE X o (lE K dO)) (hv : PE X value (lE K dv)) (ho : InOp X op (fun x y H Q => ∃ i j, x = .int i ∧ y = .int j ∧ Q (.int (g i j)) H)) (hk : X.K = K := by rfl) : PS X (.AugAssign (.Attribute o f tpos) op value pos) (lS K W (dFldA C g dv dO f)) := by
  subst hk
  refine psOf (ps_fldaug ha hv ho) fun E σ H ⟨B, δ, S, D, s, r, h, l⟩ => ⟨B, δ, S, _, s, r, h, fun x S1 v B1 H1 h1 e1 r1 d1 => ?_⟩
  obtain ⟨a, dx, fs, v', rfl, ha, hl, h1⟩ := h1
  obtain ⟨gs, hg, rg⟩ := r1.ins ha
  obtain ⟨w, hw, rw'⟩ := rdkv_lookup rg hl
  cases rd_ref d1
  refine ⟨a, C, dx, gs, w, rfl, hg, hc.cl, hc.nF f hf, hw, B1, δ, S1, _, s.mono e1, r1, h1, fun y S3 v3 B3 H3 h3 e3 r3 d3 => ?_⟩
  have h4 : oI (fun i j => .int (g i j)) v' y S3 _ := h3
  clear h3
  unfold oI at h4
  split at h4
  · rename_i i j
    cases rd_int rw'
    cases rd_int d3
    obtain ⟨a2, dx2, fs2, e2, ha2, hl2, h4⟩ := h4
    cases e2
    obtain ⟨gs2, hg2, rg2⟩ := r3.ins ha2
    exact ⟨i, j, rfl, rfl, dx2, gs2, hg2, by rw [rdkv_len rg2]; exact hl2, l.nx δ _ σ B3 _ h4 (e1.trans e3) (s.mono (e1.trans e3)) (r3.mut ha2 (.ins (rdkv_put (.int _) rg2)))⟩
  · exact h4.elim
theorem de_meth {pl : Sem Bool} (hc : ClsD K C flds) (h : MDef X.prog X.w X.K X.mg X.base k C m ps (lSp K sp)) (hr : Room k X.A) (he : PE X o (lE K dO)) (ha : PA X (e :: es) (lA K da))
    (hst : starEach (e :: es) X.env = (false, eval e X.env) :: starEach es X.env := by rfl) (hpl : (backTo pos (starEach es X.env)).any (·.1) = false := by rfl)
    (ht : eval (.Call (.Attribute o m apos) (e :: es) [] pos) X.env = (do
      let ov ← eval o X.env
      standAt apos.atName
      let (f, first) ← holding [ov] (getMethod ov m pl)
      callWith pos f first (backTo pos (starEach (e :: es) X.env)) (backToKw pos (keywordEach [] X.env))) := by rfl) (hk : X.K = K := by rfl) :
    PE X (.Call (.Attribute o m apos) (e :: es) [] pos) (lE K (dMeth C m sp dO da)) := by
  subst hk
  obtain ⟨f, fd, F, hm, hb⟩ := h.ex
  refine peOf (pe_meth he hc.cl hm F hr hb .nil pass0 ha hst hpl ht) fun σ H Q ⟨B, δ, S, k, s, r, h, q⟩ => ⟨B, δ, S, _, s, r, h, fun x S1 v B1 H1 ⟨⟨a, dx, fs, hx, ha, hl⟩, h1⟩ e1 r1 d1 => ?_⟩
  subst hx
  obtain ⟨gs, hg, rg⟩ := r1.ins ha
  cases rd_ref d1
  refine ⟨a, dx, gs, rfl, hg, rdkv_none rg hl, B1, δ, S1, _, s.mono e1, r1, h1, fun xs S2 vs B2 H2 h2 e2 r2 d2 => ⟨B2, .ref a :: xs, S2, k, _, ?_, r2, h2, fun z S' u B' H' hk e' => q z S' u B' H' hk (e1.trans (e2.trans e')), fun _ _ _ _ _ z => z.elim⟩⟩
  rw [List.append_nil]
  exact .cons (.ref a) d2
theorem de_meth0 {pl : Sem Bool} (hc : ClsD K C flds) (h : MDef X.prog X.w X.K X.mg X.base k C m ps (lSp K sp)) (hr : Room k X.A) (he : PE X o (lE K dO))
    (ht : eval (.Call (.Attribute o m apos) [] [] pos) X.env = (do
      let ov ← eval o X.env
      standAt apos.atName
      let (f, first) ← holding [ov] (getMethod ov m pl)
      callWith pos f first (backTo pos (starEach [] X.env)) (backToKw pos (keywordEach [] X.env))) := by rfl) (hk : X.K = K := by rfl) :
    PE X (.Call (.Attribute o m apos) [] [] pos) (lE K (dMeth C m sp dO dNil)) := by
  subst hk
  obtain ⟨f, fd, F, hm, hb⟩ := h.ex
  refine peOf (pe_meth0 he hc.cl hm F hr hb .nil pass0 ht) fun σ H Q ⟨B, δ, S, k, s, r, h, q⟩ => ⟨B, δ, S, _, s, r, h, fun x S1 v B1 H1 ⟨⟨a, dx, fs, hx, ha, hl⟩, h1⟩ e1 r1 d1 => ?_⟩
  subst hx
  obtain ⟨gs, hg, rg⟩ := r1.ins ha
  cases rd_ref d1
  exact ⟨a, dx, gs, rfl, hg, rdkv_none rg hl, B1, [.ref a], S1, k, _, .one (.ref a), r1, h1, fun z S' u B' H' hk e' => q z S' u B' H' hk (e1.trans e'), fun _ _ _ _ _ z => z.elim⟩
theorem R.made {B H : Hp} {S : Sto} (r : R K B S H) {a dx : Addr} (h1 : H a = none) (h2 : H dx = none) (hn : dx ≠ a) : R K (upd B dx (.own a)) (put S a (.ins C dx [])) (upd (upd H dx (.own a)) a (.ins C dx [])) ∧ Ex B (upd B dx (.own a)) := by
  have n := r.new (o := .own a) h2
  exact ⟨n.1.newS (by rw [upd_ne hn.symm]; exact h1) (.ins .nil), n.2⟩
theorem de_make (h : MkDef X.prog X.w X.K X.mg X.base k x C ps (lSp K sp)) (hr : Room (k + 1) X.A) (hg : Gl X x) (ha : PA X (e :: es) (lA K da))
    (hdb : (x == ("__debug__" : Str)) = false := by decide) (he : starEach (e :: es) X.env = (false, eval e X.env) :: starEach es X.env := by rfl) (hpl : (backTo pos (starEach es X.env)).any (·.1) = false := by rfl) (hk : X.K = K := by rfl) :
    PE X (.Call (.Name x p) (e :: es) [] pos) (lE K (dMake C sp da)) := by
  subst hk
  obtain ⟨f, fd, M, F, hm, hb⟩ := h.ex
  refine peOf (pe_make M F hr hg hm hb .nil pass0 ha hdb he hpl) fun σ H Q ⟨B, δ, S, k, s, r, h, q⟩ => ⟨B, δ, S, _, s, r, h, fun xs S1 vs B1 H1 h1 e1 r1 d1 a dx na nd ne => ?_⟩
  have r2 := r1.made (C := C) na nd ne
  refine ⟨_, .ref a :: xs, _, _, _, ?_, r2.1, h1 a (r1.fresh na).2 dx, fun v S2 u B2 H2 ⟨hv, hk⟩ e2 r2' d2 => ?_, fun _ _ _ _ _ z => z.elim⟩
  · rw [List.append_nil]
    exact .cons (.ref a) (d1.mono r2.2)
  · subst hv
    exact ⟨rd_non d2, q _ S2 _ B2 H2 hk (e1.trans (r2.2.trans e2)) r2' (.ref a)⟩
end
section
variable {δ : Dst} {S : Sto} {k : DK} {E : DEnds} {dO dv de : DE} {da : DA} {C a dx : Addr} {f m : Str} {fs : List (Str × D)} {v y : D} {g : Int → Int → Int} {sp : SpD}
theorem x_fld : dFld C de f δ S k = de δ S fun x S1 => fldq C x f S1 k ⟨⟩ := propext Iff.rfl
theorem x_fldS : dFldS C dv dO f E δ S = dv δ S fun y S1 => dO δ S1 fun x S2 => fldsq C x f y S2 (fun S3 => E.nx δ S3) ⟨⟩ := propext Iff.rfl
theorem x_fldA : dFldA C g dv dO f E δ S = dO δ S fun x S1 => fldq C x f S1 (fun v S2 => dv δ S2 fun y S3 => st2 (oI fun i j => .int (g i j)) v y S3 (fun z S4 => fldsq C x f z S4 (fun S5 => E.nx δ S5) ⟨⟩) ⟨⟩) ⟨⟩ := propext Iff.rfl
theorem x_meth : dMeth C m sp dO da δ S k = dO δ S fun x S1 => need (∃ a dx fs, x = .ref a ∧ S1 a = some (.ins C dx fs) ∧ fs.lookup m = none) (da δ S1 fun xs S2 => ask sp (x :: xs) S2 k ⟨⟩) ⟨⟩ := propext Iff.rfl
theorem x_make : dMake C sp da δ S k = da δ S fun xs S1 => fresh S1 (fun a => ∀ dx, ask sp (.ref a :: xs) (put S1 a (.ins C dx [])) (fun v S2 => v = .non ∧ k (.ref a) S2) ⟨⟩) ⟨⟩ := propext Iff.rfl
theorem fldOf (h : S a = some (.ins C dx fs)) (hl : fs.lookup f = some v) (q : k v S) : fldq C (.ref a) f S k ⟨⟩ := ⟨a, dx, fs, v, rfl, h, hl, q⟩
theorem fldsOf {k : Sto → Prop} (h : S a = some (.ins C dx fs)) (hl : fs.length < 1000) (q : k (put S a (.ins C dx (putFD f y fs)))) : fldsq C (.ref a) f y S k ⟨⟩ := ⟨a, dx, fs, rfl, h, hl, q⟩
theorem methOf {x : D} (h : S a = some (.ins C dx fs)) (hl : fs.lookup m = none) : ∃ b dy gs, D.ref a = .ref b ∧ S b = some (.ins C dy gs) ∧ gs.lookup m = none := ⟨a, dx, fs, rfl, h, hl⟩
end
end DL

set_option Elab.async false
set_option linter.all false
set_option maxRecDepth 100000
/-! ### dicts of the store -/
namespace DL
open PySem L2 Evl EX
def keyD : D → Option Key
  | .int i => some (.inl i)
  | .str s => some (.inr s)
  | _ => none
def gval {β : Type} (kvs : List (Key × β)) (k : Key) : Option β := (kvs.find? fun kv => decide (kv.1 = k)).map (·.2)
def gput {β : Type} (kvs : List (Key × β)) (k : Key) (v : β) : List (Key × β) := if (kvs.any fun kv => decide (kv.1 = k)) = true then kvs.map (fun kv => if kv.1 = k then (kv.1, v) else kv) else kvs ++ [(k, v)]
def gdrop {β : Type} (kvs : List (Key × β)) (k : Key) : List (Key × β) := kvs.filter fun kv => decide (kv.1 ≠ k)
def dK (k : Key) : D := match k with
  | .inl i => .int i
  | .inr s => .str s
section
variable {K : PySem.W.Frag} {B : Hp}
theorem keyD_ok {v : V} {d : D} {k : Key} (h : keyD d = some k) (r : RdD K B v d) : v = kV k := by
  cases r <;> first | (cases h; rfl) | cases h
theorem rd_kV (k : Key) : RdD K B (kV k) (dK k) := by
  cases k with
  | inl i => exact .int i
  | inr s => exact .str s
theorem rdkv_val {k : Key} : ∀ {fs : List (Key × V)} {gs : List (Key × D)}, RdKV K B fs gs → match gval gs k with
    | some d => ∃ v, valV fs k = some v ∧ RdD K B v d
    | none => valV fs k = none
  | _, _, .nil => rfl
  | (a, v) :: fs, (b, e) :: gs, .cons h r => by
    have h1 : a = b := h.1
    subst h1
    have ih := rdkv_val (k := k) r
    by_cases q : a = k
    · have e1 : gval ((a, e) :: gs) k = some e := by simp [gval, List.find?_cons, q]
      rw [e1]
      exact ⟨v, by simp [valV, List.find?_cons, q], h.2⟩
    · have e1 : gval ((a, e) :: gs) k = gval gs k := by simp [gval, List.find?_cons, q]
      have e2 : valV ((a, v) :: fs) k = valV fs k := by simp [valV, List.find?_cons, q]
      rw [e1, e2]
      exact ih
theorem rdkv_some {k : Key} {fs : List (Key × V)} {gs : List (Key × D)} {d : D} (r : RdKV K B fs gs) (h : gval gs k = some d) : ∃ v, valV fs k = some v ∧ RdD K B v d := by
  have := rdkv_val (k := k) r
  rw [h] at this
  exact this
theorem rdkv_isSome {k : Key} {fs : List (Key × V)} {gs : List (Key × D)} (r : RdKV K B fs gs) : (valV fs k).isSome = (gval gs k).isSome := by
  have := rdkv_val (k := k) r
  cases h : gval gs k with
  | none => rw [h] at this; rw [this]; rfl
  | some d => rw [h] at this; obtain ⟨v, hv, _⟩ := this; rw [hv]; rfl
theorem rdkv_any {k : Key} : ∀ {fs : List (Key × V)} {gs : List (Key × D)}, RdKV K B fs gs → (fs.any fun kv => decide (kv.1 = k)) = (gs.any fun kv => decide (kv.1 = k))
  | _, _, .nil => rfl
  | (a, v) :: fs, (b, e) :: gs, .cons h r => by
    have h1 : a = b := h.1
    subst h1
    rw [List.any_cons, List.any_cons, rdkv_any r]
theorem rdkv_map {k : Key} {v : V} {d : D} (hv : RdD K B v d) : ∀ {fs : List (Key × V)} {gs : List (Key × D)}, RdKV K B fs gs → RdKV K B (fs.map fun kv => if kv.1 = k then (kv.1, v) else kv) (gs.map fun kv => if kv.1 = k then (kv.1, d) else kv)
  | _, _, .nil => .nil
  | (a, w) :: fs, (b, e) :: gs, .cons h r => by
    have h1 : a = b := h.1
    subst h1
    rw [List.map_cons, List.map_cons]
    refine .cons ?_ (rdkv_map hv r)
    show (if a = k then (a, v) else (a, w)).1 = (if a = k then (a, d) else (a, e)).1 ∧ RdD K B (if a = k then (a, v) else (a, w)).2 (if a = k then (a, d) else (a, e)).2
    by_cases q : a = k
    · rw [if_pos q, if_pos q]
      exact ⟨rfl, hv⟩
    · rw [if_neg q, if_neg q]
      exact ⟨rfl, h.2⟩
theorem rdkv_app : ∀ {fs fs' : List (Key × V)} {gs gs' : List (Key × D)}, RdKV K B fs gs → RdKV K B fs' gs' → RdKV K B (fs ++ fs') (gs ++ gs')
  | _, _, _, _, .nil, s => s
  | _, _, _, _, .cons h r, s => .cons h (rdkv_app r s)
theorem rdkv_gput {k : Key} {v : V} {d : D} (hv : RdD K B v d) {fs : List (Key × V)} {gs : List (Key × D)} (r : RdKV K B fs gs) : RdKV K B (putK fs k v) (gput gs k d) := by
  unfold putK gput
  rw [rdkv_any r]
  split
  · exact rdkv_map hv r
  · exact rdkv_app r (.cons ⟨rfl, hv⟩ .nil)
theorem rdkv_drop {k : Key} : ∀ {fs : List (Key × V)} {gs : List (Key × D)}, RdKV K B fs gs → RdKV K B (dropK fs k) (gdrop gs k)
  | _, _, .nil => .nil
  | (a, w) :: fs, (b, e) :: gs, .cons h r => by
    have h1 : a = b := h.1
    subst h1
    unfold dropK gdrop
    rw [List.filter_cons, List.filter_cons]
    by_cases q : a = k
    · simp only [q, ne_eq, not_true_eq_false, decide_false, Bool.false_eq_true, if_false]
      exact rdkv_drop r
    · simp only [q, ne_eq, not_false_eq_true, decide_true, if_true]
      exact .cons h (rdkv_drop r)
theorem rdkv_keys : ∀ {fs : List (Key × V)} {gs : List (Key × D)}, RdKV K B fs gs → fs.map (·.1) = gs.map (·.1)
  | _, _, .nil => rfl
  | (a, w) :: fs, (b, e) :: gs, .cons h r => by
    have h1 : a = b := h.1
    subst h1
    rw [List.map_cons, List.map_cons, rdkv_keys r]
theorem rdl_keys : ∀ ks : List Key, RdL K B (ks.map kV) (ks.map dK)
  | [] => .nil
  | k :: ks => .cons (rd_kV k) (rdl_keys ks)
end
def dgetq (x y : D) (S : Sto) (k : DK) (_ : Tag k) : Prop := ∃ a kvs key v, x = .ref a ∧ DctAt S a kvs ∧ keyD y = some key ∧ gval kvs key = some v ∧ k v S
def dDGet (dd dk : DE) : DE := fun δ S k => dd δ S fun x S1 => dk δ S1 fun y S2 => dgetq x y S2 k ⟨⟩
def dinq (neg : Bool) (y x : D) (S : Sto) (k : DK) (_ : Tag k) : Prop := ∃ a kvs key, x = .ref a ∧ DctAt S a kvs ∧ keyD y = some key ∧ k (.bl (if neg then !(gval kvs key).isSome else (gval kvs key).isSome)) S
def dDIn (neg : Bool) (dk dd : DE) : DE := fun δ S k => dk δ S fun y S1 => dd δ S1 fun x S2 => dinq neg y x S2 k ⟨⟩
def isDq (x : D) (S : Sto) (A : Prop) (_ : Tag A) : Prop := (∃ a kvs, x = .ref a ∧ DctAt S a kvs) ∧ A
def dgorq (x y : D) (z : D) (S : Sto) (k : DK) (_ : Tag k) : Prop := ∃ a kvs key, x = .ref a ∧ DctAt S a kvs ∧ keyD y = some key ∧ k ((gval kvs key).getD z) S
def dDGet1 (dd dk : DE) : DE := fun δ S k => dd δ S fun x S1 => isDq x S1 (dk δ S1 fun y S2 => dgorq x y .non S2 k ⟨⟩) ⟨⟩
def dDGet2 (dd dk dz : DE) : DE := fun δ S k => dd δ S fun x S1 => isDq x S1 (dk δ S1 fun y S2 => dz δ S2 fun z S3 => dgorq x y z S3 k ⟨⟩) ⟨⟩
def dpopq (x y : D) (S : Sto) (k : DK) (_ : Tag k) : Prop := ∃ a kvs key v, x = .ref a ∧ S a = some (.dct kvs) ∧ keyD y = some key ∧ gval kvs key = some v ∧ k v (put S a (.dct (gdrop kvs key)))
def dDPop (dd dk : DE) : DE := fun δ S k => dd δ S fun x S1 => isDq x S1 (dk δ S1 fun y S2 => dpopq x y S2 k ⟨⟩) ⟨⟩
def dputq (x y v : D) (S : Sto) (k : Sto → Prop) (_ : Tag k) : Prop := ∃ a kvs key, x = .ref a ∧ S a = some (.dct kvs) ∧ keyD y = some key ∧ kvs.length < 100000 ∧ k (put S a (.dct (gput kvs key v)))
def dDPut (dd dk dv : DE) : DS := fun E δ S => dv δ S fun v S1 => dd δ S1 fun x S2 => dk δ S2 fun y S3 => dputq x y v S3 (fun S4 => E.nx δ S4) ⟨⟩
section
variable {X : Cx} {K : PySem.W.Frag} {W : WXD} {o i e f value : Expr} {dd dk dv dz : DE} {pos pos' apos cpos : Pos}
theorem de_dget (hu : X.A.units + 1 < cLine) (ho : PE X o (lE K dd)) (hi : PE X i (lE K dk)) (hs : NoSl i) : PE X (.Subscript o i pos) (lE K (dDGet dd dk)) := peOf (pe_dget hu ho hi hs) fun σ H Q ⟨B, δ, S, k, s, r, h, q⟩ =>
  ⟨B, δ, S, _, s, r, h, fun x S1 v B1 H1 h1 e1 r1 d1 => ⟨B1, δ, S1, _, s.mono e1, r1, h1, fun y S2 w B2 H2 h2 e2 r2 d2 => by
    obtain ⟨a, kvs, key, z, rfl, ha, hk, hv, h2⟩ := h2
    obtain ⟨gs, hg, rg⟩ := r2.dctR ha
    obtain ⟨u, hu, ru⟩ := rdkv_some rg hv
    cases rd_ref d1
    cases keyD_ok hk d2
    exact ⟨a, u, rfl, .inl ⟨gs, key, hg, rfl, hu.symm⟩, q _ S2 _ B2 H2 h2 (e1.trans e2) r2 ru⟩⟩⟩
theorem pc_dninD {neg : Bool} (hu : X.A.units + 1 < cLine) (hi : PE X i (lE K dk)) (ho : PE X o (lE K dd)) : PC X .NotIn i o (lE K (dDIn true dk dd)) := by
  obtain ⟨r⟩ := pc_dnotin hu hi ho
  refine ⟨fun pins s σ H Q I ⟨B, δ, S, k, sl, rr, h, q⟩ => r pins s σ H Q I ⟨B, δ, S, _, sl, rr, h, fun y S1 w B1 H1 h1 e1 r1 d1 => ⟨B1, δ, S1, _, sl.mono e1, r1, h1, fun x S2 v B2 H2 h2 e2 r2 d2 => ?_⟩⟩⟩
  obtain ⟨a, kvs, key, rfl, ha, hk, h2⟩ := h2
  obtain ⟨gs, hg, rg⟩ := r2.dctR ha
  cases rd_ref d2
  cases keyD_ok hk d1
  exact ⟨a, _, rfl, .inl ⟨gs, key, hg, rfl, rfl⟩, by rw [rdkv_isSome rg]; exact q _ S2 _ B2 H2 h2 (e1.trans e2) r2 (.bl _)⟩
theorem dt_dinN (hu : X.A.units + 1 < cLine) (hi : PE X i (lE K dk)) (ho : PE X o (lE K dd)) (hm : behindInMarks .NotIn o = false := by rfl) : PT X (.Compare i [.NotIn] [o] pos) (lT K (dTest (dDIn true dk dd))) := ptOf (pt_cmp (pc_dninD (neg := true) hu hi ho) hm) l_test
theorem isD_ok {B H : Hp} {S : Sto} {x : D} {v : V} (h : ∃ a kvs, x = .ref a ∧ DctAt S a kvs) (r : R K B S H) (rx : RdD K B v x) : ∃ a, v = .ref a ∧ IsD H a := by
  obtain ⟨a, kvs, rfl, ha⟩ := h
  obtain ⟨gs, hg, _⟩ := r.dctR ha
  exact ⟨a, rd_ref rx, .inl ⟨gs, hg⟩⟩
theorem getD_ok {B : Hp} {gs : List (Key × V)} {kvs : List (Key × D)} {key : Key} {z : D} {w : V} (rg : RdKV K B gs kvs) (hz : RdD K B w z) : RdD K B ((valV gs key).getD w) ((gval kvs key).getD z) := by
  have := rdkv_val (k := key) rg
  cases h : gval kvs key with
  | none => rw [h] at this; rw [this]; exact hz
  | some d => rw [h] at this; obtain ⟨v, hv, rv⟩ := this; rw [hv]; exact rv
theorem de_dgets1 (hu : X.A.units + 1 < cLine) (ho : PE X o (lE K dd)) (he : PE X e (lE K dk)) (m : M1 X o "get" apos e cpos := by exact ⟨rfl, rfl, rfl, rfl⟩) : PE X (.Call (.Attribute o "get" apos) [e] [] cpos) (lE K (dDGet1 dd dk)) := peOf (pe_dget1 hu ho he m) fun σ H Q ⟨B, δ, S, k, s, r, h, q⟩ =>
  ⟨B, δ, S, _, s, r, h, fun x S1 v B1 H1 ⟨hd, h1⟩ e1 r1 d1 => by
    obtain ⟨a0, rfl, hI⟩ := isD_ok hd r1 d1
    refine ⟨a0, rfl, hI, B1, δ, S1, _, s.mono e1, r1, h1, fun y S2 w B2 H2 h2 e2 r2 d2 => ?_⟩
    obtain ⟨a, kvs, key, rfl, ha, hk, h2⟩ := h2
    obtain ⟨gs, hg, rg⟩ := r2.dctR ha
    cases rd_ref d1
    cases keyD_ok hk d2
    exact ⟨_, .inl ⟨gs, key, hg, rfl, rfl⟩, q _ S2 _ B2 H2 h2 (e1.trans e2) r2 (getD_ok rg .non)⟩⟩
theorem de_dpop (ho : PE X o (lE K dd)) (he : PE X e (lE K dk)) (m : M1 X o "pop" apos e cpos := by exact ⟨rfl, rfl, rfl, rfl⟩) : PE X (.Call (.Attribute o "pop" apos) [e] [] cpos) (lE K (dDPop dd dk)) := peOf (pe_dpop1 ho he m) fun σ H Q ⟨B, δ, S, k, s, r, h, q⟩ =>
  ⟨B, δ, S, _, s, r, h, fun x S1 v B1 H1 ⟨hd, h1⟩ e1 r1 d1 => by
    obtain ⟨a0, rfl, hI⟩ := isD_ok hd r1 d1
    refine ⟨a0, rfl, hI, B1, δ, S1, _, s.mono e1, r1, h1, fun y S2 w B2 H2 h2 e2 r2 d2 => ?_⟩
    obtain ⟨a, kvs, key, z, rfl, ha, hk, hv, h2⟩ := h2
    obtain ⟨gs, hg, rg⟩ := r2.dct ha
    obtain ⟨u, hu, ru⟩ := rdkv_some rg hv
    cases rd_ref d1
    cases keyD_ok hk d2
    exact ⟨gs, key, u, hg, rfl, hu, q _ _ _ B2 _ h2 (e1.trans e2) (r2.mut ha (.dct (rdkv_drop rg))) ru⟩⟩
theorem ds_dput (hu : X.A.units + 1 < cLine) (ho : PE X o (lE K dd)) (hi : PE X i (lE K dk)) (hv : PE X value (lE K dv)) (hs : swapsWith value (some (.Subscript o i pos')) pos.line X.env = pure false := by rfl) : PS X (.Assign [.Subscript o i pos'] value pos) (lS K W (dDPut dd dk dv)) := psOf (ps_dput hu ho hi hv hs) fun E σ H ⟨B, δ, S, D, s, r, h, l⟩ =>
  ⟨B, δ, S, _, s, r, h, fun v S1 w B1 H1 h1 e1 r1 d1 => ⟨B1, δ, S1, _, s.mono e1, r1, h1, fun x S2 u B2 H2 h2 e2 r2 d2 => ⟨B2, δ, S2, _, s.mono (e1.trans e2), r2, h2, fun y S3 z B3 H3 h3 e3 r3 d3 => by
    obtain ⟨a, kvs, key, rfl, ha, hk, hl, h3⟩ := h3
    obtain ⟨gs, hg, rg⟩ := r3.dct ha
    cases rd_ref d2
    cases keyD_ok hk d3
    exact ⟨a, _, rfl, .inl ⟨gs, key, hg, rfl, sz_lt (by rw [rdkv_len rg]; exact hl), rfl⟩, l.nx δ _ σ B3 _ h3 (e1.trans (e2.trans e3)) (s.mono (e1.trans (e2.trans e3))) (r3.mut ha (.dct (rdkv_gput (d1.mono (e2.trans e3)) rg)))⟩⟩⟩⟩
end
section
variable {K : PySem.W.Frag}
/-- list(d): its keys; sorted(d) of numbers -/
def oListD : List D → Sto → DK → Prop := fun xs S k => match xs with
  | [.ref a] => ∃ kvs, DctAt S a kvs ∧ k (.list (kvs.map fun kv => dK kv.1)) S
  | _ => False
theorem si_listD : SimC K (fun xs H Q => ∃ (a : Addr) (kvs : List (Key × V)), xs = [.ref a] ∧ Rd H a (.dK kvs) ∧ ∀ p, H p = none → Q (.ref p) (upd H p (.lst (kvs.map fun kv => kV kv.1)))) oListD := fun B S H vs xs k Q r rx h1 q => by
  unfold oListD at h1
  split at h1
  · obtain ⟨v, rfl, rv⟩ := rdl1 rx
    cases rd_ref rv
    obtain ⟨kvs, hs, h1⟩ := h1
    obtain ⟨gs, hg, rg⟩ := r.dctR hs
    refine ⟨_, gs, rfl, hg, fun p hp => ?_⟩
    have n := r.new (o := .lst (gs.map fun kv => kV kv.1)) hp
    refine q _ S _ _ _ h1 n.2 n.1 (.lst upd_same ?_)
    have e1 : (gs.map fun kv => kV kv.1) = (gs.map (·.1)).map kV := by rw [List.map_map]; rfl
    have e2 : (kvs.map fun kv => dK kv.1) = (kvs.map (·.1)).map dK := by rw [List.map_map]; rfl
    rw [e1, e2, rdkv_keys rg]
    exact rdl_keys _
  · exact h1.elim
def oSortDI : List D → Sto → DK → Prop := fun xs S k => match xs with
  | [.ref a] => ∃ (kvs : List (Key × D)) (ks : List Int), S a = some (.dct kvs) ∧ kvs.map (·.1) = ks.map Sum.inl ∧ ks.length < 64 ∧ ∀ ys : List Int, ys.Perm ks → ys.Pairwise (· ≤ ·) → k (.list (ys.map D.int)) S
  | _ => False
end
section
variable {δ : Dst} {S : Sto} {k : DK} {E : DEnds} {dd dk dv dz : DE} {a : Addr} {kvs : List (Key × D)} {key : Key} {x y v z : D} {xs : List D}
theorem x_dget : dDGet dd dk δ S k = dd δ S fun x S1 => dk δ S1 fun y S2 => dgetq x y S2 k ⟨⟩ := propext Iff.rfl
theorem x_din {neg : Bool} : dDIn neg dk dd δ S k = dk δ S fun y S1 => dd δ S1 fun x S2 => dinq neg y x S2 k ⟨⟩ := propext Iff.rfl
theorem x_dget1 : dDGet1 dd dk δ S k = dd δ S fun x S1 => isDq x S1 (dk δ S1 fun y S2 => dgorq x y .non S2 k ⟨⟩) ⟨⟩ := propext Iff.rfl
theorem x_dget2 : dDGet2 dd dk dz δ S k = dd δ S fun x S1 => isDq x S1 (dk δ S1 fun y S2 => dz δ S2 fun z S3 => dgorq x y z S3 k ⟨⟩) ⟨⟩ := propext Iff.rfl
theorem x_dpop : dDPop dd dk δ S k = dd δ S fun x S1 => isDq x S1 (dk δ S1 fun y S2 => dpopq x y S2 k ⟨⟩) ⟨⟩ := propext Iff.rfl
theorem x_dput : dDPut dd dk dv E δ S = dv δ S fun v S1 => dd δ S1 fun x S2 => dk δ S2 fun y S3 => dputq x y v S3 (fun S4 => E.nx δ S4) ⟨⟩ := propext Iff.rfl
theorem x_listD : oListD xs S k = stC oListD xs S k ⟨⟩ := propext Iff.rfl
theorem x_sortDI : oSortDI xs S k = stC oSortDI xs S k ⟨⟩ := propext Iff.rfl
theorem x_lenD : oLenD xs S k = stC oLenD xs S k ⟨⟩ := propext Iff.rfl
theorem dgetOf (h : S a = some (.dct kvs)) (hk : keyD y = some key) (hv : gval kvs key = some v) (q : k v S) : dgetq (.ref a) y S k ⟨⟩ := ⟨a, kvs, key, v, rfl, .inl h, hk, hv, q⟩
theorem dgetOfR (h : DctAt S a kvs) (hk : keyD y = some key) (hv : gval kvs key = some v) (q : k v S) : dgetq (.ref a) y S k ⟨⟩ := ⟨a, kvs, key, v, rfl, h, hk, hv, q⟩
theorem dninOf (h : S a = some (.dct kvs)) (hk : keyD y = some key) (q : k (.bl (!(gval kvs key).isSome)) S) : dinq true y (.ref a) S k ⟨⟩ := ⟨a, kvs, key, rfl, .inl h, hk, q⟩
theorem isDOf {A : Prop} (h : S a = some (.dct kvs)) (q : A) : isDq (.ref a) S A ⟨⟩ := ⟨⟨a, kvs, rfl, .inl h⟩, q⟩
theorem dgorOf (h : S a = some (.dct kvs)) (hk : keyD y = some key) (q : k ((gval kvs key).getD z) S) : dgorq (.ref a) y z S k ⟨⟩ := ⟨a, kvs, key, rfl, .inl h, hk, q⟩
theorem dpopOf (h : S a = some (.dct kvs)) (hk : keyD y = some key) (hv : gval kvs key = some v) (q : k v (put S a (.dct (gdrop kvs key)))) : dpopq (.ref a) y S k ⟨⟩ := ⟨a, kvs, key, v, rfl, h, hk, hv, q⟩
theorem dputOf {k : Sto → Prop} (h : S a = some (.dct kvs)) (hk : keyD y = some key) (hl : kvs.length < 100000) (q : k (put S a (.dct (gput kvs key v)))) : dputq (.ref a) y v S k ⟨⟩ := ⟨a, kvs, key, rfl, h, hk, hl, q⟩
theorem listDOf (h : S a = some (.dct kvs)) (q : k (.list (kvs.map fun kv => dK kv.1)) S) : stC oListD [.ref a] S k ⟨⟩ := ⟨kvs, .inl h, q⟩
theorem gput_new {β : Type} {kvs : List (Key × β)} {v : β} (h : gval kvs key = none) : gput kvs key v = kvs ++ [(key, v)] := by
  unfold gput
  rw [if_neg]
  intro z
  unfold gval at h
  rw [Option.map_eq_none_iff, List.find?_eq_none] at h
  rw [List.any_eq_true] at z
  obtain ⟨p, hp, hq⟩ := z
  exact h p hp hq
end
end DL

set_option Elab.async false
set_option linter.all false
set_option maxRecDepth 100000
/-! ### isinstance beside a class of the program's own -/
namespace DL
open PySem L2 Evl EX
structure IsiC (K : PySem.W.Frag) (C : Addr) : Prop where
  cl : Cls K C
  ha : PySem.W.findIn K (.ref C) "__class__" = some (some (.builtin "object.__class__"))
  hn : PySem.W.specialIn K (.builtin "object.__class__") "__get__" = some (some (.builtin "getset_descriptor.__get__"))
  htk : PySem.W.takesIn K (.builtin "object.__class__") = some true
  hm : PySem.W.mroIn K C (.type "object") = some true
  t1 : PySem.W.kitOne K (.ref C) (.type "bool") = some false
  t2 : PySem.W.kitOne K (.ref C) (.type "int") = some false
  t3 : PySem.W.kitOne K (.ref C) (.type "str") = some false
  f1 : PySem.W.kitOne K (.type "NoneType") (.ref C) = some false
  f2 : PySem.W.kitOne K (.type "bool") (.ref C) = some false
  f3 : PySem.W.kitOne K (.type "int") (.ref C) = some false
  f4 : PySem.W.kitOne K (.type "str") (.ref C) = some false
inductive IsAns (C : Addr) (S : Sto) : D → D → Bool → Prop where
  | ty {x : D} {t c : String} : tyD S x = some t → c ∈ Cs → IsAns C S x (.ty c) (isB t c)
  | ins {a dx : Addr} {fs : List (Str × D)} {c : String} : S a = some (.ins C dx fs) → c = "bool" ∨ c = "int" ∨ c = "str" → IsAns C S (.ref a) (.ty c) false
  | own {a dx : Addr} {fs : List (Str × D)} : S a = some (.ins C dx fs) → IsAns C S (.ref a) (.ref C) true
  | non : IsAns C S .non (.ref C) false
  | bl (b : Bool) : IsAns C S (.bl b) (.ref C) false
  | int (i : Int) : IsAns C S (.int i) (.ref C) false
  | str (s : Str) : IsAns C S (.str s) (.ref C) false
def oIsiC (C : Addr) : List D → Sto → DK → Prop := fun xs S k => match xs with
  | [x, y] => ∃ b, IsAns C S x y b ∧ k (.bl b) S
  | _ => False
theorem ty_ins {S : Sto} {a C dx : Addr} {fs : List (Str × D)} (h : S a = some (.ins C dx fs)) : tyD S (.ref a) = none := by simp only [tyD, h]
theorem IsAns.uni {C : Addr} {S : Sto} {x y : D} {b c : Bool} (h : IsAns C S x y b) (h2 : IsAns C S x y c) : b = c := by
  cases h with
  | ty h1 hc =>
    cases h2 with
    | ty h2 _ => rw [h1] at h2; cases h2; rfl
    | ins h2 _ => rw [ty_ins h2] at h1; cases h1
  | ins h1 _ => cases h2 with
    | ty h2 _ => rw [ty_ins h1] at h2; cases h2
    | ins h2 _ => rfl
  | own h1 => cases h2; rfl
  | non => cases h2; rfl
  | bl b => cases h2; rfl
  | int b => cases h2; rfl
  | str b => cases h2; rfl
section
variable {K : PySem.W.Frag} {C : Addr}
theorem kit_self (a : Addr) : PySem.W.kitOne K (.ref a) (.ref a) = some true := by
  unfold PySem.W.kitOne
  rw [if_pos (by simp)]
theorem si_isiC (hC : IsiC K C) : SimC K (rIsi K) (oIsiC C) := fun B S H vs xs k Q r rx h1 q => by
  unfold oIsiC at h1
  split at h1
  · rename_i x y
    obtain ⟨v, w, rfl, rv, rw'⟩ := rdl2 rx
    obtain ⟨b, hb, h1⟩ := h1
    have ans := q (.bl b) S (.bl b) B H h1 (Ex.refl B) r (.bl b)
    have tyi : ∀ {a dx fs}, S a = some (.ins C dx fs) → TyX K H (.ref a) (.ref C) := fun {a dx fs} h => by
      obtain ⟨gs, hg, _⟩ := r.ins h
      exact .base (.ins hg hC.cl hC.ha hC.hn hC.htk hC.hm)
    cases hb with
    | @ty x t c ht hc =>
      have hw : w = .ty c := by cases rw'; rfl
      subst hw
      exact ⟨v, .ty c, .type t, .type c, isB t c, rfl, .ty c, tyD_ok ht r rv, kit_ty (isB_ok t (tyD_mem ht) c hc), ans⟩
    | @ins a dx fs c h hc =>
      cases rd_ref rv
      have hw : w = .ty c := by cases rw'; rfl
      subst hw
      refine ⟨_, _, .ref C, .type c, false, rfl, .ty c, tyi h, ?_, ans⟩
      rcases hc with rfl | rfl | rfl
      · exact hC.t1
      · exact hC.t2
      · exact hC.t3
    | own h =>
      cases rd_ref rv
      cases rd_ref rw'
      exact ⟨_, _, .ref C, .ref C, true, rfl, .own C, tyi h, kit_self C, ans⟩
    | non =>
      cases rd_non rv
      cases rd_ref rw'
      exact ⟨_, _, .type "NoneType", .ref C, false, rfl, .own C, .base .non, hC.f1, ans⟩
    | bl b =>
      have : v = .bl b := by cases rv; rfl
      subst this
      cases rd_ref rw'
      exact ⟨_, _, .type "bool", .ref C, false, rfl, .own C, .base (.bl b), hC.f2, ans⟩
    | int i =>
      cases rd_int rv
      cases rd_ref rw'
      exact ⟨_, _, .type "int", .ref C, false, rfl, .own C, .base (.int i), hC.f3, ans⟩
    | str i =>
      cases rd_str rv
      cases rd_ref rw'
      exact ⟨_, _, .type "str", .ref C, false, rfl, .own C, .base (.str i), hC.f4, ans⟩
  · exact h1.elim
end
section
variable {C a dx : Addr} {S : Sto} {k : DK} {fs : List (Str × D)} {x y : D} {b : Bool}
theorem x_isiC {xs : List D} : oIsiC C xs S k = stC (oIsiC C) xs S k ⟨⟩ := propext Iff.rfl
theorem isiC_of (h : IsAns C S x y b) : stC (oIsiC C) [x, y] S k ⟨⟩ = k (.bl b) S := propext ⟨fun ⟨c, hc, q⟩ => by rw [h.uni hc]; exact q, fun q => ⟨b, h, q⟩⟩
theorem x_icS {s : Str} {c : String} (hc : c ∈ Cs) : stC (oIsiC C) [.str s, .ty c] S k ⟨⟩ = k (.bl (isB "str" c)) S := isiC_of (.ty rfl hc)
theorem x_icI {s : Int} {c : String} (hc : c ∈ Cs) : stC (oIsiC C) [.int s, .ty c] S k ⟨⟩ = k (.bl (isB "int" c)) S := isiC_of (.ty rfl hc)
theorem x_icB {s : Bool} {c : String} (hc : c ∈ Cs) : stC (oIsiC C) [.bl s, .ty c] S k ⟨⟩ = k (.bl (isB "bool" c)) S := isiC_of (.ty rfl hc)
theorem x_icN {c : String} (hc : c ∈ Cs) : stC (oIsiC C) [.non, .ty c] S k ⟨⟩ = k (.bl (isB "NoneType" c)) S := isiC_of (.ty rfl hc)
theorem x_ioS {s : Str} : stC (oIsiC C) [.str s, .ref C] S k ⟨⟩ = k (.bl false) S := isiC_of (.str s)
theorem x_ioI {s : Int} : stC (oIsiC C) [.int s, .ref C] S k ⟨⟩ = k (.bl false) S := isiC_of (.int s)
theorem x_ioB {s : Bool} : stC (oIsiC C) [.bl s, .ref C] S k ⟨⟩ = k (.bl false) S := isiC_of (.bl s)
theorem x_ioN : stC (oIsiC C) [.non, .ref C] S k ⟨⟩ = k (.bl false) S := isiC_of .non
theorem x_own (h : S a = some (.ins C dx fs)) : stC (oIsiC C) [.ref a, .ref C] S k ⟨⟩ = k (.bl true) S := isiC_of (.own h)
end
end DL

set_option Elab.async false
set_option linter.all false
set_option maxRecDepth 100000
/-! ### texts as lists of signs; the figures of numbers -/
namespace DL
open PySem L2 Evl EX
theorem nF_nil {K : PySem.W.Frag} {C : Addr} : ∀ f ∈ ([] : List Str), NoAttr K C f := fun _ z => nomatch z
theorem nF_cons {K : PySem.W.Frag} {C : Addr} {f : Str} {fs : List Str} (h : PySem.W.findIn K (.ref C) f = some none) (r : ∀ g ∈ fs, NoAttr K C g) : ∀ g ∈ f :: fs, NoAttr K C g := fun g hg => by
  rcases List.mem_cons.mp hg with rfl | hg
  · exact h
  · exact r g hg
theorem ixMem {S : Sto} {k : DK} {ds : List D} {i : Int} {m : Nat} (h : ds.length = m) (h0 : 0 ≤ i) (h1 : i < m) (q : ∀ d ∈ ds, k d S) : ixq (.list ds) i S k ⟨⟩ := by
  obtain ⟨j, rfl⟩ := Int.eq_ofNat_of_zero_le h0
  have hj : j < ds.length := by omega
  exact ixAt (.inl rfl) (List.getElem?_eq_getElem hj) (q _ (List.getElem_mem hj))
end DL

set_option Elab.async false
set_option linter.all false
set_option maxRecDepth 100000
/-! ### == beside an instance of a class without an __eq__ of its own -/
namespace OE
open PySem PySem.Spec PyProof.Rows PySem.SeqAt
open AutoSeq1 (wpAny_loadPart')
section
variable {prog : Program} {w : World} {M : Model} {A : Around} {E : Value → Shared → Prop} {s : Shared} {K : PySem.W.Frag} {x y C D dx : Addr} {ox oy : Obj} {od oe : Option Obj} {u : Value} {T : String}
/-! two instances of one class -/
end
end OE

set_option Elab.async false
set_option linter.all false
set_option maxRecDepth 100000
/-! ### == beside instances; in lists of mixed data; is False; a list put together that changes -/
namespace DL
open PySem L2 Evl EX
/-! data of any kinds -/
mutual
def D.any : D → Bool
  | .non => true
  | .int _ => true
  | .bl _ => true
  | .str x => PyData.strOk x
  | .list ds => anyL ds
  | .tup ds => anyL ds
  | _ => false
def anyL : List D → Bool
  | [] => true
  | d :: ds => d.any && anyL ds
end
mutual
theorem pyA_lay : ∀ d : D, d.any = true → d.py.canLay0 = true
  | .non, _ => rfl
  | .int _, _ => rfl
  | .str x, h => by simpa [D.any, D.py, PyData.canLay0] using h
  | .list ds, h => by
    rw [D.any] at h
    rw [D.py, PyData.canLay0]
    exact pyLA_lay ds h
  | .tup ds, h => by
    rw [D.any] at h
    rw [D.py, PyData.canLay0]
    exact pyLA_lay ds h
  | .bl _, h => rfl
  | .ref _, h => by cases h
  | .ty _, h => by cases h
  | .scr _, h => by simp [D.any] at h
theorem pyLA_lay : ∀ ds : List D, anyL ds = true → PyData.canLayAll0 (pyL ds) = true
  | [], _ => rfl
  | d :: ds, h => by
    rw [anyL, Bool.and_eq_true] at h
    rw [pyL, PyData.canLayAll0, pyA_lay d h.1, pyLA_lay ds h.2]
    rfl
end
mutual
theorem pyA_deep : ∀ d : D, d.any = true → d.py.depth = d.deep
  | .non, _ => rfl
  | .int _, _ => rfl
  | .str x, h => rfl
  | .list ds, h => by
    rw [D.any] at h
    rw [D.py, PyData.depth, D.deep, pyLA_deep ds h]
  | .tup ds, h => by
    rw [D.any] at h
    rw [D.py, PyData.depth, D.deep, pyLA_deep ds h]
  | .bl _, h => rfl
  | .ref _, h => by cases h
  | .ty _, h => by cases h
  | .scr _, h => by simp [D.any] at h
theorem pyLA_deep : ∀ ds : List D, anyL ds = true → PyData.depthAll (pyL ds) = deepL ds
  | [], _ => rfl
  | d :: ds, h => by
    rw [anyL, Bool.and_eq_true] at h
    rw [pyL, PyData.depthAll, deepL, pyA_deep d h.1, pyLA_deep ds h.2]
end
section
variable {K : PySem.W.Frag} {B H : Hp}
mutual
theorem dpA_of (e : Ex B H) : ∀ {v : V} {d : D}, RdD K B v d → d.any = true → Dp K H v d.py
  | _, _, .non, _ => .non
  | _, _, .int i, _ => .int i
  | _, _, .str x, _ => .str x
  | _, _, .lst ha r, h => by
    rw [D.any] at h
    rw [D.py]
    exact .lst (sq_of (e _ _ ha)) (dpLA_of e r h)
  | _, _, .tup ha r, h => by
    rw [D.any] at h
    rw [D.py]
    exact .tup (ex_t e ha) (dpLA_of e r h)
  | _, _, .bl b, h => .bl b
  | _, _, .ref _, h => by cases h
  | _, _, .ty _, h => by cases h
  | _, _, .scr _ _, h => by simp [D.any] at h
theorem dpLA_of (e : Ex B H) : ∀ {vs : List V} {ds : List D}, RdL K B vs ds → anyL ds = true → DpAll K H vs (pyL ds)
  | _, _, .nil, _ => .nil
  | _, _, .cons h r, hn => by
    rw [anyL, Bool.and_eq_true] at hn
    rw [pyL]
    exact .cons (dpA_of e h hn.1) (dpLA_of e r hn.2)
end
end
def oNinA : DR2 := fun x y S k => ∃ ds, y = .list ds ∧ x.any = true ∧ anyL ds = true ∧ x.deep ≤ 64 ∧ deepL ds ≤ 60 ∧ k (.bl (!(pyL ds).any fun z => PyData.eqv z x.py)) S
section
variable {K : PySem.W.Frag}
/-- x + y, lists, as a list that changes -/
def oCatN : DR2 := fun x y S k => match x, y with
  | .list a, .list b => a.length + b.length ≤ 100000 ∧ ∀ p, S p = none → k (.ref p) (put S p (.lst (a ++ b)))
  | _, _ => False
/-! x is False -/
def oIsBl : DR2 := fun x y S k => match y with
  | .bl b => match x with
    | .bl c => k (.bl (decide (c = b))) S
    | .non => k (.bl false) S
    | .int _ => k (.bl false) S
    | .str _ => k (.bl false) S
    | .ref _ => k (.bl false) S
    | _ => False
  | _ => False
end
/-! == beside instances of one class -/
structure EqC (K : PySem.W.Frag) (C : Addr) : Prop where
  hm : PySem.W.mroIn K C (.type "object") = some true
  hs : PySem.W.findIn K (.ref C) "__eq__" = some (some (.builtin "object.__eq__"))
  s1 : PySem.W.subIn K (.type "NoneType") (.ref C) = some false
  s2 : PySem.W.subIn K (.type "bool") (.ref C) = some false
  s3 : PySem.W.subIn K (.type "str") (.ref C) = some false
  s4 : PySem.W.subIn K (.ref C) (.type "NoneType") = some false
  s5 : PySem.W.subIn K (.ref C) (.type "bool") = some false
  s6 : PySem.W.subIn K (.ref C) (.type "str") = some false
inductive Fl3 : V → Prop where
  | non : Fl3 .non
  | bl (b : Bool) : Fl3 (.bl b)
  | str (s : Str) : Fl3 (.str s)
inductive EqA (C : Addr) (S : Sto) : D → D → Bool → Prop where
  | flat {x y : D} {b : Bool} (h : sEq x y = some b) : EqA C S x y b
  | rn {a dx : Addr} {fs : List (Str × D)} (h : S a = some (.ins C dx fs)) : EqA C S (.ref a) .non false
  | rb {a dx : Addr} {fs : List (Str × D)} (h : S a = some (.ins C dx fs)) (b : Bool) : EqA C S (.ref a) (.bl b) false
  | rs {a dx : Addr} {fs : List (Str × D)} (h : S a = some (.ins C dx fs)) (s : Str) : EqA C S (.ref a) (.str s) false
  | nr {a dx : Addr} {fs : List (Str × D)} (h : S a = some (.ins C dx fs)) : EqA C S .non (.ref a) false
  | br {a dx : Addr} {fs : List (Str × D)} (h : S a = some (.ins C dx fs)) (b : Bool) : EqA C S (.bl b) (.ref a) false
  | sr {a dx : Addr} {fs : List (Str × D)} (h : S a = some (.ins C dx fs)) (s : Str) : EqA C S (.str s) (.ref a) false
  | rr {a dx b dy : Addr} {fs gs : List (Str × D)} (h : S a = some (.ins C dx fs)) (h2 : S b = some (.ins C dy gs)) : EqA C S (.ref a) (.ref b) (decide (a = b))
def oEqO (C : Addr) : DR2 := fun x y S k => ∃ b, EqA C S x y b ∧ k (.bl b) S
section
variable {S : Sto} {k : DK} {C : Addr} {x y : D} {b c : Bool} {s : Str} {i : Int} {a : Addr}
theorem x_eqO : oEqO C x y S k = st2 (oEqO C) x y S k ⟨⟩ := propext Iff.rfl
theorem x_ninA : oNinA x y S k = st2 oNinA x y S k ⟨⟩ := propext Iff.rfl
theorem x_catN {l m : List D} : oCatN (.list l) (.list m) S k = few (l.length + m.length) (fresh S (fun p => k (.ref p) (put S p (.lst (l ++ m)))) ⟨⟩) ⟨⟩ := propext Iff.rfl
theorem x_isBB : oIsBl (.bl c) (.bl b) S k = k (.bl (decide (c = b))) S := propext Iff.rfl
theorem x_isBN : oIsBl .non (.bl b) S k = k (.bl false) S := propext Iff.rfl
theorem x_isBI : oIsBl (.int i) (.bl b) S k = k (.bl false) S := propext Iff.rfl
theorem x_isBS : oIsBl (.str s) (.bl b) S k = k (.bl false) S := propext Iff.rfl
theorem x_isBR : oIsBl (.ref a) (.bl b) S k = k (.bl false) S := propext Iff.rfl
end
end DL

set_option Elab.async false
set_option linter.all false
set_option maxRecDepth 100000
/-! ### sorted(dict), its keys numbers, any number of them -/
namespace SD
open PySem PySem.Spec PyProof.Rows L2
/-- what is collected of a dict of numbers -/
theorem ints_got {vs : List (Key × Value)} {ks : List Int} {acc : Array Value} (hkeys : vs.map (·.1) = ks.map Sum.inl) (hal : acc.toList.length = ks.length) (hacc : ∀ (j : Nat) (v : Value), acc[j]? = some v → ∃ (k : Key) (x : Value), vs[j]? = some (k, x) ∧ keyIs k v = true) : IntsAre acc.toList ks := ints_each hal fun j v e => by
  obtain ⟨k, x, e1, e2⟩ := hacc j v (by rw [← Array.getElem?_toList]; exact e)
  have e3 : (ks.map Sum.inl)[j]? = some k := by rw [← hkeys, List.getElem?_map, e1]; rfl
  rw [List.getElem?_map] at e3
  obtain ⟨y, e4, e5⟩ := Option.map_eq_some_iff.mp e3
  subst e5
  rcases keyIs_shape e2 with ⟨i, t, ek, ev⟩ | ⟨z, t, ek, ev⟩
  · cases ek
    exact ⟨y, t, e4, ev⟩
  · cases ek
variable {X : Cx}
def rSortDL : List V → Hp → VK → Prop := fun xs H Q => ∃ (a : Addr) (kvs : List (Key × V)) (ks : List Int), xs = [.ref a] ∧ Rd H a (.dK kvs) ∧ kvs.map (·.1) = ks.map Sum.inl ∧ ks.length ≤ 100000 ∧
    ∀ (ys : List Int) (p : Addr), ys.Perm ks → ys.Pairwise (· ≤ ·) → H p = none → Q (.ref p) (upd H p (.lst (ys.map V.int)))
theorem call_sortedDL (hcalm : X.calm = true) : CallR X (.builtin "sorted") rSortDL := by
  intro pins s σ H xs us Q I r ⟨a, kvs, ks, ex, hd, hks, hz, q⟩
  subst ex
  obtain ⟨u, eu, rx⟩ := vals1 r
  subst eu
  cases rx
  obtain ⟨z, lo, vs, rel, dd⟩ := dk_rd I.hok hd
  obtain ⟨ep, hat⟩ := dd.dictAt
  have hkeys : vs.map (·.1) = ks.map Sum.inl := rel.keys.symm.trans hks
  have hl : vs.length = ks.length := by simpa using congrArg List.length hkeys
  have hsz : ks.length ≤ sizeLine := by rw [sizeLine_eq]; omega
  refine Calls.call_function_entry kind_sorted plain_sorted entry_sorted (args_sorted1 _) ?_
  unfold Builtin.«sorted»
  refine wpAny_bind (m := checkCount "sorted" 1 1 _) (wpAny_pure ?_)
  refine wpAny_bind (PySem.W.kdu_collect (A := X.A.in1) (PySem.W.kdl_dict (knd := mixKind X.prog X.w) (kvs := vs) (ep := ep) lo) (I.ok.hd hcalm) hat (by rw [hl]; exact hsz) fun h' tk acc hk hacc => ?_)
  have hal : acc.toList.length = ks.length := by rw [Array.length_toList, hacc.1, hl]
  have hS : IntsAre acc.toList ks := ints_got hkeys hal hacc.2
  have I1 : Inv X pins σ H { s with heap := h', toks := tk } := I.kept hk
  refine wpAny_bind (wpAny_newList ?_ (by rw [hal]; exact hsz))
  have hoL : (h'.push (seqObj "list" acc.toList.toArray 0)).get? h'.objs.size = some (seqObj "list" acc.toList.toArray 0) := Heap.get?_push_size _ rfl
  show wpAny _ _ _ _ _ { s with heap := h'.push (seqObj "list" acc.toList.toArray 0), toks := tk }
  refine wpAny_bind (wpAny_holding (wpAny_call_entry slot_list_sort ⟨_, hoL, rfl⟩ entry_list_sort
    (SrtO.list_sort_ord (s := { s with heap := h'.push (seqObj "list" acc.toList.toArray 0), toks := tk }) SrtO.swo_int hoL (by rw [hal]; exact hsz) (fun h2 => SrtO.ints_sortable hS h2) fun out g1 g2 => ⟨_, rfl, ?_⟩) (args_list_sort _)))
  obtain ⟨k1, k2, k3⟩ := SrtO.ints_out hS g1 g2
  obtain ⟨e', he'⟩ := sortedHeap_at (vs := acc.toList) (out := out.toArray) hoL
  have hlen : ((out.map SrtO.iv).map V.int).length ≤ sizeLine := by
    rw [List.length_map, k2.length_eq]
    exact hsz
  refine wpAny_pure ⟨_, rfl, .ref h'.objs.size, upd H h'.objs.size (.lst ((out.map SrtO.iv).map V.int)), I1.laid (t' := tk) (fun b u e => ?_) (Nat.le_refl _)
    (show ObjOk X.prog X.w _ _ _ (.lst ((out.map SrtO.iv).map V.int)) from ⟨hlen, out, e', vals_of_ints k1, he'⟩), rfl, q _ _ k2 k3 (I1.hok.fresh (Nat.le_refl _))⟩
  have hb : b < h'.objs.size := Heap.lt_size e
  rw [sortedHeap_old (Nat.ne_of_lt hb) (by rw [size_push']; exact Nat.lt_succ_of_lt hb)]
  exact Heap.get?_push_of_some _ e
end SD
namespace DL
open PySem L2 Evl EX
section
variable {K : PySem.W.Frag}
def oSortDL : List D → Sto → DK → Prop := fun xs S k => match xs with
  | [.ref a] => ∃ (kvs : List (Key × D)) (ks : List Int), S a = some (.dct kvs) ∧ kvs.map (·.1) = ks.map Sum.inl ∧ ks.length ≤ 100000 ∧ ∀ ys : List Int, ys.Perm ks → ys.Pairwise (· ≤ ·) → k (.list (ys.map D.int)) S
  | _ => False
theorem si_sortDL : SimC K SD.rSortDL oSortDL := fun B S H vs xs k Q r rx h1 q => by
  unfold oSortDL at h1
  split at h1
  · obtain ⟨v, rfl, rv⟩ := rdl1 rx
    cases rd_ref rv
    obtain ⟨kvs, ks, hs, hk, hl, h1⟩ := h1
    obtain ⟨gs, hg, rg⟩ := r.dct hs
    refine ⟨_, gs, ks, rfl, .inl hg, by rw [rdkv_keys rg]; exact hk, hl, fun ys p pm pw hp => ?_⟩
    have n := r.new (o := .lst (ys.map V.int)) hp
    exact q _ S _ _ _ (h1 ys pm pw) n.2 n.1 (.lst upd_same (rdl_ints _))
  · exact h1.elim
end
theorem x_sortDL {S : Sto} {k : DK} {xs : List D} : oSortDL xs S k = stC oSortDL xs S k ⟨⟩ := propext Iff.rfl
end DL

set_option Elab.async false
set_option linter.all false
set_option maxRecDepth 100000
/-! ### xs[i] = v for a list that changes; comprehensions that change the store -/
namespace DL
open PySem L2 Evl EX
def setq (o i v : D) (S : Sto) (k : Sto → Prop) (_ : Tag k) : Prop := ∃ p ds n j, o = .ref p ∧ i = .int n ∧ S p = some (.lst ds) ∧ ixN ds.length n = some j ∧ k (put S p (.lst (ds.set j v)))
def gSubD (dO dI : DE) : DG := fun x δ S k => dO δ S fun o S1 => dI δ S1 fun i S2 => setq o i x S2 (fun S3 => k δ S3) ⟨⟩
section
variable {X : Cx} {K : PySem.W.Frag} {o i : Expr} {dO dI : DE} {pos : Pos}
theorem dg_sub (ho : PE X o (lE K dO)) (hi : PE X i (lE K dI))
    (ha : ∀ v, assign (.Subscript o i pos) X.env v = (do
      let ov ← holding [v] (eval o X.env)
      let iv ← holding [v, ov] (eval i X.env)
      standAt pos
      holding [v, ov, iv] (setItem ov iv v)
      release [v, ov, iv] []) := by intro _; rfl) : PG X (.Subscript o i pos) (lG K (gSubD dO dI)) :=
  pgOf (pg_sub ho hi set_list ha) fun v σ H Q ⟨B, δ, S, x, k, s, r, rx, h, q⟩ => ⟨B, δ, S, _, s, r, h, fun y S1 w B1 H1 h1 e1 r1 d1 => ⟨B1, δ, S1, _, s.mono e1, r1, h1, fun z S2 u B2 H2 h2 e2 r2 d2 => by
    obtain ⟨p, ds, n, j, rfl, rfl, hp, hj, h2⟩ := h2
    obtain ⟨xs, hx, rl⟩ := r2.lst hp
    cases rd_ref d1
    cases rd_int d2
    exact ⟨p, xs, n, j, rfl, rfl, hx, by rw [rl.length]; exact hj, q δ _ σ B2 _ h2 (e1.trans e2) (s.mono (e1.trans e2)) (r2.mut hp (.lst (RdL.set (rx.mono (e1.trans e2)) j rl)))⟩⟩⟩
end
section
variable {δ : Dst} {S : Sto} {k : DK} {dO dI : DE} {p : Addr} {ds : List D} {v x : D}
theorem x_gSub {kg : Dst → Sto → Prop} : gSubD dO dI x δ S kg = dO δ S fun o S1 => dI δ S1 fun i S2 => setq o i x S2 (fun S3 => kg δ S3) ⟨⟩ := propext Iff.rfl
theorem setOf {k : Sto → Prop} {n : Int} {j : Nat} (h : S p = some (.lst ds)) (hj : ixN ds.length n = some j) (q : k (put S p (.lst (ds.set j v)))) : setq (.ref p) (.int n) v S k ⟨⟩ := ⟨p, ds, n, j, rfl, rfl, h, hj, q⟩
/-- a comprehension whose elements change the store: I, the store without the list that grows -/
theorem lcOfS {gc : DGc} {t : DT} {de : DE} {vs : List Nat} (I : Nat → List D → Sto → Prop) (hl : ds.length < 100000) (h0 : I 0 [] S)
    (hs : ∀ p, S p = none → ∀ n d acc S', ds[n]? = some d → S' p = none → I n acc S' → gc d (wipeD δ vs) fun δ2 => t δ2 (put S' p (.lst acc)) fun b S2 => branch b (de δ2 S2 (fun y S3 => ∃ S4, S4 p = none ∧ S3 = put S4 p (.lst acc) ∧ I (n + 1) (acc ++ [y]) S4)) (∃ S4, S4 p = none ∧ S2 = put S4 p (.lst acc) ∧ I (n + 1) acc S4) ⟨⟩)
    (hd : ∀ acc S', I ds.length acc S' → k (.list acc) S') : lcC ds gc t de vs δ S k ⟨⟩ :=
  ⟨hl, fun p hp => ⟨I, h0, fun n d acc S' hd' hp' hI => hs p hp n d acc S' hd' hp' hI, fun acc S' _ hI => hd acc S' hI⟩⟩
end
end DL

set_option Elab.async false
set_option linter.all false
set_option maxRecDepth 100000
/-! ### dict(pairs) -/
namespace DL
open PySem L2 Evl EX
def gmerge (kvs : List (Key × D)) (l : List (Key × D)) : List (Key × D) := l.foldl (fun a kv => gput a kv.1 kv.2) kvs
/-- dict([(k, v), ..]) -/
def oDictP : List D → Sto → DK → Prop := fun xs S k => match xs with
  | [.list ds] => ∃ kvs : List (Key × D), ds = kvs.map (fun kv => .tup [dK kv.1, kv.2]) ∧ ∀ p, S p = none → k (.ref p) (put S p (.dct (gmerge [] kvs)))
  | _ => False
section
variable {K : PySem.W.Frag} {B : Hp}
end
theorem x_dictP {S : Sto} {k : DK} {xs : List D} : oDictP xs S k = stC oDictP xs S k ⟨⟩ := propext Iff.rfl
end DL

set_option Elab.async false
set_option linter.all false
set_option maxRecDepth 100000
/-! ### loops over what stands in the store: a list that stays as it is meanwhile, a dict's keys (locked) -/
namespace DL
open PySem L2 Evl EX
/-- what is walked, and what must hold of the store for it to go on -/
abbrev DIS := Dst → Sto → (List D → (Sto → Prop) → Sto → Prop) → Prop
structure ItOkS (K : PySem.W.Frag) (B : Hp) (J : It) (ds : List D) (Φ : Sto → Prop) : Prop where
  go : ∀ i B1 S H, Ex B B1 → R K B1 S H → Φ S → i < ds.length → J.go i H
  stop : ∀ i B1 S H, Ex B B1 → R K B1 S H → Φ S → ds.length ≤ i → J.stop i H
  yld : ∀ i H x H' B1 S, Ex B B1 → R K B1 S H → Φ S → i < ds.length → J.yld i H x H' → ∃ d B2, ds[i]? = some d ∧ Ex B1 B2 ∧ R K B2 S H' ∧ RdD K B2 x d
def lIS (K : PySem.W.Frag) (di : DIS) : TI := fun σ H Rr => ∃ B δ S k, Sl K B σ δ ∧ R K B S H ∧ di δ S k ∧ ∀ ds Φ S' B' H' J, k ds Φ S' → Ex B B' → R K B' S' H' → ItOkS K B' J ds Φ → Rr J H'
def dForS (di : DIS) (g : DG) (b : DS) : DS := fun D δ S => di δ S fun ds Φ S1 => ∃ I : Nat → Dst → Sto → Prop, I 0 δ S1 ∧ Φ S1 ∧
  (∀ n d δ' S', ds[n]? = some d → Φ S' → I n δ' S' → g d δ' S' fun δ2 S2 => b { D with nx := fun δ3 S3 => Φ S3 ∧ I (n + 1) δ3 S3, ct := fun δ3 S3 => Φ S3 ∧ I (n + 1) δ3 S3, bk := D.nx } δ2 S2) ∧ ∀ δ' S', Φ S' → I ds.length δ' S' → D.nx δ' S'
section
variable {X : Cx} {K : PySem.W.Frag} {W : WXD} {d : DS} {pos : Pos}
/-- a list of the store -/
def diSL (de : DE) : DIS := fun δ S k => de δ S fun x S1 => ∃ p ds, x = .ref p ∧ S1 p = some (.lst ds) ∧ k ds (fun S' => S' p = some (.lst ds)) S1
theorem di_stl {tg l : Expr} {de : DE} (h : PE X l (lE K de)) (hk : X.K = K := by rfl) : PI X tg l (lIS K (diSL de)) := piOf (piL h hk) fun σ H Q ⟨B, δ, S, k, s, r, h, q⟩ =>
  ⟨B, δ, S, _, s, r, h, fun x S1 v B1 H1 ⟨p, ds, hx, hp, h1⟩ e1 r1 d1 => by
    subst hx
    cases rd_ref d1
    obtain ⟨xs, hx, rl⟩ := r1.lst hp
    refine ⟨p, rfl, ⟨xs, sq_of hx⟩, q _ _ S1 B1 H1 _ h1 e1 r1 ⟨fun i B2 S H e r2 hS hi => ?_, fun i B2 S H e r2 hS hi => ?_, fun i H x H' B2 S e r2 hS hi hy => ?_⟩⟩
    · obtain ⟨ys, hy, ry⟩ := r2.lst hS
      have : i < ys.length := by rw [ry.length]; exact hi
      exact ⟨ys, ys[i], sq_of hy, List.getElem?_eq_getElem this⟩
    · obtain ⟨ys, hy, ry⟩ := r2.lst hS
      exact ⟨ys, sq_of hy, by rw [ry.length]; exact hi⟩
    · obtain ⟨rfl, hy⟩ := hy
      obtain ⟨ys, hz, ry⟩ := r2.lst hS
      obtain ⟨d, hd, rd⟩ := ry.getV (hy ys (sq_of hz))
      exact ⟨d, B2, hd, Ex.refl B2, r2, rd⟩⟩
/-- a dict's keys -/
def diKeys (de : DE) : DIS := fun δ S k => de δ S fun x S1 => ∃ p od xs kvs, x = .ref p ∧ S1 p = some (.lck od xs kvs) ∧ k (kvs.map fun kv => dK kv.1) (fun S' => S' p = some (.lck od xs kvs)) S1
theorem di_keys {tg l : Expr} {de : DE} (h : PE X l (lE K de)) : PI X tg l (lIS K (diKeys de)) := piOf (pi_keys h) fun σ H Q ⟨B, δ, S, k, s, r, h, q⟩ =>
  ⟨B, δ, S, _, s, r, h, fun x S1 v B1 H1 ⟨p, od, xs, kvs, hx, hp, h1⟩ e1 r1 d1 => by
    subst hx
    cases rd_ref d1
    obtain ⟨hx, rl⟩ := r1.lck hp
    have hlen : xs.length = kvs.length := rdkv_len rl
    refine ⟨p, od, rfl, .inl ⟨xs, hx, q _ _ S1 B1 H1 _ h1 e1 r1 ⟨fun i B2 S H e r2 hS hi => ?_, fun i B2 S H e r2 hS hi => ?_, fun i H x H' B2 S e r2 hS hi hy => ?_⟩⟩⟩
    · obtain ⟨hy, ry⟩ := r2.lck hS
      exact ⟨hy, by rw [List.length_map] at hi; omega⟩
    · obtain ⟨hy, ry⟩ := r2.lck hS
      exact ⟨hy, by rw [List.length_map] at hi; omega⟩
    · obtain ⟨rfl, k, v, hkv, rfl⟩ := hy
      have hk := rdkv_keys rl
      refine ⟨dK k, B2, ?_, Ex.refl B2, r2, rd_kV k⟩
      have e2 : (kvs.map fun kv => dK kv.1) = (kvs.map (·.1)).map dK := by rw [List.map_map]; rfl
      rw [e2, ← hk, List.map_map, List.getElem?_map, hkv]
      rfl⟩
/-- a statement while a dict is locked -/
def dLock (d : DS) : DS := fun E δ S => ∃ a kvs, S a = some (.dct kvs) ∧ ∀ od xs, d ⟨fun δ' S' => S' a = some (.lck od xs kvs) ∧ E.nx δ' (put S' a (.dct kvs)), fun v S' => S' a = some (.lck od xs kvs) ∧ E.rt v (put S' a (.dct kvs)),
  fun δ' S' => S' a = some (.lck od xs kvs) ∧ E.bk δ' (put S' a (.dct kvs)), fun δ' S' => S' a = some (.lck od xs kvs) ∧ E.ct δ' (put S' a (.dct kvs)), fun _ _ _ _ => False⟩ δ (put S a (.lck od xs kvs))
theorem ds_lock {st : Stmt} (h : PS X st (lS K W d)) : PS X st (lS K W (dLock d)) := psOf (ps_lock h) fun E σ H ⟨B, δ, S, D, s, r, ⟨a, kvs, ha, h⟩, l⟩ => by
  obtain ⟨xs, hx, rl⟩ := r.dct ha
  refine ⟨a, .dK xs, hx, trivial, fun od => ⟨B, δ, _, _, s, r.mut ha (.lck (od := od) rl), h od xs, ?_⟩⟩
  have back : ∀ {B' : Hp} {S' : Sto} {H' : Hp}, R K B' S' H' → S' a = some (.lck od xs kvs) → H' a = some (.frz od (.dK xs)) ∧ R K B' (put S' a (.dct kvs)) (upd H' a (.dK xs)) := fun r' h' => ⟨(r'.lck h').1, r'.mut h' (.dct (r'.lck h').2)⟩
  exact ⟨fun δ' S' σ' B' H' ⟨h1, h2⟩ e' s' r' => ⟨(back r' h1).1, l.nx δ' _ σ' B' _ h2 e' s' (back r' h1).2⟩,
    fun x S' v B' H' ⟨h1, h2⟩ e' r' rd' => ⟨(back r' h1).1, l.rt x _ v B' _ h2 e' (back r' h1).2 rd'⟩,
    fun δ' S' σ' B' H' ⟨h1, h2⟩ e' s' r' => ⟨(back r' h1).1, l.bk δ' _ σ' B' _ h2 e' s' (back r' h1).2⟩,
    fun δ' S' σ' B' H' ⟨h1, h2⟩ e' s' r' => ⟨(back r' h1).1, l.ct δ' _ σ' B' _ h2 e' s' (back r' h1).2⟩, fun _ _ _ _ _ _ _ z => z.elim⟩
end
/-! stepping -/
def forSC (ds : List D) (Φ : Sto → Prop) (g : DG) (b : DS) (E : DEnds) (δ : Dst) (S : Sto) (_ : Tag (E, g, b)) : Prop := ∃ I : Nat → Dst → Sto → Prop, I 0 δ S ∧ Φ S ∧
  (∀ n d δ' S', ds[n]? = some d → Φ S' → I n δ' S' → g d δ' S' fun δ2 S2 => b { E with nx := fun δ3 S3 => Φ S3 ∧ I (n + 1) δ3 S3, ct := fun δ3 S3 => Φ S3 ∧ I (n + 1) δ3 S3, bk := E.nx } δ2 S2) ∧ ∀ δ' S', Φ S' → I ds.length δ' S' → E.nx δ' S'
def slq (x : D) (S : Sto) (k : List D → (Sto → Prop) → Sto → Prop) (_ : Tag k) : Prop := ∃ p ds, x = .ref p ∧ S p = some (.lst ds) ∧ k ds (fun S' => S' p = some (.lst ds)) S
def skq (x : D) (S : Sto) (k : List D → (Sto → Prop) → Sto → Prop) (_ : Tag k) : Prop := ∃ p od xs kvs, x = .ref p ∧ S p = some (.lck od xs kvs) ∧ k (kvs.map fun kv => dK kv.1) (fun S' => S' p = some (.lck od xs kvs)) S
def lockq (d : DS) (E : DEnds) (δ : Dst) (S : Sto) (_ : Tag (d, E)) : Prop := dLock d E δ S
section
variable {δ : Dst} {S : Sto} {E : DEnds} {de : DE} {d b : DS} {g : DG} {di : DIS} {ds : List D} {Φ : Sto → Prop} {a p : Addr} {kvs : List (Key × D)} {ka : List D → (Sto → Prop) → Sto → Prop}
theorem x_forS : dForS di g b E δ S = di δ S fun ds Φ S1 => forSC ds Φ g b E δ S1 ⟨⟩ := propext Iff.rfl
theorem x_diSL : diSL de δ S ka = de δ S fun x S1 => slq x S1 ka ⟨⟩ := propext Iff.rfl
theorem x_diKeys : diKeys de δ S ka = de δ S fun x S1 => skq x S1 ka ⟨⟩ := propext Iff.rfl
theorem x_lock : dLock d E δ S = lockq d E δ S ⟨⟩ := propext Iff.rfl
theorem slOf (h : S p = some (.lst ds)) (q : ka ds (fun S' => S' p = some (.lst ds)) S) : slq (.ref p) S ka ⟨⟩ := ⟨p, ds, rfl, h, q⟩
theorem skOf {od : Obj} {xs : List (Key × V)} (h : S p = some (.lck od xs kvs)) (q : ka (kvs.map fun kv => dK kv.1) (fun S' => S' p = some (.lck od xs kvs)) S) : skq (.ref p) S ka ⟨⟩ := ⟨p, od, xs, kvs, rfl, h, q⟩
theorem lockOf (h : S a = some (.dct kvs)) (q : ∀ od xs, d ⟨fun δ' S' => S' a = some (.lck od xs kvs) ∧ E.nx δ' (put S' a (.dct kvs)), fun v S' => S' a = some (.lck od xs kvs) ∧ E.rt v (put S' a (.dct kvs)),
  fun δ' S' => S' a = some (.lck od xs kvs) ∧ E.bk δ' (put S' a (.dct kvs)), fun δ' S' => S' a = some (.lck od xs kvs) ∧ E.ct δ' (put S' a (.dct kvs)), fun _ _ _ _ => False⟩ δ (put S a (.lck od xs kvs))) : lockq d E δ S ⟨⟩ := ⟨a, kvs, h, q⟩
end
section
variable {S : Sto} {k : DK} {x y p : D}
end
/-! ### the store read otherwise -/
end DL

set_option Elab.async false
set_option linter.all false
set_option maxRecDepth 100000
/-! ### xs.count, xs.remove, xs.clear, {k: v}, dict(d), comprehensions over lists of the store and dicts, == of any data -/
namespace DL
open PySem L2 Evl EX
section
variable {K : PySem.W.Frag}
def oClr : DM := fun x xs S k => match x, xs with
  | .ref a, [] => ∃ ds, S a = some (.lst ds) ∧ k .non (put S a (.lst []))
  | _, _ => False
theorem si_clr : SimM K rClear oClr := fun B S H v x vs xs k Q r rx rl h1 q => by
  unfold oClr at h1
  split at h1
  · cases rl
    obtain ⟨ds, hs, h1⟩ := h1
    obtain ⟨ys, ha, rr⟩ := r.lst hs
    cases rd_ref rx
    exact ⟨_, ys, rfl, rfl, ha, q _ _ _ B _ h1 (Ex.refl B) (r.mut hs (.lst .nil)) .non⟩
  · exact h1.elim
/-! dict(d) -/
def oDictD : List D → Sto → DK → Prop := fun xs S k => match xs with
  | [.ref a] => ∃ kvs, DctAt S a kvs ∧ ∀ p, S p = none → k (.ref p) (put S p (.dct kvs))
  | _ => False
/-! {k: v, ..} -/
def dPairs : List (DE × DE) → Dst → Sto → (List (D × D) → Sto → Prop) → Prop
  | [], _, S, k => k [] S
  | (dk, dv) :: r, δ, S, k => dk δ S fun x S1 => dv δ S1 fun y S2 => dPairs r δ S2 fun ps S3 => k ((x, y) :: ps) S3
def dDisp (trs : List (DE × DE)) : DE := fun δ S k => ∀ p, S p = none → dPairs trs δ (put S p (.dct [])) fun ps S2 => S2 p = some (.dct []) ∧ ∃ kvs : List (Key × D), ps = kvs.map (fun kv => (dK kv.1, kv.2)) ∧ kvs.length ≤ 15 ∧ k (.ref p) (put S2 p (.dct (gmerge [] kvs)))
/-! == of any data -/
def oEqA (neg : Bool) : DR2 := fun x y S k => (res S x).any = true ∧ (res S y).any = true ∧ min (res S x).deep (res S y).deep ≤ 64 ∧ k (.bl (if neg then !PyData.eqv (res S x).py (res S y).py else PyData.eqv (res S x).py (res S y).py)) S
theorem dpA_res {B H : Hp} {S : Sto} {v : V} {x : D} (r : R K B S H) (rx : RdD K B v x) (h : (res S x).any = true) : Dp K H v (res S x).py := by
  cases x with
  | ref a =>
    simp only [res] at h ⊢
    cases e : S a with
    | none => rw [e] at h; cases h
    | some o =>
      cases o with
      | lst ds =>
        rw [e] at h
        simp only [D.any] at h
        obtain ⟨xs, ha, rl⟩ := r.lst e
        cases rd_ref rx
        simp only [D.py]
        exact .lst (sq_of ha) (dpLA_of r.ex rl h)
      | _ => rw [e] at h; cases h
  | _ => exact dpA_of r.ex rx h
theorem si_eqA (neg : Bool) : Sim2 K (rEqM K neg) (oEqA neg) := fun B S H v w x y k Q r rx ry h1 q => by
  obtain ⟨hx, hy, hm, h1⟩ := h1
  exact ⟨_, _, dpA_res r rx hx, dpA_res r ry hy, pyA_lay _ hx, pyA_lay _ hy, by rw [pyA_deep _ hx, pyA_deep _ hy]; exact hm, q _ S _ B H h1 (Ex.refl B) r (.bl _)⟩
mutual
theorem eqv_refl : ∀ d : D, PyData.eqv d.py d.py = true
  | .non => by simp [D.py, PyData.eqv]
  | .bl b => by simp [D.py, PyData.eqv]
  | .int i => by simp [D.py, PyData.eqv]
  | .str x => by simp [D.py, PyData.eqv]
  | .list ds => by rw [D.py, PyData.eqv]; exact eqvL_refl ds
  | .tup ds => by rw [D.py, PyData.eqv]; exact eqvL_refl ds
  | .scr ds => by rw [D.py, PyData.eqv]; exact eqvL_refl ds
  | .ref _ => by simp [D.py, PyData.eqv]
  | .ty _ => by simp [D.py, PyData.eqv]
theorem eqvL_refl : ∀ ds : List D, PyData.eqvAll (pyL ds) (pyL ds) = true
  | [] => by simp [pyL, PyData.eqvAll]
  | d :: ds => by rw [pyL, PyData.eqvAll, eqv_refl d, eqvL_refl ds]; rfl
end
/-! comprehensions over what stands in the store -/
def dLcS (di : DIS) (g : DGc) (t : DT) (de : DE) (vs : List Nat) : DE := fun δ S k => di δ S fun ds Φ S1 => ds.length < 100000 ∧ ∀ p, S1 p = none → ∃ I : Nat → List D → Sto → Prop, I 0 [] S1 ∧ (∀ n acc S', S' p = none → I n acc S' → Φ (put S' p (.lst acc))) ∧
  (∀ n d acc S', ds[n]? = some d → S' p = none → I n acc S' → g d (wipeD δ vs) fun δ2 => t δ2 (put S' p (.lst acc)) fun b S2 => if b = true then de δ2 S2 (fun y S3 => ∃ S4, S4 p = none ∧ S3 = put S4 p (.lst acc) ∧ I (n + 1) (acc ++ [y]) S4) else ∃ S4, S4 p = none ∧ S2 = put S4 p (.lst acc) ∧ I (n + 1) acc S4) ∧
  ∀ acc S', S' p = none → I ds.length acc S' → k (.list acc) S'
end
section
variable {X : Cx} {K : PySem.W.Frag} {W : WXD}
theorem l_lcS {di : DIS} {g : TG} {gd : DGc} {t : DT} {de : DE} {vs : List Nat} (hg : GcOk K vs g gd) (σ : L2.St) (H : Hp) (Q : VK) : lE K (dLcS di gd t de vs) σ H Q → tLc (lIS K di) g (lT K t) (lE K de) vs σ H Q := fun ⟨B, δ, S, k, s, r, h, q⟩ =>
  ⟨B, δ, S, _, s, r, h, fun ds Φ S1 B1 H1 J ⟨hlen, hp⟩ e1 r1 it => fun Dl hD => by
    have fr := (r1.fresh hD).2
    obtain ⟨I, h0, hΦ, hs, hd⟩ := hp Dl fr
    refine ⟨fun i m H' => m = ds.length - i ∧ i ≤ ds.length ∧ ∃ B2 S2 acc, acc.length ≤ i ∧ S2 Dl = none ∧ Ex B1 B2 ∧ R K B2 (put S2 Dl (.lst acc)) H' ∧ I i acc S2, ⟨ds.length, rfl, Nat.zero_le _, B1, S1, [], Nat.le_refl _, fr, Ex.refl B1, r1.newS hD (.lst .nil), h0⟩, ?_⟩
    rintro i m H' ⟨rfl, hi, B2, S2, acc, hal, n2, e2, r2, hI⟩
    have ph := hΦ i acc S2 n2 hI
    by_cases hlt : i < ds.length
    · refine .inr ⟨it.go i B2 _ H' e2 r2 ph hlt, fun H3 => ∃ B3 S3 acc, acc.length ≤ i + 1 ∧ S3 Dl = none ∧ Ex B1 B3 ∧ R K B3 (put S3 Dl (.lst acc)) H3 ∧ I (i + 1) acc S3, fun H3 hn => ⟨ds.length - (i + 1), by omega, rfl, by omega, hn⟩, fun x H3 hy => ?_⟩
      obtain ⟨d, B3, hd', e3, r3, rd⟩ := it.yld i H' x H3 B2 _ e2 r2 ph hlt hy
      refine hg B3 H3 σ (wipeD δ vs) x d _ _ ((s.mono (e1.trans (e2.trans e3))).wipe vs) r3.ex rd (hs i d acc S2 hd' n2 hI) fun σ2 δ2 hk s2 hw => ⟨hw, ?_⟩
      refine ⟨B3, δ2, _, _, s2, r3, hk, fun b S4 B4 H4 h4 e4 r4 => ?_⟩
      have e14 : Ex B1 B4 := e2.trans (e3.trans e4)
      cases b with
      | false =>
        obtain ⟨S5, n5, rfl, hI5⟩ := h4
        exact ⟨B4, S5, acc, by omega, n5, e14, r4, hI5⟩
      | true =>
        refine ⟨B4, δ2, S4, _, s2.mono e4, r4, h4, fun y S5 v B5 H5 ⟨S6, n6, h6, hI6⟩ e5 r5 d5 => ?_⟩
        subst h6
        obtain ⟨xs, hx, rl⟩ := r5.lst put_same
        have r6 := r5.mut put_same (.lst (rl.append (.one d5)))
        rw [put_put] at r6
        exact ⟨xs, hx, sz_lt (by rw [rl.length]; omega), B5, S6, acc ++ [y], by simp; omega, n6, e14.trans e5, r6, hI6⟩
    · have ei : i = ds.length := by omega
      subst ei
      obtain ⟨B', e', r', rd⟩ := r2.freeze put_same
      rw [del_put n2] at r'
      exact .inl ⟨it.stop _ B2 _ H' e2 r2 ph (Nat.le_refl _), q _ _ _ B' H' (hd acc S2 n2 hI) (e1.trans (e2.trans e')) r' rd⟩⟩
theorem de_lcS {elt tg iter : Expr} {ifs : List Expr} {scope : Scope} {own : List (Str × Nat)} {pos : Pos} {di : DIS} {g : TG} {gd : DGc} {t : DT} {de : DE} (hgc : GcOk K (own.map (·.2)) g gd) (hc : X.calm = true) (hN : X.N.Nodup) (hi : PI X tg iter (lIS K di)) (ok : BlkOk X.N X.env.scope scope own)
    (hg : ∀ (s : Shared) (H : Hp) (C : Addr) (cl : List (Str × Addr)) (fp : List Addr), PG (X.blk s H scope (compEnvC scope cl C X.env) fp) tg g) (ht : ∀ (s : Shared) (H : Hp) (C : Addr) (cl : List (Str × Addr)) (fp : List Addr), PTs (X.blk s H scope (compEnvC scope cl C X.env) fp) ifs (lT K t))
    (he : ∀ (s : Shared) (H : Hp) (C : Addr) (cl : List (Str × Addr)) (fp : List Addr), PE (X.blk s H scope (compEnvC scope cl C X.env) fp) elt (lE K de)) (hs : ∀ x, foldedSetIterable iter X.env x = pure x := by intro _; rfl) :
    PE X (.ListComp elt [⟨tg, iter, ifs, 0⟩] scope pos) (lE K (dLcS di gd t de (own.map (·.2)))) := peOf (pe_lc hc hN hi ok hg ht he hs) (l_lcS hgc)
/-- an expression while a dict is locked -/
def dLockE (d : DE) : DE := fun δ S k => ∃ a kvs, S a = some (.dct kvs) ∧ ∀ od xs, d δ (put S a (.lck od xs kvs)) fun v S' => S' a = some (.lck od xs kvs) ∧ k v (put S' a (.dct kvs))
end
/-! stepping -/
def lcSC (ds : List D) (Φ : Sto → Prop) (g : DGc) (t : DT) (de : DE) (vs : List Nat) (δ : Dst) (S : Sto) (k : DK) (_ : Tag (k, g, t, de)) : Prop := ds.length < 100000 ∧ ∀ p, S p = none → ∃ I : Nat → List D → Sto → Prop, I 0 [] S ∧ (∀ n acc S', S' p = none → I n acc S' → Φ (put S' p (.lst acc))) ∧
  (∀ n d acc S', ds[n]? = some d → S' p = none → I n acc S' → g d (wipeD δ vs) fun δ2 => t δ2 (put S' p (.lst acc)) fun b S2 => if b = true then de δ2 S2 (fun y S3 => ∃ S4, S4 p = none ∧ S3 = put S4 p (.lst acc) ∧ I (n + 1) (acc ++ [y]) S4) else ∃ S4, S4 p = none ∧ S2 = put S4 p (.lst acc) ∧ I (n + 1) acc S4) ∧
  ∀ acc S', S' p = none → I ds.length acc S' → k (.list acc) S'
def lockEq (d : DE) (δ : Dst) (S : Sto) (k : DK) (_ : Tag (d, k)) : Prop := dLockE d δ S k
section
variable {δ : Dst} {S : Sto} {k : DK} {de : DE} {gc : DGc} {t : DT} {di : DIS} {ds : List D} {Φ : Sto → Prop} {a p : Addr} {vs : List Nat} {x y : D} {xs : List D} {kvs : List (Key × D)} {trs : List (DE × DE)} {kp : List (D × D) → Sto → Prop}
theorem x_lcS : dLcS di gc t de vs δ S k = di δ S fun ds Φ S1 => lcSC ds Φ gc t de vs δ S1 k ⟨⟩ := propext Iff.rfl
theorem x_lockE : dLockE de δ S k = lockEq de δ S k ⟨⟩ := propext Iff.rfl
theorem x_eqA {neg : Bool} : oEqA neg x y S k = st2 (oEqA neg) x y S k ⟨⟩ := propext Iff.rfl
theorem x_dictD : oDictD xs S k = stC oDictD xs S k ⟨⟩ := propext Iff.rfl
theorem x_disp : dDisp trs δ S k = fresh S (fun p => dPairs trs δ (put S p (.dct [])) fun ps S2 => need (S2 p = some (.dct [])) (∃ kvs : List (Key × D), ps = kvs.map (fun kv => (dK kv.1, kv.2)) ∧ kvs.length ≤ 15 ∧ k (.ref p) (put S2 p (.dct (gmerge [] kvs)))) ⟨⟩) ⟨⟩ := propext Iff.rfl
theorem x_pNil : dPairs [] δ S kp = kp [] S := propext Iff.rfl
theorem x_pCons {dk dv : DE} : dPairs ((dk, dv) :: trs) δ S kp = dk δ S fun x S1 => dv δ S1 fun y S2 => dPairs trs δ S2 fun ps S3 => kp ((x, y) :: ps) S3 := propext Iff.rfl
theorem clrOf (h : S a = some (.lst ds)) (q : k .non (put S a (.lst []))) : stM oClr (.ref a) [] S k ⟨⟩ := ⟨ds, h, q⟩
theorem pop0Of (h : S a = some (.lst (y :: ds))) (q : k y (put S a (.lst ds))) : stM oPop0 (.ref a) [.int 0] S k ⟨⟩ := ⟨ds, y, h, q⟩
/-- a comprehension over what stands in the store, the store staying as it is -/
theorem lcSOf (P : Nat → List D → Prop) (hl : ds.length < 100000) (hΦ : ∀ p acc, S p = none → Φ (put S p (.lst acc))) (h0 : P 0 [])
    (hs : ∀ p, S p = none → ∀ n d acc, ds[n]? = some d → P n acc → gc d (wipeD δ vs) fun δ2 => t δ2 (put S p (.lst acc)) fun b S2 => branch b (de δ2 S2 (fun y S3 => LcO S p acc (P (n + 1) (acc ++ [y])) S3)) (LcO S p acc (P (n + 1) acc) S2) ⟨⟩) (hd : ∀ acc, P ds.length acc → k (.list acc) S) :
    lcSC ds Φ gc t de vs δ S k ⟨⟩ := by
  refine ⟨hl, fun p hp => ⟨fun n acc S' => S' = S ∧ P n acc, ⟨rfl, h0⟩, ?_, ?_, ?_⟩⟩
  · rintro n acc S' _ ⟨rfl, _⟩
    exact hΦ p acc hp
  · rintro n d acc S' hd' _ ⟨rfl, hP⟩
    exact hs p hp n d acc hd' hP
  · rintro acc S' _ ⟨rfl, hP⟩
    exact hd acc hP
theorem eqASame (hx : res S x = p') (hy : res S y = p') (h1 : p'.any = true) (h3 : p'.deep ≤ 64) (h : k (.bl true) S) : st2 (oEqA false) x y S k ⟨⟩ := by
  subst hx
  refine ⟨h1, by rw [hy]; exact h1, by rw [hy, Nat.min_self]; exact h3, ?_⟩
  rw [hy, eqv_refl]
  exact h
theorem neASame (hx : res S x = p') (hy : res S y = p') (h1 : p'.any = true) (h3 : p'.deep ≤ 64) (h : k (.bl false) S) : st2 (oEqA true) x y S k ⟨⟩ := by
  subst hx
  refine ⟨h1, by rw [hy]; exact h1, by rw [hy, Nat.min_self]; exact h3, ?_⟩
  rw [hy, eqv_refl]
  exact h
theorem neAOf {u v : D} {b : Bool} (hx : res S x = u) (hy : res S y = v) (h1 : u.any = true) (h2 : v.any = true) (h3 : min u.deep v.deep ≤ 64) (hb : PyData.eqv u.py v.py = b) (h : k (.bl (!b)) S) : st2 (oEqA true) x y S k ⟨⟩ := by
  subst hx hy hb
  exact ⟨h1, h2, h3, h⟩
end
end DL

set_option Elab.async false
set_option linter.all false
set_option maxRecDepth 100000
/-! ### xs.pop(i) -/
namespace DL
open PySem L2 Evl EX
section
variable {K : PySem.W.Frag}
end
/-! -x -/
def dNeg (de : DE) : DE := fun δ S k => de δ S fun x S1 => intq x (fun i => k (.int (-i)) S1) ⟨⟩
theorem de_neg {X : Cx} {K : PySem.W.Frag} {a : Expr} {de : DE} {pos : Pos} (h : PE X a (lE K de)) : PE X (.UnaryOp .USub a pos) (lE K (dNeg de)) := peOf (pe_un un_neg h) fun σ H Q ⟨B, δ, S, k, s, r, h, q⟩ =>
  ⟨B, δ, S, _, s, r, h, fun x S1 v B1 H1 h1 e1 r1 d1 => by
    unfold intq at h1
    split at h1
    · rename_i i
      cases rd_int d1
      exact ⟨i, rfl, q _ S1 _ B1 H1 h1 e1 r1 (.int _)⟩
    · exact h1.elim⟩
theorem x_neg {de : DE} {δ : Dst} {S : Sto} {k : DK} : dNeg de δ S k = de δ S fun x S1 => intq x (fun i => k (.int (-i)) S1) ⟨⟩ := propext Iff.rfl
end DL

set_option Elab.async false
set_option linter.all false
set_option maxRecDepth 100000
/-! ### data: exceptions -/
namespace DL
open PySem L2 Evl EX
/-! an exception made: C(v), its __init__ a def that asks the base's __init__ and then stores one field -/
/-- what the written part says of a class whose __init__ is ValueError's own -/
structure VeC (K : PySem.W.Frag) (CE : Addr) : Prop where
  ga : PySem.W.specialIn K (.ref CE) "__getattribute__" = some (some (.builtin "type.__getattribute__"))
  rd : PySem.W.readsIn K CE (.type "type") = true
  ty : PySem.W.typeIn K (.ref CE) = some (.type "type")
  fi : PySem.W.findCls K (.ref CE) (.type "type") "__init__" = some (.val (.builtin "ValueError.__init__"))
section
variable {X : Cx} {e : Expr} {es : List Expr} {ta : TA} {p1 p2 pos : Pos}
end
/-- __init__'s promise: one field is stored -/
def spXI (K : PySem.W.Frag) (C : Addr) (f : Str) : Sp := fun vs H Q _ => ∃ (a : Addr) (v : V), vs = [.ref a, v] ∧ OexC K C ∧ PySem.W.findIn K (.ref C) f = some none ∧ H a = some (exo a C none) ∧ ∀ dx, H dx = none → dx ≠ a → Q .non (upd (upd H dx (exd dx [(f, v)])) a (exo a C (some dx)))
/-- all that raise C(v) wants -/
structure MkX (P : Program) (w : World) (K : PySem.W.Frag) (mg : Str → Option Value) (base : Heap) (k : Nat) (x : Str) (C : Addr) (f : Str) : Prop where
  ex : ∃ (fI : Addr) (fd : FuncData) (ps : List Str), OexC K C ∧ PySem.W.findIn K (.ref C) "__init__" = some (some (.ref fI)) ∧ PySem.W.typeIn K (.ref fI) = some (.type "function") ∧ FnOk P w K mg base CX0 k fI fd ps (spXI K C f) ∧ Binds K fd ps [] ∧ mg x = some (.ref C) ∧ PySem.W.findIn K (.ref C) f = some none
/-! readings that may raise -/
abbrev DEX := Dst → Sto → DK → XDK → Prop
/-- a def that may raise -/
structure DefX (P : Program) (w : World) (K : PySem.W.Frag) (mg : Str → Option Value) (base : Heap) (k : Nat) (x : Str) (ps : List Str) (sp : SpD) : Prop where
  ex : ∃ (f : Addr) (fd : FuncData), FnOk P w K mg base (L2.CX P w) k f fd ps (lSp K sp) ∧ mg x = some (.ref f) ∧ PySem.W.keepIn K (.ref f) = true ∧ Binds K fd ps []
section
variable {X : Cx} {K : PySem.W.Frag} {W : WXD} {e a b : Expr} {es : List Expr} {da : DA} {pos p : Pos}
/-! statements -/
variable {st : Stmt} {d d2 : DS} {pos' : Pos}
/-! try -/
end
/-! what is caught -/
/-- isinstance(e, ..) of exceptions of C -/
structure XcC (K : PySem.W.Frag) (C : Addr) : Prop where
  cl : (PySem.W.clsIn K C).isSome = true
  ga : PySem.W.findIn K (.ref C) "__getattribute__" = some (some (.builtin "BaseException.__getattribute__"))
  gt : PySem.W.findIn K (.ref C) "__getattr__" = some none
  su : PySem.W.subIn K (.ref C) (.type "BaseException") = some true
  ha : PySem.W.findIn K (.ref C) "__class__" = some (some (.builtin "object.__class__"))
  hn : PySem.W.specialIn K (.builtin "object.__class__") "__get__" = some (some (.builtin "getset_descriptor.__get__"))
  tk : PySem.W.takesIn K (.builtin "object.__class__") = some true
  hm : PySem.W.mroIn K C (.type "object") = some true
  hd : PySem.W.hasDictIn K C = true
section
variable {X : Cx} {K : PySem.W.Frag} {W : WXD} {a : Addr} {cls : Value} {d : Option Addr} {oe : Obj} {pn : List (Addr × Obj)}
end
/-! a def that may raise -/
section
variable {P : Program} {w : World} {K : PySem.W.Frag} {mg : Str → Option Value} {base : Heap}
end
end DL

set_option Elab.async false
set_option linter.all false
set_option maxRecDepth 100000
set_option maxHeartbeats 1000000
/-! ### list.extend(tuple), dict.update(pairs), for .. in reversed(..), range(a, b, -1), sorted(dict of texts) -/
namespace DL
open PySem PySem.Spec PyProof.Rows L2 Evl EX
section
variable {K : PySem.W.Frag}
end
/-! d.update([(k, v), ..]) -/
/-! for x in reversed(l), l a list or a tuple -/
section
variable {X : Cx} {K : PySem.W.Frag} {tg e : Expr} {de : DE} {p pos : Pos}
/-! range(a, b, -1) -/
/-! sorted(dict), its keys texts -/
end
/-! stepping -/
section
variable {δ : Dst} {S : Sto} {k : DK} {kl : List D → Sto → Prop} {E : DEnds} {d e : DS} {de : DE} {dx : DEX} {da : DA} {xs ds : List D} {x : D} {i : Nat} {kx : XDK}
/-! exceptions -/
end
/-! comprehensions that map and filter -/
section
variable {δ : Dst} {S : Sto} {k : DK} {ds : List D} {gc : DGc} {t : DT} {de : DE} {vs : List Nat}
theorem lcSFM {Φ : Sto → Prop} (f : D → Option D) (hl : ds.length < 100000) (hΦ : ∀ p acc, S p = none → Φ (put S p (.lst acc))) (hs : ∀ (p : Addr) (acc : List D) (d : D) (k1 : DK) (k0 : Sto → Prop), S p = none → d ∈ ds → (∀ y, f d = some y → k1 y (put S p (.lst acc))) → (f d = none → k0 (put S p (.lst acc))) →
      gc d (wipeD δ vs) fun δ2 => t δ2 (put S p (.lst acc)) fun b S2 => branch b (de δ2 S2 k1) (k0 S2) ⟨⟩) (hk : k (.list (ds.filterMap f)) S) : lcSC ds Φ gc t de vs δ S k ⟨⟩ := by
  refine lcSOf (fun n acc => acc = (ds.take n).filterMap f) hl hΦ rfl ?_ fun acc ha => ?_
  · rintro p hp n d acc hd rfl
    have ht : ds.take (n + 1) = ds.take n ++ [d] := by rw [List.take_add_one, hd]; rfl
    refine hs p _ d _ _ hp (List.mem_of_getElem? hd) (fun y hy => LcO.of hp ?_) (fun hy => LcO.of hp ?_)
    · rw [ht, List.filterMap_append]; simp [hy]
    · rw [ht, List.filterMap_append]; simp [hy]
  · rw [ha, List.take_length]; exact hk
end
/-! a comprehension whose list will change -/
def dLcN (di : DI) (g : DGc) (t : DT) (de : DE) (vs : List Nat) : DE := fun δ S k => di δ S fun ds S1 => ds.length < 100000 ∧ ∀ p, S1 p = none → ∃ I : Nat → List D → Sto → Prop, I 0 [] S1 ∧
  (∀ n d acc S', ds[n]? = some d → S' p = none → I n acc S' → g d (wipeD δ vs) fun δ2 => t δ2 (put S' p (.lst acc)) fun b S2 => if b = true then de δ2 S2 (fun y S3 => ∃ S4, S4 p = none ∧ S3 = put S4 p (.lst acc) ∧ I (n + 1) (acc ++ [y]) S4) else ∃ S4, S4 p = none ∧ S2 = put S4 p (.lst acc) ∧ I (n + 1) acc S4) ∧
  ∀ acc S', S' p = none → I ds.length acc S' → k (.ref p) (put S' p (.lst acc))
section
variable {X : Cx} {K : PySem.W.Frag} {W : WXD}
theorem l_lcN {di : DI} {g : TG} {gd : DGc} {t : DT} {de : DE} {vs : List Nat} (hg : GcOk K vs g gd) (σ : L2.St) (H : Hp) (Q : VK) : lE K (dLcN di gd t de vs) σ H Q → tLc (lI K di) g (lT K t) (lE K de) vs σ H Q := fun ⟨B, δ, S, k, s, r, h, q⟩ =>
  ⟨B, δ, S, _, s, r, h, fun ds S1 B1 H1 J ⟨hlen, hp⟩ e1 r1 it => fun Dl hD => by
    have fr := (r1.fresh hD).2
    obtain ⟨I, h0, hs, hd⟩ := hp Dl fr
    refine ⟨fun i m H' => m = ds.length - i ∧ i ≤ ds.length ∧ ∃ B2 S2 acc, acc.length ≤ i ∧ S2 Dl = none ∧ Ex B1 B2 ∧ R K B2 (put S2 Dl (.lst acc)) H' ∧ I i acc S2, ⟨ds.length, rfl, Nat.zero_le _, B1, S1, [], Nat.le_refl _, fr, Ex.refl B1, r1.newS hD (.lst .nil), h0⟩, ?_⟩
    rintro i m H' ⟨rfl, hi, B2, S2, acc, hal, n2, e2, r2, hI⟩
    by_cases hlt : i < ds.length
    · refine .inr ⟨it.go i H' (e2.trans r2.ex) hlt, fun H3 => ∃ B3 S3 acc, acc.length ≤ i + 1 ∧ S3 Dl = none ∧ Ex B1 B3 ∧ R K B3 (put S3 Dl (.lst acc)) H3 ∧ I (i + 1) acc S3, fun H3 hn => ⟨ds.length - (i + 1), by omega, rfl, by omega, hn⟩, fun x H3 hy => ?_⟩
      obtain ⟨d, B3, hd', e3, r3, rd⟩ := it.yld i H' x H3 B2 _ e2 r2 hlt hy
      refine hg B3 H3 σ (wipeD δ vs) x d _ _ ((s.mono (e1.trans (e2.trans e3))).wipe vs) r3.ex rd (hs i d acc S2 hd' n2 hI) fun σ2 δ2 hk s2 hw => ⟨hw, ?_⟩
      refine ⟨B3, δ2, _, _, s2, r3, hk, fun b S4 B4 H4 h4 e4 r4 => ?_⟩
      have e14 : Ex B1 B4 := e2.trans (e3.trans e4)
      cases b with
      | false =>
        obtain ⟨S5, n5, rfl, hI5⟩ := h4
        exact ⟨B4, S5, acc, by omega, n5, e14, r4, hI5⟩
      | true =>
        refine ⟨B4, δ2, S4, _, s2.mono e4, r4, h4, fun y S5 v B5 H5 ⟨S6, n6, h6, hI6⟩ e5 r5 d5 => ?_⟩
        subst h6
        obtain ⟨xs, hx, rl⟩ := r5.lst put_same
        have r6 := r5.mut put_same (.lst (rl.append (.one d5)))
        rw [put_put] at r6
        exact ⟨xs, hx, sz_lt (by rw [rl.length]; omega), B5, S6, acc ++ [y], by simp; omega, n6, e14.trans e5, r6, hI6⟩
    · have ei : i = ds.length := by omega
      subst ei
      exact .inl ⟨it.stop _ H' (e2.trans r2.ex) (Nat.le_refl _), q _ _ _ B2 H' (hd acc S2 n2 hI) (e1.trans e2) r2 (.ref Dl)⟩⟩
theorem de_lcN {elt tg iter : Expr} {ifs : List Expr} {scope : Scope} {own : List (Str × Nat)} {pos : Pos} {di : DI} {g : TG} {gd : DGc} {t : DT} {de : DE} (hgc : GcOk K (own.map (·.2)) g gd) (hc : X.calm = true) (hN : X.N.Nodup) (hi : PI X tg iter (lI K di)) (ok : BlkOk X.N X.env.scope scope own)
    (hg : ∀ (s : Shared) (H : Hp) (C : Addr) (cl : List (Str × Addr)) (fp : List Addr), PG (X.blk s H scope (compEnvC scope cl C X.env) fp) tg g) (ht : ∀ (s : Shared) (H : Hp) (C : Addr) (cl : List (Str × Addr)) (fp : List Addr), PTs (X.blk s H scope (compEnvC scope cl C X.env) fp) ifs (lT K t))
    (he : ∀ (s : Shared) (H : Hp) (C : Addr) (cl : List (Str × Addr)) (fp : List Addr), PE (X.blk s H scope (compEnvC scope cl C X.env) fp) elt (lE K de)) (hs : ∀ x, foldedSetIterable iter X.env x = pure x := by intro _; rfl) :
    PE X (.ListComp elt [⟨tg, iter, ifs, 0⟩] scope pos) (lE K (dLcN di gd t de (own.map (·.2)))) := peOf (pe_lc hc hN hi ok hg ht he hs) (l_lcN hgc)
end
def lcNC (ds : List D) (g : DGc) (t : DT) (de : DE) (vs : List Nat) (δ : Dst) (S : Sto) (k : DK) (_ : Tag (k, g, t, de)) : Prop := dLcN (fun _ S1 kk => kk ds S1) g t de vs δ S k
section
variable {δ : Dst} {S : Sto} {k : DK} {ds : List D} {gc : DGc} {t : DT} {de : DE} {vs : List Nat} {di : DI}
theorem x_lcN : dLcN di gc t de vs δ S k = di δ S fun ds S1 => lcNC ds gc t de vs δ S1 k ⟨⟩ := propext Iff.rfl
end
end DL

set_option Elab.async false
set_option linter.all false
set_option maxRecDepth 100000
/-! ### data: != of empty dicts; sorted(dict) as a list of one's own; list(range(..)) -/
namespace DL
open PySem L2 Evl EX
section
variable {K : PySem.W.Frag}
def oSortDLN : List D → Sto → DK → Prop := fun xs S k => match xs with
  | [.ref a] => ∃ (kvs : List (Key × D)) (ks : List Int), S a = some (.dct kvs) ∧ kvs.map (·.1) = ks.map Sum.inl ∧ ks.length ≤ 100000 ∧ ∀ (ys : List Int) (p : Addr), ys.Perm ks → ys.Pairwise (· ≤ ·) → S p = none → k (.ref p) (put S p (.lst (ys.map D.int)))
  | _ => False
theorem si_sortDLN : SimC K SD.rSortDL oSortDLN := fun B S H vs xs k Q r rx h1 q => by
  unfold oSortDLN at h1
  split at h1
  · obtain ⟨v, rfl, rv⟩ := rdl1 rx
    cases rd_ref rv
    obtain ⟨kvs, ks, hs, hk, hl, h1⟩ := h1
    obtain ⟨gs, hg, rg⟩ := r.dct hs
    exact ⟨_, gs, ks, rfl, .inl hg, by rw [rdkv_keys rg]; exact hk, hl, fun ys p pm pw hp => q _ _ _ B _ (h1 ys p pm pw (r.fresh hp).2) (Ex.refl B) (r.newS hp (.lst (rdl_ints _))) (.ref p)⟩
  · exact h1.elim
end
section
variable {S : Sto} {k : DK} {x y : D} {xs : List D}
theorem x_sortDLN : oSortDLN xs S k = stC oSortDLN xs S k ⟨⟩ := propext Iff.rfl
end
end DL

set_option Elab.async false
set_option linter.all false
set_option maxRecDepth 100000
/-! ### data: list(range(a, b)) -/
namespace DL
open PySem L2 Evl EX
section
variable {K : PySem.W.Frag} {X : Cx}
def rLrg : R2 := fun x y H Q => ∃ i j, x = .int i ∧ y = .int j ∧ RgOk i j ∧ ∀ q, H q = none → Q (.ref q) (upd H q (.lst (rgV i j)))
def oLrg : DR2 := fun x y S k => ∃ i j : Int, x = .int i ∧ y = .int j ∧ RgOk i j ∧ k (.list (rngD i (j - i).toNat)) S
theorem rgV_ints (i j : Int) : rgV i j = ((List.range (j - i).toNat).map fun k : Nat => i + (k : Int)).map V.int := by
  unfold rgV
  rw [List.map_map]
  rfl
theorem rngD_ints (i : Int) (n : Nat) : rngD i n = ((List.range n).map fun k : Nat => i + (k : Int)).map D.int := by
  unfold rngD
  rw [List.map_map]
  rfl
theorem si_lrg : Sim2 K rLrg oLrg := fun B S H v w x y k Q r rx ry h1 q => by
  obtain ⟨i, j, rfl, rfl, ok, h1⟩ := h1
  cases rd_int rx
  cases rd_int ry
  refine ⟨i, j, rfl, rfl, ok, fun p hp => ?_⟩
  have n := r.new (o := .lst (rgV i j)) hp
  exact q _ S _ _ _ h1 n.2 n.1 (.lst upd_same (by rw [rgV_ints, rngD_ints]; exact rdl_ints _))
theorem de_listRg {a b : Expr} {da db : DE} {p1 p2 pos1 pos : Pos} (hc : X.calm = true) (g1 : Gl X "list") (m1 : X.mg "list" = none) (g2 : Gl X "range") (m2 : X.mg "range" = none) (ha : PE X a (lE K da)) (hb : PE X b (lE K db))
    (na : starEach [a, b] X.env = (false, eval a X.env) :: starEach [b] X.env := by rfl) (nb : starEach [b] X.env = (false, eval b X.env) :: starEach [] X.env := by rfl) (hp : (backTo pos1 (starEach [b] X.env)).any (·.1) = false := by rfl)
    (n1 : starEach [Expr.Call (.Name "range" p2) [a, b] [] pos1] X.env = (false, eval (Expr.Call (.Name "range" p2) [a, b] [] pos1) X.env) :: starEach [] X.env := by rfl) :
    PE X (.Call (.Name "list" p1) [.Call (.Name "range" p2) [a, b] [] pos1] [] pos) (lE K (dOp oLrg da db)) := peOf (pe_listRg hc g1 m1 (prg_2 g2 m2 ha hb na nb hp) n1) fun σ H Q h => l_op si_lrg σ H Q h
end
section
variable {S : Sto} {k : DK} {x y : D}
theorem x_lrg : oLrg x y S k = st2 oLrg x y S k ⟨⟩ := propext Iff.rfl
theorem lrgOf {i j : Int} (h : RgOk i j) (q : k (.list (rngD i (j - i).toNat)) S) : st2 oLrg (.int i) (.int j) S k ⟨⟩ := ⟨i, j, rfl, rfl, h, q⟩
end
end DL

set_option Elab.async false
set_option linter.all false
set_option maxRecDepth 100000
/-! sorted(set(xs)), xs a list of whole numbers, doubles or not -/
namespace ST
open PySem PySem.Spec PyProof.Rows L2
section
variable {prog : Program} {w : World} {A : Around} {E : Value → Shared → Prop} {s : Shared}
/-- the set of a list's whole numbers -/
theorem set_ints {l : Addr} {items : Array Value} {ns : List Int} {Q : Value → Shared → Prop} (hh : A.handled = none) (hl : s.heap.IsList l items) (hi : IntsAre items.toList ns) (hroom : ns.length + 1 < scanBound)
    (h : ∀ (h' : Heap) (tk c : Nat), SetR w h' s.heap.objs.size (fun j => decide (j ∈ ns)) c → c ≤ ns.length → (∀ b o, s.heap.get? b = some o → h'.get? b = some o) →
      Q (.ref s.heap.objs.size) { s with heap := h', toks := tk }) : wpAny (model prog w) A (call (.type "set") [.ref l]) Q E s := by
  refine made_by (Q1 := fun x s1 => x = .ref s.heap.objs.size ∧ s1 = { s with heap := s.heap.push { cls := .type "set", dict := none, data := .set #[] 0 (.fresh 0 0 (!w.params.followText "set-order")) } })
    PySem.F.called_set (PySem.F.typeCall_set_1 (.ref l)) PySem.F.entry_set_init (code_set_led1 (.ref l) ⟨rfl, rfl⟩) ?_
  rintro x s1 ⟨rfl, rfl⟩
  generalize hled : (!w.params.followText "set-order") = led
  have n1 : (s.heap.push { cls := .type "set", dict := none, data := .set #[] 0 (.fresh 0 0 led) }).get? s.heap.objs.size = some { cls := .type "set", dict := none, data := .set #[] 0 (.fresh 0 0 led) } := Heap.get?_push_size _ rfl
  have ty : Shared.TypeIs { s with heap := s.heap.push { cls := .type "set", dict := none, data := .set #[] 0 (.fresh 0 0 led) } } (.ref s.heap.objs.size) "set" := ⟨_, n1, rfl⟩
  refine ⟨ty, check_set_init_1 ty ?_⟩
  have hl1 : (s.heap.push { cls := .type "set", dict := none, data := .set #[] 0 (.fresh 0 0 led) }).IsList l items := isList_at hl fun o e => Heap.get?_push_of_some _ e
  have hlt : l < s.heap.objs.size := let ⟨o, e, _⟩ := hl; Heap.lt_size e
  have hsz : ns.length = items.size := by
    have q := IntsAre.length hi
    rw [Array.length_toList] at q
    exact q.symm
  obtain ⟨ol, hol, hcl, nl, hdl⟩ := id hl1
  obtain ⟨c1, c2, c3, c4⟩ := ol
  simp only at hcl hdl
  subst hcl
  subst hdl
  have f1 := PySem.F.sub_list_set
  have f2 := PySem.F.sub_list_frozenset
  have f3 : (Value.type "list" == Value.type "dict") = false := by decide
  unfold Builtin.«set.__init__» noKeywords Builtin.Frozenset.updateFrom
  generalize hit : pyIter = it
  wp_walk
  subst hit
  refine wpAny_pyIter_list hl1 (wpAny_bind (wpAny_runValue ?_))
  have hne : l ≠ (s.heap.push { cls := .type "set", dict := none, data := .set #[] 0 (.fresh 0 0 led) }).objs.size := by rw [Heap.size_push]; exact Nat.ne_of_lt (Nat.lt_succ_of_lt hlt)
  have hout : s.heap.objs.size ∉ [(s.heap.push { cls := .type "set", dict := none, data := .set #[] 0 (.fresh 0 0 led) }).objs.size, l] := by
    rw [Heap.size_push]
    intro q
    rcases List.mem_cons.mp q with q | q
    · exact absurd q (Nat.ne_of_lt (Nat.lt_succ_self _))
    · exact absurd (List.mem_singleton.mp q) (Nat.ne_of_gt hlt)
  refine set_update_ints ((Walks.list (by simp [hh]) _ l hne items).toS) s.heap.objs.size hout ns hsz.symm hroom (fun i v hv => ?_) (items.size - 0) 0 _ (by omega) (Nat.zero_le _) ⟨⟨_, Heap.get?_push_size _ rfl, rfl, rfl⟩, hl1.push _⟩ ?_ ?_
  · have hilt : i < ns.length := by rw [hsz]; exact (Array.getElem?_eq_some_iff.mp hv).1
    obtain ⟨t, e⟩ := PyProof.Rows.IntsAre.int_at hi i v (by rw [Array.getElem?_toList]; exact hv)
    refine ⟨ns[i], t, List.getElem?_eq_getElem hilt, ?_⟩
    rw [e, List.getD_eq_getElem?_getD, List.getElem?_eq_getElem hilt] <;> rfl
  · refine ⟨0, Nat.le_refl 0, setR_new_at ?_⟩
    rw [hled]
    exact Heap.get?_push_of_some _ n1
  · rintro ⟨h', g', d', tk', os'⟩ c hm hc hS'
    have z1 : g' = s.gens := hm.gens
    have z2 : d' = s.drawn := hm.drawn
    have z3 : os' = s.os := hm.os
    subst z1 z2 z3
    refine wpAny_pure (wpAny_pure ⟨rfl, h h' tk' c hS' (by omega) fun b o e => ?_⟩)
    have hb := Heap.lt_size e
    refine hm.heap b o (fun q => ?_) (Heap.get?_push_of_some _ (Heap.get?_push_of_some _ e))
    rcases List.mem_cons.mp q with q | q
    · exact absurd q (Nat.ne_of_lt hb)
    · rw [List.mem_singleton, Heap.size_push] at q
      exact absurd q (Nat.ne_of_lt (Nat.lt_succ_of_lt hb))
end
end ST
namespace L2
open PySem PySem.Spec PyProof.Rows
theorem sort_setR {X : Cx} {pins : List (Addr × Obj)} {σ : St} {H : Hp} {s : Shared} {a : Addr} {S : Int → Bool} {c : Nat} {Q : VK} {E : Value → Shared → Prop} (hc : X.calm = true) (I : Inv X pins σ H s) (R : SetR X.w s.heap a S c) (h64 : c < 64)
    (q : ∀ (ys : List Int) (p : Addr), ys.Pairwise (· < ·) → (∀ k, k ∈ ys ↔ S k = true) → H p = none → Q (.ref p) (upd H p (.lst (ys.map V.int)))) :
    wpAny (model X.prog X.w) X.A (call (.builtin "sorted") [.ref a]) (EP X pins σ Q) E s := by
  refine sorted_set R (I.ok.hd hc) h64 fun s' p out c' ys k' g o hp hgt hi hs hmm hl => ?_
  have hlen : (ys.map V.int).length ≤ sizeLine := by rw [List.length_map, hl, sizeLine_eq]; omega
  have hn : H p = none := I.hok.fresh hp
  have J : Inv X pins σ (upd H p (.lst (ys.map V.int))) { s with heap := s'.heap, gens := s'.gens, drawn := s'.drawn, toks := s'.toks } :=
    I.call (ch := []) (Un.laid k' hp hn) (I.hok.laid k' hp ⟨hlen, out.toList, c', vals_of_ints hi, hgt⟩) (by rw [g]; exact I.bare) (fun _ z => nomatch z)
  have e : s' = { s with heap := s'.heap, gens := s'.gens, drawn := s'.drawn, toks := s'.toks } := by
    cases s'
    cases s
    cases o
    rfl
  rw [e]
  exact ⟨.ref p, _, J, rfl, q ys p hs hmm hn⟩
def tSortSet (K : PySem.W.Frag) (ta : TE) : TE := fun σ H Q => ta σ H fun x H1 => ∃ (l : Addr) (ns : List Int), x = .ref l ∧ SqL K H1 l (ns.map V.int) ∧ ns.length ≤ 1000 ∧ (∀ l : List Int, l.Nodup → (∀ j ∈ l, j ∈ ns) → l.length < 64) ∧ ∀ (ys : List Int) (p : Addr), ys.Pairwise (· < ·) → (∀ k, k ∈ ys ↔ k ∈ ns) → H1 p = none → Q (.ref p) (upd H1 p (.lst (ys.map V.int)))
theorem pe_sortSet {X : Cx} {K : PySem.W.Frag} {a : Expr} {ta : TE} {p p2 q pos : Pos} (hc : X.calm = true) (hg : Gl X "sorted") (hm : X.mg "sorted" = none) (hg2 : Gl X "set") (hm2 : X.mg "set" = none) (ha : PE X a ta)
    (na : starEach [a] X.env = (false, eval a X.env) :: starEach [] X.env := by rfl) (hK : X.K = K := by rfl) : PE X (.Call (.Name "sorted" p) [.Call (.Name "set" p2) [a] [] q] [] pos) (tSortSet K ta) := by
  subst hK
  refine ⟨fun pins s σ H Q I h => Call_ (ld_blt I hg hm (by rfl) (PyProof.Rows.callWith_builtin1 (PyProof.Rows.args_cons (Call_ (ld_blt I hg2 hm2 boot_set ?_)) rfl) rfl rfl))⟩
  refine PyProof.Rows.callWith_type1 (PyProof.Rows.args_cons (thn (ha.run pins s σ H _ I h) fun v s1 ⟨x, H1, I1, r1, l, ns, ex, hS, hz, hdis, k⟩ => PyProof.Rows.args_nil ?_) na) na rfl
  subst ex
  cases r1
  obtain ⟨its, r, pl, _⟩ := I1.list hS
  refine ST.set_ints (I1.ok.hd hc) pl.isList (by simpa using ints_of_vals r) (by unfold scanBound; omega) fun h' tk c hR hcl hk => PyProof.Rows.args_nil ?_
  have I2 : Inv X pins σ H1 { s1 with heap := h', toks := tk } := I1.kept hk
  have hc64 : c < 64 := by
    obtain ⟨o, es, ep, t, _, _, _, _, hnd, hmem, _, _, hn, _, _⟩ := id hR
    have := hdis (es.toList.map keyOf) hnd fun j hj => by simpa using (hmem j).mpr hj
    rw [List.length_map, Array.length_toList] at this
    omega
  exact sort_setR hc I2 hR hc64 fun ys p hs hmm hn => k ys p hs (fun j => (hmm j).trans (by simp)) hn
end L2
namespace DL
open PySem L2 Evl EX
def dSortSet (da : DE) : DE := fun δ S k => da δ S fun x S1 => ∃ ns : List Int, SeqD S1 x (ns.map D.int) ∧ ns.length ≤ 1000 ∧ (∀ l : List Int, l.Nodup → (∀ j ∈ l, j ∈ ns) → l.length < 64) ∧ (∀ ds, x ≠ .tup ds) ∧ ∀ ys : List Int, ys.Pairwise (· < ·) → (∀ j, j ∈ ys ↔ j ∈ ns) → k (.list (ys.map D.int)) S1
def ssq (x : D) (S : Sto) (k : DK) (_ : Tag k) : Prop := ∃ ns : List Int, SeqD S x (ns.map D.int) ∧ ns.length ≤ 1000 ∧ (∀ l : List Int, l.Nodup → (∀ j ∈ l, j ∈ ns) → l.length < 64) ∧ (∀ ds, x ≠ .tup ds) ∧ ∀ ys : List Int, ys.Pairwise (· < ·) → (∀ j, j ∈ ys ↔ j ∈ ns) → k (.list (ys.map D.int)) S
theorem x_sortSet {da : DE} {δ : Dst} {S : Sto} {k : DK} : dSortSet da δ S k = da δ S fun x S1 => ssq x S1 k ⟨⟩ := propext Iff.rfl
theorem de_sortSet {X : Cx} {K : PySem.W.Frag} {a : Expr} {da : DE} {p p2 q pos : Pos} (hc : X.calm = true) (hg : Gl X "sorted") (hm : X.mg "sorted" = none) (hg2 : Gl X "set") (hm2 : X.mg "set" = none) (ha : PE X a (lE K da))
    (na : starEach [a] X.env = (false, eval a X.env) :: starEach [] X.env := by rfl) (hK : X.K = K := by rfl) : PE X (.Call (.Name "sorted" p) [.Call (.Name "set" p2) [a] [] q] [] pos) (lE K (dSortSet da)) :=
  peOf (pe_sortSet (K := K) hc hg hm hg2 hm2 ha na hK) fun σ H Q ⟨B, δ, S, k, s, r, h, q⟩ => ⟨B, δ, S, _, s, r, h, fun x S1 v B1 H1 h1 e1 r1 d1 => by
  obtain ⟨ns, hs, hz, hdis, ht, h1⟩ := h1
  obtain ⟨l, xs, rfl, hp, rl⟩ := seqL_ok hs ht r1 d1
  have e := rdl_of_map (g := V.int) (fun v b h => rd_int h) ns rl
  subst e
  refine ⟨l, ns, rfl, hp, hz, hdis, fun ys p pw hm hp => ?_⟩
  have n := r1.new (o := .lst (ys.map V.int)) hp
  exact q _ S1 _ _ _ (h1 ys pw hm) (e1.trans n.2) n.1 (.lst upd_same (rdl_ints ys))⟩
end DL

set_option Elab.async false
set_option linter.all false
set_option maxRecDepth 100000
/-! a list made of a dict that will change; != of lists that hold instances -/
namespace DL
open PySem L2 Evl EX
def dLcSN (di : DIS) (g : DGc) (t : DT) (de : DE) (vs : List Nat) : DE := fun δ S k => di δ S fun ds Φ S1 => ds.length < 100000 ∧ ∀ p, S1 p = none → ∃ I : Nat → List D → Sto → Prop, I 0 [] S1 ∧ (∀ n acc S', S' p = none → I n acc S' → Φ (put S' p (.lst acc))) ∧
  (∀ n d acc S', ds[n]? = some d → S' p = none → I n acc S' → g d (wipeD δ vs) fun δ2 => t δ2 (put S' p (.lst acc)) fun b S2 => if b = true then de δ2 S2 (fun y S3 => ∃ S4, S4 p = none ∧ S3 = put S4 p (.lst acc) ∧ I (n + 1) (acc ++ [y]) S4) else ∃ S4, S4 p = none ∧ S2 = put S4 p (.lst acc) ∧ I (n + 1) acc S4) ∧
  ∀ acc S', S' p = none → I ds.length acc S' → k (.ref p) (put S' p (.lst acc))
section
variable {X : Cx} {K : PySem.W.Frag} {W : WXD}
theorem l_lcSN {di : DIS} {g : TG} {gd : DGc} {t : DT} {de : DE} {vs : List Nat} (hg : GcOk K vs g gd) (σ : L2.St) (H : Hp) (Q : VK) : lE K (dLcSN di gd t de vs) σ H Q → tLc (lIS K di) g (lT K t) (lE K de) vs σ H Q := fun ⟨B, δ, S, k, s, r, h, q⟩ =>
  ⟨B, δ, S, _, s, r, h, fun ds Φ S1 B1 H1 J ⟨hlen, hp⟩ e1 r1 it => fun Dl hD => by
    have fr := (r1.fresh hD).2
    obtain ⟨I, h0, hΦ, hs, hd⟩ := hp Dl fr
    refine ⟨fun i m H' => m = ds.length - i ∧ i ≤ ds.length ∧ ∃ B2 S2 acc, acc.length ≤ i ∧ S2 Dl = none ∧ Ex B1 B2 ∧ R K B2 (put S2 Dl (.lst acc)) H' ∧ I i acc S2, ⟨ds.length, rfl, Nat.zero_le _, B1, S1, [], Nat.le_refl _, fr, Ex.refl B1, r1.newS hD (.lst .nil), h0⟩, ?_⟩
    rintro i m H' ⟨rfl, hi, B2, S2, acc, hal, n2, e2, r2, hI⟩
    have ph := hΦ i acc S2 n2 hI
    by_cases hlt : i < ds.length
    · refine .inr ⟨it.go i B2 _ H' e2 r2 ph hlt, fun H3 => ∃ B3 S3 acc, acc.length ≤ i + 1 ∧ S3 Dl = none ∧ Ex B1 B3 ∧ R K B3 (put S3 Dl (.lst acc)) H3 ∧ I (i + 1) acc S3, fun H3 hn => ⟨ds.length - (i + 1), by omega, rfl, by omega, hn⟩, fun x H3 hy => ?_⟩
      obtain ⟨d, B3, hd', e3, r3, rd⟩ := it.yld i H' x H3 B2 _ e2 r2 ph hlt hy
      refine hg B3 H3 σ (wipeD δ vs) x d _ _ ((s.mono (e1.trans (e2.trans e3))).wipe vs) r3.ex rd (hs i d acc S2 hd' n2 hI) fun σ2 δ2 hk s2 hw => ⟨hw, ?_⟩
      refine ⟨B3, δ2, _, _, s2, r3, hk, fun b S4 B4 H4 h4 e4 r4 => ?_⟩
      have e14 : Ex B1 B4 := e2.trans (e3.trans e4)
      cases b with
      | false =>
        obtain ⟨S5, n5, rfl, hI5⟩ := h4
        exact ⟨B4, S5, acc, by omega, n5, e14, r4, hI5⟩
      | true =>
        refine ⟨B4, δ2, S4, _, s2.mono e4, r4, h4, fun y S5 v B5 H5 ⟨S6, n6, h6, hI6⟩ e5 r5 d5 => ?_⟩
        subst h6
        obtain ⟨xs, hx, rl⟩ := r5.lst put_same
        have r6 := r5.mut put_same (.lst (rl.append (.one d5)))
        rw [put_put] at r6
        exact ⟨xs, hx, sz_lt (by rw [rl.length]; omega), B5, S6, acc ++ [y], by simp; omega, n6, e14.trans e5, r6, hI6⟩
    · have ei : i = ds.length := by omega
      subst ei
      exact .inl ⟨it.stop _ B2 _ H' e2 r2 ph (Nat.le_refl _), q _ _ _ B2 H' (hd acc S2 n2 hI) (e1.trans e2) r2 (.ref Dl)⟩⟩
theorem ds_setLcSN {i : Nat} {y : Str} {py : Pos} {elt tg iter : Expr} {ifs : List Expr} {scope : Scope} {own : List (Str × Nat)} {pos spos : Pos} {di : DIS} {g : TG} {gd : DGc} {t : DT} {de : DE} (hgc : GcOk K (own.map (·.2)) g gd) (hc : X.calm = true) (hN : X.N.Nodup) (hy : X.N[i]? = some y) (hyl : X.env.scope.names.lookup y = some .local)
    (hsw : swapsWith (.ListComp elt [⟨tg, iter, ifs, 0⟩] scope pos) (some (.Name y py)) spos.line X.env = pure true) (hi : PI X tg iter (lIS K di)) (ok : BlkOk X.N X.env.scope scope own)
    (hg : ∀ (s : Shared) (H : Hp) (C : Addr) (cl : List (Str × Addr)) (fp : List Addr), PG (X.blk s H scope (compEnvC scope cl C X.env) fp) tg g) (ht : ∀ (s : Shared) (H : Hp) (C : Addr) (cl : List (Str × Addr)) (fp : List Addr), PTs (X.blk s H scope (compEnvC scope cl C X.env) fp) ifs (lT K t))
    (he : ∀ (s : Shared) (H : Hp) (C : Addr) (cl : List (Str × Addr)) (fp : List Addr), PE (X.blk s H scope (compEnvC scope cl C X.env) fp) elt (lE K de)) (hs : ∀ x, foldedSetIterable iter X.env x = pure x := by intro _; rfl) :
    PS X (.Assign [.Name y py] (.ListComp elt [⟨tg, iter, ifs, 0⟩] scope pos) spos) (lS K W (dSet (dLcSN di gd t de (own.map (·.2))) i)) := psOf (ps_setLc hc hN hy hyl hsw hi ok hg ht he hs) fun E σ H ⟨B, δ, S, D, s, r, h, l⟩ =>
  l_lcSN hgc σ H _ ⟨B, δ, S, _, s, r, h, fun x S1 v B1 H1 h1 e1 r1 d1 => l.nx _ S1 _ B1 H1 h1 e1 ((s.mono e1).set d1 i) r1⟩
end
def lcSNC (ds : List D) (Φ : Sto → Prop) (g : DGc) (t : DT) (de : DE) (vs : List Nat) (δ : Dst) (S : Sto) (k : DK) (_ : Tag (k, g, t, de)) : Prop := ds.length < 100000 ∧ ∀ p, S p = none → ∃ I : Nat → List D → Sto → Prop, I 0 [] S ∧ (∀ n acc S', S' p = none → I n acc S' → Φ (put S' p (.lst acc))) ∧
  (∀ n d acc S', ds[n]? = some d → S' p = none → I n acc S' → g d (wipeD δ vs) fun δ2 => t δ2 (put S' p (.lst acc)) fun b S2 => if b = true then de δ2 S2 (fun y S3 => ∃ S4, S4 p = none ∧ S3 = put S4 p (.lst acc) ∧ I (n + 1) (acc ++ [y]) S4) else ∃ S4, S4 p = none ∧ S2 = put S4 p (.lst acc) ∧ I (n + 1) acc S4) ∧
  ∀ acc S', S' p = none → I ds.length acc S' → k (.ref p) (put S' p (.lst acc))
section
variable {δ : Dst} {S : Sto} {k : DK} {de : DE} {gc : DGc} {t : DT} {di : DIS} {ds : List D} {Φ : Sto → Prop} {vs : List Nat}
theorem x_lcSN : dLcSN di gc t de vs δ S k = di δ S fun ds Φ S1 => lcSNC ds Φ gc t de vs δ S1 k ⟨⟩ := propext Iff.rfl
theorem lcSNOf (P : Nat → List D → Prop) (hl : ds.length < 100000) (hΦ : ∀ p acc, S p = none → Φ (put S p (.lst acc))) (h0 : P 0 [])
    (hs : ∀ p, S p = none → ∀ n d acc, ds[n]? = some d → P n acc → gc d (wipeD δ vs) fun δ2 => t δ2 (put S p (.lst acc)) fun b S2 => branch b (de δ2 S2 (fun y S3 => LcO S p acc (P (n + 1) (acc ++ [y])) S3)) (LcO S p acc (P (n + 1) acc) S2) ⟨⟩) (hd : ∀ acc p, S p = none → P ds.length acc → k (.ref p) (put S p (.lst acc))) :
    lcSNC ds Φ gc t de vs δ S k ⟨⟩ := by
  refine ⟨hl, fun p hp => ⟨fun n acc S' => S' = S ∧ P n acc, ⟨rfl, h0⟩, ?_, ?_, ?_⟩⟩
  · rintro n acc S' _ ⟨rfl, _⟩
    exact hΦ p acc hp
  · rintro n d acc S' hd' _ ⟨rfl, hP⟩
    exact hs p hp n d acc hd' hP
  · rintro acc S' _ ⟨rfl, hP⟩
    exact hd acc p hp hP
end
end DL
namespace L2
open PySem PySem.Spec PyProof.Rows
/-- the same, or flat and alike -/
def SameV (x y : V) : Prop := (x = y ∧ flatB x = true) ∨ ∃ a, x = .ref a ∧ y = .ref a
theorem same_items {A : Around} {s : Shared} {xs ys : List V} (hp : Paired SameV xs ys) :
    ∀ {us ws : List Value}, Vals xs us → Vals ys ws → ∀ j (h1 : j < us.length) (h2 : j < ws.length), SeqAt.EqAt A s us[j] ws[j] true := by
  induction hp with
  | nil =>
    intro us ws r1 r2 j h1 h2
    cases r1
    exact absurd h1 (Nat.not_lt_zero j)
  | cons h _ k =>
    intro us ws r1 r2 j h1 h2
    cases r1 with
    | cons a1 b1 =>
      cases r2 with
      | cons a2 b2 =>
        cases j with
        | zero =>
          rcases h with ⟨rfl, f⟩ | ⟨a, rfl, rfl⟩
          · exact eqAt_same a1 a2 f
          · have e1 := (show _ = Value.ref a from a1)
            have e2 := (show _ = Value.ref a from a2)
            subst e1
            subst e2
            exact SeqAt.EqAt.same _
        | succ j => exact k b1 b2 j (Nat.lt_of_succ_lt_succ h1) (Nat.lt_of_succ_lt_succ h2)
def rNeV (K : PySem.W.Frag) : R2 := fun x y H Q => ∃ a b xs ys, x = .ref a ∧ y = .ref b ∧ SqL K H a xs ∧ SqL K H b ys ∧ Paired SameV xs ys ∧ Q (.bl false) H
theorem op_neV {X : Cx} {K : PySem.W.Frag} (hu : X.A.units < cLine) (hk : X.K = K := by rfl) : OpR X (compareOp .NotEq) (rNeV K) := by
  subst hk
  intro pins s σ H x y v u Q I rx ry h
  obtain ⟨a, b, xs, ys, rfl, rfl, ha, hb, hp, q⟩ := h
  cases (show v = Value.ref a from rx)
  cases (show u = Value.ref b from ry)
  obtain ⟨us, r1, p1, _⟩ := I.list ha
  obtain ⟨ws, r2, p2, _⟩ := I.list hb
  have hsz : us.toArray.size = ws.toArray.size := by
    rw [List.size_toArray, List.size_toArray, ← r1.length, ← r2.length]
    exact Paired.length hp
  refine SeqAt.RcNeAt.lists (e := fun _ => true) p1.isList p2.isList hsz hu (fun j h1 h2 => ?_) _ _ _ _ ?_
  · have k := same_items (A := X.A.in1) (s := s) hp r1 r2 j (by simpa using h1) (by simpa using h2)
    simpa using k
  · rw [show ((List.range us.toArray.size).all fun _ => true) = true from List.all_eq_true.mpr fun _ _ => rfl]
    exact ⟨.bl false, H, I, rfl, q⟩
end L2
namespace DL
open PySem L2 Evl EX
def flatR : D → Bool
  | .non => true | .bl _ => true | .int _ => true | .str _ => true | .ref _ => true
  | _ => false
theorem same_of {K : PySem.W.Frag} {B B' : Hp} : ∀ {xs ys : List V} {ds : List D}, RdL K B xs ds → RdL K B' ys ds → ds.all flatR = true → Paired SameV xs ys
  | _, _, _, .nil, .nil, _ => .nil
  | _, _, _, .cons h1 t1, .cons h2 t2, hf => by
    rw [List.all_cons, Bool.and_eq_true] at hf
    refine .cons ?_ (same_of t1 t2 hf.2)
    cases h1 <;> cases h2 <;> first | exact .inl ⟨rfl, rfl⟩ | exact .inr ⟨_, rfl, rfl⟩ | exact absurd hf.1 (by simp [flatR])
def oNeV : DR2 := fun x y S k => ∃ ds, SeqD S x ds ∧ SeqD S y ds ∧ (∀ es, x ≠ .tup es) ∧ (∀ es, y ≠ .tup es) ∧ ds.all flatR = true ∧ k (.bl false) S
theorem si_neV {K : PySem.W.Frag} : Sim2 K (rNeV K) oNeV := fun B S H v w x y k Q r rx ry h1 q => by
  obtain ⟨ds, h2, h3, h4, h5, h6, h1⟩ := h1
  obtain ⟨p, xs, rfl, hp, rl⟩ := seqL_ok h2 h4 r rx
  obtain ⟨p', ys, rfl, hp', rl'⟩ := seqL_ok h3 h5 r ry
  exact ⟨p, p', xs, ys, rfl, rfl, hp, hp', same_of rl rl' h6, q _ S _ B H h1 (Ex.refl B) r (.bl _)⟩
theorem x_neV {x y : D} {S : Sto} {k : DK} : oNeV x y S k = st2 oNeV x y S k ⟨⟩ := propext Iff.rfl
end DL
namespace DL
open PySem L2 Evl EX
/-- a list: told for good, or in the store -/
def LstAt (S : Sto) (x : D) (ds : List D) : Prop := x = .list ds ∨ ∃ a, x = .ref a ∧ S a = some (.lst ds)
theorem lstAt_ok {K : PySem.W.Frag} {B H : Hp} {S : Sto} {v : V} {x : D} {ds : List D} (h : LstAt S x ds) (r : R K B S H) (rx : RdD K B v x) : ∃ p xs, v = .ref p ∧ H p = some (.lst xs) ∧ RdL K B xs ds := by
  rcases h with rfl | ⟨a, rfl, ha⟩
  · obtain ⟨a, xs, rfl, ha, rl⟩ := rd_list rx
    exact ⟨a, xs, rfl, r.ex _ _ ha, rl⟩
  · obtain ⟨xs, ha, rl⟩ := r.lst ha
    exact ⟨_, xs, rd_ref rx, ha, rl⟩
def oCatM : DR2 := fun x y S k => ∃ a b, LstAt S x a ∧ LstAt S y b ∧ a.length + b.length ≤ 100000 ∧ k (.list (a ++ b)) S
theorem si_catM {K : PySem.W.Frag} : Sim2 K rCat oCatM := fun B S H v w x y k Q r rx ry h1 q => by
  obtain ⟨a, b, ha, hb, hl, h1⟩ := h1
  obtain ⟨p, xs, rfl, hp, rl⟩ := lstAt_ok ha r rx
  obtain ⟨p2, ys, rfl, hp2, rl2⟩ := lstAt_ok hb r ry
  refine ⟨p, p2, xs, ys, rfl, rfl, hp, hp2, sz_of (by rw [rl.length, rl2.length]; exact hl), fun z hz => ?_⟩
  have n := r.new (o := .lst (xs ++ ys)) hz
  exact q _ S _ _ _ h1 n.2 n.1 (.lst upd_same ((rl.append rl2).mono n.2))
theorem x_catM {x y : D} {S : Sto} {k : DK} : oCatM x y S k = st2 oCatM x y S k ⟨⟩ := propext Iff.rfl
end DL

set_option Elab.async false
set_option linter.all false
set_option maxRecDepth 100000
/-! ### what stands in the store, by places of a kind of one's own -/
namespace DL
open PySem L2 Evl EX
structure Rep {L : Type} (A : L → Addr) (C : L → Option O) (S : Sto) : Prop where
  at_ : ∀ {l : L} {o : O}, C l = some o → S (A l) = some o
  inj : ∀ {l l' : L}, C l ≠ none → C l' ≠ none → A l = A l' → l = l'
/-- from one standing to the next: all else stays, nothing is lost, what is new stands where nothing stood; what is pinned keeps its address -/
structure Tr {L : Type} (pin : L → Prop) (A : L → Addr) (C : L → Option O) (S : Sto) (A' : L → Addr) (C' : L → Option O) (S' : Sto) : Prop where
  rep : Rep A' C' S'
  fr : ∀ b, S b ≠ none → (∀ l, C l ≠ none → b ≠ A l) → S' b = S b
  grow : ∀ b, S b ≠ none → S' b ≠ none
  ext : ∀ l, C' l ≠ none → (C l ≠ none ∧ A' l = A l) ∨ S (A' l) = none
  keep : ∀ l, pin l → C l ≠ none → A' l = A l
theorem nn {α : Type} {x : Option α} {a : α} (h : x = some a) : x ≠ none := by rw [h]; exact nofun
section
variable {L : Type} {pin : L → Prop} {A A' A2 : L → Addr} {C C' C2 : L → Option O} {S S' S2 : Sto} {l : L} {o o' : O} {p : Addr}
theorem Rep.refl (R : Rep A C S) : Tr pin A C S A C S := ⟨R, fun _ _ _ => rfl, fun _ h => h, fun _ h => .inl ⟨h, rfl⟩, fun _ _ _ => rfl⟩
theorem Rep.ne (R : Rep A C S) {l l' : L} (h : C l ≠ none) (h' : C l' ≠ none) (e : l ≠ l') : A l ≠ A l' := fun z => e (R.inj h h' z)
theorem Rep.get (R : Rep A C S) (h : C l ≠ none) : ∃ o, C l = some o ∧ S (A l) = some o := by
  cases e : C l with
  | none => exact absurd e h
  | some o => exact ⟨o, rfl, R.at_ e⟩
theorem Rep.live (R : Rep A C S) (h : C l ≠ none) : S (A l) ≠ none := by
  obtain ⟨o, _, e⟩ := R.get h
  exact nn e
theorem Tr.trans (T : Tr pin A C S A' C' S') (U : Tr pin A' C' S' A2 C2 S2) (hk : ∀ l, pin l → C l ≠ none → C' l ≠ none) : Tr pin A C S A2 C2 S2 := by
  refine ⟨U.rep, fun b hb hl => ?_, fun b hb => U.grow b (T.grow b hb), fun l h => ?_, fun l hp h => ?_⟩
  · have e := T.fr b hb hl
    rw [U.fr b (by rw [e]; exact hb) fun l h z => ?_, e]
    rcases T.ext l h with ⟨h1, h2⟩ | h1
    · exact hl l h1 (z.trans h2)
    · rw [← z] at h1; exact hb h1
  · rcases U.ext l h with ⟨h1, h2⟩ | h1
    · rcases T.ext l h1 with ⟨h3, h4⟩ | h3
      · exact .inl ⟨h3, h2.trans h4⟩
      · exact .inr (by rw [h2]; exact h3)
    · refine .inr ?_
      cases e : S (A2 l) with
      | none => rfl
      | some o => exact absurd h1 (T.grow _ (nn e))
  · rw [U.keep l hp (hk l hp h), T.keep l hp h]
theorem live_of (h : C l = some o) (hl : C' l = some o') (hne : ∀ l', l' ≠ l → C' l' = C l') (l' : L) : C' l' ≠ none ↔ C l' ≠ none := by
  by_cases z : l' = l
  · subst z; rw [h, hl]; exact ⟨fun _ => nofun, fun _ => nofun⟩
  · rw [hne l' z]
/-- one thing changes -/
theorem Rep.set (R : Rep A C S) (h : C l = some o) (hl : C' l = some o') (hne : ∀ l', l' ≠ l → C' l' = C l') : Tr pin A C S A C' (put S (A l) o') := by
  have lv := live_of h hl hne
  refine ⟨⟨fun {l' u} e => ?_, fun {l1 l2} h1 h2 => R.inj ((lv l1).mp h1) ((lv l2).mp h2)⟩, fun b _ hb => put_ne (hb l (nn h)), fun b hb => ?_, fun l' h' => .inl ⟨(lv l').mp h', rfl⟩, fun _ _ _ => rfl⟩
  · by_cases z : l' = l
    · subst z; rw [put_same, ← hl, e]
    · rw [put_ne (R.ne ((lv l').mp (nn e)) (nn h) z)]
      rw [hne l' z] at e
      exact R.at_ e
  · by_cases z : b = A l
    · rw [z, put_same]; exact nofun
    · rw [put_ne z]; exact hb
/-- a thing more -/
theorem Rep.new (R : Rep A C S) (hp : S p = none) (h0 : C l = none) (hA : A' l = p) (hA' : ∀ l', C l' ≠ none → A' l' = A l') (hl : C' l = some o') (hne : ∀ l', l' ≠ l → C' l' = C l') : Tr pin A C S A' C' (put S p o') := by
  have lv : ∀ l', l' ≠ l → C' l' ≠ none → C l' ≠ none := fun l' z h => by rw [← hne l' z]; exact h
  refine ⟨⟨fun {l' u} e => ?_, fun {l1 l2} h1 h2 e => ?_⟩, fun b hb _ => put_ne (fun z => hb (by rw [z]; exact hp)), fun b hb => ?_, fun l' h' => ?_, fun l' _ h' => hA' l' h'⟩
  · by_cases z : l' = l
    · subst z; rw [hA, put_same, ← hl, e]
    · have h1 := lv l' z (nn e)
      rw [hne l' z] at e
      rw [hA' l' h1, put_ne (sto_ne (R.at_ e) hp)]
      exact R.at_ e
  · by_cases z1 : l1 = l
    · by_cases z2 : l2 = l
      · rw [z1, z2]
      · have g := lv l2 z2 h2
        rw [z1, hA, hA' l2 g] at e
        exact absurd hp (by rw [e]; exact R.live g)
    · have g1 := lv l1 z1 h1
      by_cases z2 : l2 = l
      · rw [z2, hA, hA' l1 g1] at e
        exact absurd hp (by rw [← e]; exact R.live g1)
      · have g2 := lv l2 z2 h2
        rw [hA' l1 g1, hA' l2 g2] at e
        exact R.inj g1 g2 e
  · rw [put_ne (fun z => hb (by rw [z]; exact hp))]; exact hb
  · by_cases z : l' = l
    · exact .inr (by rw [z, hA]; exact hp)
    · have := lv l' z h'
      exact .inl ⟨this, hA' l' this⟩
/-- something counts no more -/
theorem Rep.sub (R : Rep A C S) (h : ∀ l o, C' l = some o → C l = some o) : Tr pin A C S A C' S := by
  have lv : ∀ l, C' l ≠ none → C l ≠ none := fun l hl => by
    cases e : C' l with
    | none => exact absurd e hl
    | some o => exact nn (h l o e)
  exact ⟨⟨fun {l o} e => R.at_ (h l o e), fun {l1 l2} h1 h2 => R.inj (lv l1 h1) (lv l2 h2)⟩, fun _ _ _ => rfl, fun _ hb => hb, fun l hl => .inl ⟨lv l hl, rfl⟩, fun _ _ _ => rfl⟩
/-- what stands elsewhere -/
theorem Tr.other (T : Tr pin A C S A' C' S') {b : Addr} {u : O} (h : S b = some u) (hb : ∀ l, C l ≠ none → b ≠ A l) : S' b = some u := by rw [T.fr b (nn h) hb]; exact h
end
/-! two kinds of places beside one another -/
def Apart {L M : Type} (A : L → Addr) (C : L → Option O) (B : M → Addr) (E : M → Option O) : Prop := ∀ l m, C l ≠ none → E m ≠ none → A l ≠ B m
section
variable {L M : Type} {pin : L → Prop} {A A' : L → Addr} {C C' : L → Option O} {B B' : M → Addr} {E E' : M → Option O} {S S' : Sto}
theorem Apart.symm (h : Apart A C B E) : Apart B E A C := fun m l a b z => h l m b a z.symm
theorem Tr.keepR (T : Tr pin A C S A' C' S') (R : Rep B E S) (P : Apart A C B E) : Rep B E S' ∧ Apart A' C' B E := by
  refine ⟨⟨fun {m u} e => T.other (R.at_ e) fun l hl z => P l m hl (nn e) z.symm, R.inj⟩, fun l m hl hm z => ?_⟩
  rcases T.ext l hl with ⟨h1, h2⟩ | h1
  · exact P l m h1 hm (h2.symm.trans z)
  · rw [z] at h1; exact R.live hm h1
end
def fset {α : Type} (f : Nat → α) (n : Nat) (v : α) : Nat → α := fun i => if i = n then v else f i
section
variable {α : Type} {f : Nat → α} {n i : Nat} {v w : α}
theorem fset_same : fset f n v n = v := by unfold fset; rw [if_pos rfl]
theorem fset_ne (h : i ≠ n) : fset f n v i = f i := by unfold fset; rw [if_neg h]
theorem fset_id : fset f n (f n) = f := by
  funext i
  unfold fset
  split
  · rename_i h; rw [h]
  · rfl
end
end DL

set_option Elab.async false
set_option linter.all false
set_option maxRecDepth 100000
/-! ### halls: states, and how they go on (no program in sight) -/
namespace HM
open PySem L2 DL
/-- no thing -/
inductive NoTh : D → Prop where
  | non : NoTh .non
  | int (i : Int) : NoTh (.int i)
  | str (s : Str) (h : PyData.strOk s = true) : NoTh (.str s)
  | bl (b : Bool) : NoTh (.bl b)
/-- a value in a hall -/
inductive Vl where
  | no (d : D) | th (n : Nat)
structure Hs where
  many : Nat
  cnt : Nat → Int
  parts : Nat → List (Key × Vl)
  form : Nat → D
  own : Nat → D
  there : List Nat
  left : List Nat
  row : Option (List Nat)
  lasts : Nat
  waits : List Nat
  asked : List Nat
  rest : List Nat
  outer : List Nat
  mine : List Nat
  ends : List Nat
  told : List D
def VOk (m : Nat) : Vl → Prop
  | .no d => NoTh d
  | .th j => 1 ≤ j ∧ j ≤ m
structure Wf (s : Hs) : Prop where
  nd : s.there.Nodup
  tin : ∀ n ∈ s.there, 1 ≤ n ∧ n ≤ s.many
  len : s.there.length + s.left.length ≤ s.many
  most : s.many ≤ 5000
  key : ∀ n, ((s.parts n).map (·.1)).Nodup
  plen : ∀ n, (s.parts n).length ≤ 90000
  pv : ∀ n, ∀ kv ∈ s.parts n, VOk s.many kv.2
  wnd : s.waits.Nodup
  win : ∀ n ∈ s.waits, 1 ≤ n ∧ n ≤ s.many
  rnd : ∀ l, s.row = some l → l.Nodup ∧ ∀ n ∈ l, n ∈ s.waits
  pz : ∀ n, s.many < n → s.parts n = []
  az : ∀ n ∈ s.asked, n ≤ s.many
  kok : ∀ n, ∀ kv ∈ s.parts n, (dK kv.1).any = true
def Hs.dec (s : Hs) (n : Nat) : Hs := { s with cnt := fset s.cnt n (s.cnt n - 1) }
def Hs.inc (s : Hs) (n : Nat) : Hs := { s with cnt := fset s.cnt n (s.cnt n + 1) }
def Hs.held (s : Hs) : Vl → Hs
  | .no _ => s
  | .th n => s.inc n
/-- a thing that is let go now -/
def Hs.enqs (s : Hs) (n : Nat) : Bool := decide (s.cnt n = 0) && decide (n ∈ s.there) && !decide (n ∈ s.waits)
def Hs.enq (s : Hs) (n : Nat) : Hs := { s with waits := s.waits ++ [n], row := s.row.map (· ++ [n]) }
/-- a hold less, a row being at work -/
def Hs.loosed (s : Hs) : Vl → Hs
  | .no _ => s
  | .th n => if (s.dec n).enqs n = true then (s.dec n).enq n else s.dec n
/-- n's parts taken out one by one -/
def Hs.emptied (s : Hs) (n : Nat) : List (Key × Vl) → Hs
  | [] => s
  | kv :: l => (({ s with parts := fset s.parts n l } : Hs).loosed kv.2).emptied n l
def Hs.gone (s : Hs) (n : Nat) : Hs := { s with there := s.there.filter (fun i => decide (i ≠ n)), left := s.left ++ [n], rest := s.rest ++ [n] }
def Hs.bare (s : Hs) (n : Nat) : Hs := { s with rest := s.rest.filter fun i => decide (i ≠ n) }
def Hs.up (s : Hs) (n : Nat) : Hs := { s with cnt := fset s.cnt n (s.cnt n + 1), outer := s.outer ++ [n] }
def Hs.down (s : Hs) (n : Nat) : Hs := { s with cnt := fset s.cnt n (s.cnt n - 1), outer := s.outer.erase n }
def Hs.unwait (s : Hs) (n : Nat) : Hs := { s with waits := s.waits.erase n }
abbrev AskR := Hs → Nat → Hs → Prop
inductive Turn (ask : AskR) : Hs → Nat → Hs → Prop where
  | pass {s : Hs} {n : Nat} : (0 < s.cnt n ∨ n ∉ s.there) → Turn ask s n (s.unwait n)
  | stay {s s1 : Hs} {n : Nat} : ¬ (0 < s.cnt n ∨ n ∉ s.there) → ask ((s.unwait n).up n) n s1 → (s1.down n).cnt n ≠ 0 → Turn ask s n (s1.down n)
  | go {s s1 : Hs} {n : Nat} : ¬ (0 < s.cnt n ∨ n ∉ s.there) → ask ((s.unwait n).up n) n s1 → (s1.down n).cnt n = 0 → Turn ask s n ((((s1.down n).gone n).emptied n (s1.parts n)).bare n)
/-- a row worked off, by so many turns -/
inductive Work (ask : AskR) : Nat → Hs → Hs → Prop where
  | done {s : Hs} : s.row = some [] → Work ask 0 s { s with row := none }
  | step {f n : Nat} {r : List Nat} {s s1 s2 : Hs} : s.row = some (n :: r) → Turn ask { s with row := some r } n s1 → Work ask f s1 s2 → Work ask (f + 1) s s2
inductive Loose (ask : AskR) : Hs → Vl → Hs → Prop where
  | no {s : Hs} {d : D} : Loose ask s (.no d) s
  | kept {s : Hs} {n : Nat} : (s.dec n).enqs n = false → Loose ask s (.th n) (s.dec n)
  | wait {s : Hs} {n : Nat} : (s.dec n).enqs n = true → s.row ≠ none → Loose ask s (.th n) ((s.dec n).enq n)
  | work {s s' : Hs} {n f : Nat} : (s.dec n).enqs n = true → s.row = none → Work ask f { (s.dec n).enq n with row := some [n] } s' → Loose ask s (.th n) s'
/-- what is asked of how lasts are asked -/
structure AskOk (ask : AskR) : Prop where
  wf : ∀ {s n s'}, ask s n s' → Wf s → n ∈ s.there → Wf s'
  row : ∀ {s n s'}, ask s n s' → s'.row = s.row
  waits : ∀ {s n s'}, ask s n s' → s'.waits = s.waits
  many : ∀ {s n s'}, ask s n s' → s.many ≤ s'.many
  stay : ∀ {s n s'}, ask s n s' → n ∈ s.there → n ∈ s'.there
def askNo : AskR := fun s _ s' => s' = s
theorem askNo_ok : AskOk askNo := ⟨fun h w _ => h ▸ w, fun h => h ▸ rfl, fun h => h ▸ rfl, fun h => h ▸ Nat.le_refl _, fun h i => h ▸ i⟩
/-! states that are well made -/
theorem enqs_iff {s : Hs} {n : Nat} : s.enqs n = true ↔ s.cnt n = 0 ∧ n ∈ s.there ∧ n ∉ s.waits := by
  unfold Hs.enqs
  simp [and_assoc]
section
variable {s : Hs} {n : Nat}
theorem Wf.dec (w : Wf s) (n : Nat) : Wf (s.dec n) := ⟨w.nd, w.tin, w.len, w.most, w.key, w.plen, w.pv, w.wnd, w.win, w.rnd, w.pz, w.az, w.kok⟩
theorem Wf.inc (w : Wf s) (n : Nat) : Wf (s.inc n) := ⟨w.nd, w.tin, w.len, w.most, w.key, w.plen, w.pv, w.wnd, w.win, w.rnd, w.pz, w.az, w.kok⟩
theorem Wf.up (w : Wf s) (n : Nat) : Wf (s.up n) := ⟨w.nd, w.tin, w.len, w.most, w.key, w.plen, w.pv, w.wnd, w.win, w.rnd, w.pz, w.az, w.kok⟩
theorem Wf.down (w : Wf s) (n : Nat) : Wf (s.down n) := ⟨w.nd, w.tin, w.len, w.most, w.key, w.plen, w.pv, w.wnd, w.win, w.rnd, w.pz, w.az, w.kok⟩
theorem Wf.bare (w : Wf s) (n : Nat) : Wf (s.bare n) := ⟨w.nd, w.tin, w.len, w.most, w.key, w.plen, w.pv, w.wnd, w.win, w.rnd, w.pz, w.az, w.kok⟩
theorem Wf.enq (w : Wf s) (h : s.enqs n = true) : Wf (s.enq n) := by
  obtain ⟨_, h2, h3⟩ := enqs_iff.mp h
  refine ⟨w.nd, w.tin, w.len, w.most, w.key, w.plen, w.pv, ?_, fun i hi => ?_, fun l hl => ?_, w.pz, w.az, w.kok⟩
  · exact List.nodup_append.mpr ⟨w.wnd, by simp, fun a ha b hb e => h3 (by rw [← List.mem_singleton.mp hb, ← e]; exact ha)⟩
  · rcases List.mem_append.mp hi with hi | hi
    · exact w.win i hi
    · rw [List.mem_singleton.mp hi]; exact w.tin n h2
  · obtain ⟨l0, h0, rfl⟩ := Option.map_eq_some_iff.mp (show s.row.map (· ++ [n]) = some l from hl)
    obtain ⟨r1, r2⟩ := w.rnd l0 h0
    refine ⟨List.nodup_append.mpr ⟨r1, by simp, fun a ha b hb e => h3 (by rw [← List.mem_singleton.mp hb, ← e]; exact r2 a ha)⟩, fun i hi => ?_⟩
    show i ∈ s.waits ++ [n]
    rcases List.mem_append.mp hi with hi | hi
    · exact List.mem_append_left _ (r2 i hi)
    · exact List.mem_append_right _ hi
theorem loosed_th (s : Hs) (n : Nat) : s.loosed (.th n) = if (s.dec n).enqs n = true then (s.dec n).enq n else s.dec n := rfl
theorem Wf.loosed (w : Wf s) (v : Vl) : Wf (s.loosed v) := by
  cases v with
  | no d => exact w
  | th n =>
    rw [loosed_th]
    split
    · rename_i h; exact (w.dec n).enq h
    · exact w.dec n
theorem Wf.part (w : Wf s) {n : Nat} {kv : Key × Vl} {l : List (Key × Vl)} (h : s.parts n = kv :: l) : Wf { s with parts := fset s.parts n l } := by
  refine ⟨w.nd, w.tin, w.len, w.most, fun i => ?_, fun i => ?_, fun i kv' hk => ?_, w.wnd, w.win, w.rnd, fun i hi => ?_, w.az, fun i kv' hk => ?_⟩
  rotate_right
  · have hk' : kv' ∈ fset s.parts n l i := hk
    by_cases z : i = n
    · subst z
      rw [fset_same] at hk'
      exact w.kok i kv' (by rw [h]; exact List.mem_cons_of_mem _ hk')
    · rw [fset_ne z] at hk'; exact w.kok i kv' hk'
  rotate_right
  · show fset s.parts n l i = []
    by_cases z : i = n
    · subst z
      have := w.pz i hi
      rw [h] at this
      cases this
    · rw [fset_ne z]; exact w.pz i hi
  · show ((fset s.parts n l i).map (·.1)).Nodup
    by_cases z : i = n
    · subst z
      rw [fset_same]
      have := w.key i
      rw [h, List.map_cons] at this
      exact (List.nodup_cons.mp this).2
    · rw [fset_ne z]; exact w.key i
  · show (fset s.parts n l i).length ≤ _
    by_cases z : i = n
    · subst z
      rw [fset_same]
      have := w.plen i
      rw [h, List.length_cons] at this
      omega
    · rw [fset_ne z]; exact w.plen i
  · by_cases z : i = n
    · subst z
      rw [show ({ s with parts := fset s.parts i l } : Hs).parts i = l from fset_same] at hk
      exact w.pv i kv' (by rw [h]; exact List.mem_cons_of_mem _ hk)
    · rw [show ({ s with parts := fset s.parts n l } : Hs).parts i = s.parts i from fset_ne z] at hk
      exact w.pv i kv' hk
theorem loosed_parts (s : Hs) (v : Vl) : (s.loosed v).parts = s.parts := by
  cases v with
  | no d => rfl
  | th n => rw [loosed_th]; split <;> rfl
theorem loosed_many (s : Hs) (v : Vl) : (s.loosed v).many = s.many := by
  cases v with
  | no d => rfl
  | th n => rw [loosed_th]; split <;> rfl
theorem loosed_row (s : Hs) (v : Vl) : (s.loosed v).row = none ↔ s.row = none := by
  cases v with
  | no d => exact Iff.rfl
  | th n =>
    rw [loosed_th]
    split
    · show s.row.map _ = none ↔ _
      simp
    · exact Iff.rfl
theorem Wf.emptied : ∀ {l : List (Key × Vl)} {s : Hs}, Wf s → s.parts n = l → Wf (s.emptied n l)
  | [], s, w, _ => w
  | kv :: l, s, w, h => by
    refine Wf.emptied (l := l) ((w.part h).loosed kv.2) ?_
    rw [loosed_parts]
    exact fset_same
theorem emptied_many : ∀ (l : List (Key × Vl)) (s : Hs), (s.emptied n l).many = s.many
  | [], s => rfl
  | kv :: l, s => by
    show ((({ s with parts := fset s.parts n l } : Hs).loosed kv.2).emptied n l).many = _
    rw [emptied_many l, loosed_many]
theorem emptied_row : ∀ (l : List (Key × Vl)) (s : Hs), (s.emptied n l).row = none ↔ s.row = none
  | [], s => Iff.rfl
  | kv :: l, s => by
    show ((({ s with parts := fset s.parts n l } : Hs).loosed kv.2).emptied n l).row = none ↔ _
    rw [emptied_row l, loosed_row]
theorem Wf.gone (w : Wf s) (h : n ∈ s.there) : Wf (s.gone n) := by
  refine ⟨w.nd.sublist List.filter_sublist, fun i hi => w.tin i (List.mem_filter.mp hi).1, ?_, w.most, w.key, w.plen, w.pv, w.wnd, w.win, w.rnd, w.pz, w.az, w.kok⟩
  show (s.there.filter fun i => decide (i ≠ n)).length + (s.left ++ [n]).length ≤ s.many
  have h1 : (s.there.filter fun i => decide (i ≠ n)).length < s.there.length := List.length_filter_lt_length_iff_exists.mpr ⟨n, h, by simp⟩
  have := w.len
  rw [List.length_append, List.length_singleton]
  omega
theorem Wf.unwait (w : Wf s) (h : ∀ l, s.row = some l → n ∉ l) : Wf (s.unwait n) := by
  refine ⟨w.nd, w.tin, w.len, w.most, w.key, w.plen, w.pv, w.wnd.erase _, fun i hi => w.win i (List.mem_of_mem_erase hi), fun l hl => ?_, w.pz, w.az, w.kok⟩
  obtain ⟨r1, r2⟩ := w.rnd l hl
  refine ⟨r1, fun i hi => ?_⟩
  exact (List.mem_erase_of_ne (fun z : i = n => h l hl (z ▸ hi))).mpr (r2 i hi)
theorem Wf.rowTail (w : Wf s) {r : List Nat} (h : s.row = some (n :: r)) : Wf { s with row := some r } ∧ n ∉ r ∧ n ∈ s.waits := by
  obtain ⟨r1, r2⟩ := w.rnd _ h
  obtain ⟨r3, r4⟩ := List.nodup_cons.mp r1
  refine ⟨⟨w.nd, w.tin, w.len, w.most, w.key, w.plen, w.pv, w.wnd, w.win, fun l hl => ?_, w.pz, w.az, w.kok⟩, r3, r2 n (List.mem_cons_self ..)⟩
  cases hl
  exact ⟨r4, fun i hi => r2 i (List.mem_cons_of_mem _ hi)⟩
end
section
variable {ask : AskR} (K : AskOk ask) {s s' : Hs} {n : Nat}
include K
theorem Turn.wf (t : Turn ask s n s') (w : Wf s) (h : ∀ l, s.row = some l → n ∉ l) : Wf s' ∧ s.many ≤ s'.many := by
  cases t with
  | pass _ => exact ⟨w.unwait h, Nat.le_refl _⟩
  | stay h1 h2 h3 =>
    rename_i s1
    have hn : n ∈ s.there := Classical.not_not.mp fun z => h1 (.inr z)
    exact ⟨(K.wf h2 ((w.unwait h).up n) hn).down n, by have := K.many h2; exact this⟩
  | go h1 h2 h3 =>
    rename_i s1
    have hn : n ∈ s.there := Classical.not_not.mp fun z => h1 (.inr z)
    have w1 := (K.wf h2 ((w.unwait h).up n) hn).down n
    have hs := K.stay h2 hn
    refine ⟨((w1.gone hs).emptied rfl).bare n, ?_⟩
    show s.many ≤ (((s1.down n).gone n).emptied n (s1.parts n)).many
    rw [emptied_many]
    have := K.many h2
    exact this
theorem Work.wf {f : Nat} (t : Work ask f s s') (w : Wf s) : Wf s' ∧ s.many ≤ s'.many := by
  induction t with
  | done h => exact ⟨⟨w.nd, w.tin, w.len, w.most, w.key, w.plen, w.pv, w.wnd, w.win, fun l hl => (nomatch hl), w.pz, w.az, w.kok⟩, Nat.le_refl _⟩
  | step h1 h2 h3 ih =>
    obtain ⟨w1, w2, _⟩ := w.rowTail h1
    obtain ⟨w3, w4⟩ := h2.wf K w1 fun l hl => by cases hl; exact w2
    obtain ⟨w5, w6⟩ := ih w3
    exact ⟨w5, Nat.le_trans w4 w6⟩
theorem Loose.wf {v : Vl} (t : Loose ask s v s') (w : Wf s) : Wf s' ∧ s.many ≤ s'.many := by
  cases t with
  | no => exact ⟨w, Nat.le_refl _⟩
  | kept h => exact ⟨w.dec _, Nat.le_refl _⟩
  | wait h _ => exact ⟨(w.dec _).enq h, Nat.le_refl _⟩
  | work h h1 h2 =>
    rename_i n f
    have w1 := (w.dec n).enq h
    exact h2.wf K ⟨w1.nd, w1.tin, w1.len, w1.most, w1.key, w1.plen, w1.pv, w1.wnd, w1.win, fun l hl => by
      cases hl
      exact ⟨by simp, fun i hi => by rw [List.mem_singleton.mp hi]; exact List.mem_append_right _ (List.mem_singleton.mpr rfl)⟩, w1.pz, w1.az, w1.kok⟩
end
/-! a thing made; a part put, taken -/
def Hs.made (s : Hs) (form own : D) : Hs := { s with many := s.many + 1, cnt := fset s.cnt (s.many + 1) 0, form := fset s.form (s.many + 1) form, own := fset s.own (s.many + 1) own, there := s.there ++ [s.many + 1] }
theorem Wf.made {s : Hs} (w : Wf s) (h : s.many < 5000) (form own : D) : Wf (s.made form own) := by
  refine ⟨?_, fun i hi => ?_, ?_, by show s.many + 1 ≤ 5000; omega, w.key, w.plen, fun n kv hk => ?_, w.wnd, fun i hi => ?_, w.rnd, fun i hi => w.pz i (by have : s.many + 1 < i := hi; omega), fun i hi => ?_, w.kok⟩
  · exact List.nodup_append.mpr ⟨w.nd, by simp, fun a ha b hb e => by have := w.tin a ha; rw [List.mem_singleton.mp hb] at e; omega⟩
  · show 1 ≤ i ∧ i ≤ s.many + 1
    rcases List.mem_append.mp hi with hi | hi
    · have := w.tin i hi; omega
    · rw [List.mem_singleton.mp hi]; omega
  · show (s.there ++ [s.many + 1]).length + s.left.length ≤ s.many + 1
    have := w.len
    rw [List.length_append, List.length_singleton]
    omega
  · have := w.pv n kv hk
    show VOk (s.many + 1) kv.2
    cases e : kv.2 with
    | no d => rw [e] at this; exact this
    | th j => rw [e] at this; exact ⟨this.1, Nat.le_succ_of_le this.2⟩
  · have := w.win i hi
    show 1 ≤ i ∧ i ≤ s.many + 1
    omega
  · have := w.az i hi
    show i ≤ s.many + 1
    omega
def Hs.putP (s : Hs) (n : Nat) (k : Key) (v : Vl) : Hs := { s.held v with parts := fset s.parts n (gput (s.parts n) k v) }
def oldP (s : Hs) (n : Nat) (k : Key) : Vl := (gval (s.parts n) k).getD (.no .non)
open Classical in
theorem gput_keys {β : Type} (l : List (Key × β)) (k : Key) (v : β) : (gput l k v).map (·.1) = if k ∈ l.map (·.1) then l.map (·.1) else l.map (·.1) ++ [k] := by
  unfold gput
  by_cases h : k ∈ l.map (·.1)
  · obtain ⟨kv, h1, h2⟩ := List.mem_map.mp h
    rw [if_pos h, if_pos (List.any_eq_true.mpr ⟨kv, h1, by simpa using h2⟩), List.map_map]
    refine List.map_congr_left fun x _ => ?_
    show (if x.1 = k then (x.1, v) else x).1 = x.1
    split <;> rfl
  · rw [if_neg h, if_neg, List.map_append, List.map_singleton]
    intro z
    obtain ⟨kv, h1, h2⟩ := List.any_eq_true.mp z
    exact h (List.mem_map.mpr ⟨kv, h1, by simpa using h2⟩)
theorem gput_mem {β : Type} {l : List (Key × β)} {k : Key} {v : β} {x : Key × β} (h : x ∈ gput l k v) : x ∈ l ∨ x.2 = v := by
  unfold gput at h
  split at h
  · obtain ⟨y, h1, h2⟩ := List.mem_map.mp h
    split at h2
    · exact .inr (by rw [← h2])
    · exact .inl (by rw [← h2]; exact h1)
  · rcases List.mem_append.mp h with h | h
    · exact .inl h
    · exact .inr (by rw [List.mem_singleton.mp h])
theorem Wf.held {s : Hs} (w : Wf s) (v : Vl) : Wf (s.held v) := by
  cases v with
  | no d => exact w
  | th n => exact w.inc n
theorem held_many (s : Hs) (v : Vl) : (s.held v).many = s.many := by cases v <;> rfl
theorem held_parts (s : Hs) (v : Vl) : (s.held v).parts = s.parts := by cases v <;> rfl
theorem Wf.setParts {s : Hs} (w : Wf s) {n : Nat} (hn : n ≤ s.many) {l : List (Key × Vl)} (h1 : (l.map (·.1)).Nodup) (h2 : l.length ≤ 90000) (h3 : ∀ kv ∈ l, VOk s.many kv.2) (h4 : ∀ kv ∈ l, (dK kv.1).any = true) : Wf { s with parts := fset s.parts n l } := by
  refine ⟨w.nd, w.tin, w.len, w.most, fun i => ?_, fun i => ?_, fun i kv hk => ?_, w.wnd, w.win, w.rnd, fun i hi => ?_, w.az, fun i kv hk => ?_⟩
  rotate_right
  · have hk' : kv ∈ fset s.parts n l i := hk
    by_cases z : i = n
    · subst z; rw [fset_same] at hk'; exact h4 kv hk'
    · rw [fset_ne z] at hk'; exact w.kok i kv hk'
  · show ((fset s.parts n l i).map (·.1)).Nodup
    by_cases z : i = n
    · subst z; rw [fset_same]; exact h1
    · rw [fset_ne z]; exact w.key i
  · show (fset s.parts n l i).length ≤ _
    by_cases z : i = n
    · subst z; rw [fset_same]; exact h2
    · rw [fset_ne z]; exact w.plen i
  · have hk' : kv ∈ fset s.parts n l i := hk
    show VOk s.many kv.2
    by_cases z : i = n
    · subst z; rw [fset_same] at hk'; exact h3 kv hk'
    · rw [fset_ne z] at hk'; exact w.pv i kv hk'
  · show fset s.parts n l i = []
    rw [fset_ne (by have : s.many < i := hi; omega)]
    exact w.pz i hi
theorem gput_key {β : Type} {l : List (Key × β)} {k : Key} {v : β} {x : Key × β} (h : x ∈ gput l k v) : (∃ y ∈ l, y.1 = x.1) ∨ x.1 = k := by
  unfold gput at h
  split at h
  · obtain ⟨y, h1, h2⟩ := List.mem_map.mp h
    refine .inl ⟨y, h1, ?_⟩
    split at h2
    · rw [← h2]
    · rw [← h2]
  · rcases List.mem_append.mp h with h | h
    · exact .inl ⟨x, h, rfl⟩
    · exact .inr (by rw [List.mem_singleton.mp h])
theorem Wf.putP {s : Hs} (w : Wf s) {n : Nat} {k : Key} {v : Vl} (hn : n ≤ s.many) (hv : VOk s.many v) (hk : (dK k).any = true) (hl : (s.parts n).length < 90000) : Wf (s.putP n k v) := by
  have h := (w.held v).setParts (n := n) (l := gput (s.parts n) k v) (by rw [held_many]; exact hn) ?_ ?_ ?_ ?_
  · rw [held_parts] at h; exact h
  · rw [gput_keys]
    split
    · exact w.key n
    · rename_i hk
      exact List.nodup_append.mpr ⟨w.key n, by simp, fun a ha b hb e => hk (by rw [← List.mem_singleton.mp hb, ← e]; exact ha)⟩
  · have := congrArg List.length (gput_keys (s.parts n) k v)
    rw [List.length_map] at this
    rw [this]
    split
    · rw [List.length_map]; omega
    · rw [List.length_append, List.length_map, List.length_singleton]; omega
  · intro kv hk
    rw [held_many]
    rcases gput_mem hk with h | h
    · exact w.pv n kv h
    · rw [h]; exact hv
  · intro kv hk'
    rcases gput_key hk' with ⟨y, h1, h2⟩ | h
    · rw [← h2]; exact w.kok n y h1
    · rw [h]; exact hk
theorem oldP_ok {s : Hs} (w : Wf s) (n : Nat) (k : Key) : VOk s.many (oldP s n k) := by
  unfold oldP gval
  cases e : (s.parts n).find? fun kv => decide (kv.1 = k) with
  | none => exact NoTh.non
  | some kv => exact w.pv n kv (List.mem_of_find?_eq_some e)
end HM

set_option Elab.async false
set_option linter.all false
set_option maxRecDepth 100000
/-! ### a hall in the store -/
namespace HM
open PySem L2 DL
def thFs (form num cnt parts own ended waits : D) : List (Str × D) := [("form", form), ("number", num), ("count", cnt), ("parts", parts), ("own", own), ("ended", ended), ("waits", waits)]
def haFs (ender many there left row lasts : D) : List (Str × D) := [("ender", ender), ("many", many), ("there", there), ("left", left), ("row", row), ("lasts", lasts)]
section
variable {a b c d e f g x : D}
theorem th_number : (thFs a b c d e f g).lookup ("number" : Str) = some b := rfl
theorem th_count : (thFs a b c d e f g).lookup ("count" : Str) = some c := rfl
theorem th_parts : (thFs a b c d e f g).lookup ("parts" : Str) = some d := rfl
theorem th_own : (thFs a b c d e f g).lookup ("own" : Str) = some e := rfl
theorem th_waits : (thFs a b c d e f g).lookup ("waits" : Str) = some g := rfl
theorem th_count' : putFD "count" x (thFs a b c d e f g) = thFs a b x d e f g := rfl
theorem th_waits' : putFD "waits" x (thFs a b c d e f g) = thFs a b c d e f x := rfl
theorem ha_ender : (haFs a b c d e f).lookup ("ender" : Str) = some a := rfl
theorem ha_many : (haFs a b c d e f).lookup ("many" : Str) = some b := rfl
theorem ha_there : (haFs a b c d e f).lookup ("there" : Str) = some c := rfl
theorem ha_left : (haFs a b c d e f).lookup ("left" : Str) = some d := rfl
theorem ha_row : (haFs a b c d e f).lookup ("row" : Str) = some e := rfl
theorem ha_many' : putFD "many" x (haFs a b c d e f) = haFs a x c d e f := rfl
theorem ha_row' : putFD "row" x (haFs a b c d e f) = haFs a b c d x f := rfl
end
inductive HL where
  | hall | th | lf | row | t (n : Nat) | pd (n : Nat)
  deriving DecidableEq
structure HA where
  a : HL → Addr
  dx : Addr
  dt : Nat → Addr
def vD (H : HA) : Vl → D
  | .no d => d
  | .th n => .ref (H.a (.t n))
def rowD (H : HA) : Option (List Nat) → D
  | none => .non
  | some _ => .ref (H.a .row)
def hallO (CH : Addr) (en : D) (H : HA) (s : Hs) : O := .ins CH H.dx (haFs en (.int (s.many : Int)) (.ref (H.a .th)) (.ref (H.a .lf)) (rowD H s.row) (.int (s.lasts : Int)))
def thereO (H : HA) (l : List Nat) : O := .dct (l.map fun n : Nat => ((.inl (n : Int), .ref (H.a (.t n))) : Key × D))
def leftO (l : List Nat) : O := .lst (l.map fun n : Nat => .int (n : Int))
def rowO (H : HA) (l : List Nat) : O := .lst (l.map fun n => .ref (H.a (.t n)))
def thingO (CT : Addr) (H : HA) (s : Hs) (n : Nat) : O := .ins CT (H.dt n) (thFs (s.form n) (.int (n : Int)) (.int (s.cnt n)) (.ref (H.a (.pd n))) (s.own n) (.bl (decide (n ∈ s.asked))) (.bl (decide (n ∈ s.waits))))
def partsO (H : HA) (l : List (Key × Vl)) : O := .dct (l.map fun kv => ((kv.1, vD H kv.2) : Key × D))
def hC (CT CH : Addr) (en : D) (H : HA) (s : Hs) : HL → Option O
  | .hall => some (hallO CH en H s)
  | .th => some (thereO H s.there)
  | .lf => some (leftO s.left)
  | .row => s.row.map (rowO H)
  | .t n => if 1 ≤ n ∧ n ≤ s.many then some (thingO CT H s n) else none
  | .pd n => if 1 ≤ n ∧ n ≤ s.many then some (partsO H (s.parts n)) else none
/-- a hall stands in the store -/
abbrev HRep (CT CH : Addr) (en : D) (H : HA) (s : Hs) (S : Sto) : Prop := Rep H.a (hC CT CH en H s) S
structure HTr (CT CH : Addr) (en : D) (H : HA) (s : Hs) (S : Sto) (H' : HA) (s' : Hs) (S' : Sto) : Prop where
  tr : Tr (fun l => l ≠ HL.row) H.a (hC CT CH en H s) S H'.a (hC CT CH en H' s') S'
  many : s.many ≤ s'.many
section
variable {CT CH : Addr} {en : D} {H H' H2 : HA} {s s' s2 : Hs} {S S' S2 : Sto} {n : Nat}
theorem hC_t (h1 : 1 ≤ n) (h2 : n ≤ s.many) : hC CT CH en H s (.t n) = some (thingO CT H s n) := if_pos ⟨h1, h2⟩
theorem hC_pd (h1 : 1 ≤ n) (h2 : n ≤ s.many) : hC CT CH en H s (.pd n) = some (partsO H (s.parts n)) := if_pos ⟨h1, h2⟩
theorem hrep_hall (R : HRep CT CH en H s S) : S (H.a .hall) = some (.ins CH H.dx (haFs en (.int (s.many : Int)) (.ref (H.a .th)) (.ref (H.a .lf)) (rowD H s.row) (.int (s.lasts : Int)))) := R.at_ (l := .hall) rfl
theorem hrep_th (R : HRep CT CH en H s S) : S (H.a .th) = some (.dct (s.there.map fun n : Nat => ((.inl (n : Int), .ref (H.a (.t n))) : Key × D))) := R.at_ (l := .th) rfl
theorem hrep_lf (R : HRep CT CH en H s S) : S (H.a .lf) = some (.lst (s.left.map fun n : Nat => .int (n : Int))) := R.at_ (l := .lf) rfl
theorem hrep_row (R : HRep CT CH en H s S) {l : List Nat} (h : s.row = some l) : S (H.a .row) = some (.lst (l.map fun n => .ref (H.a (.t n)))) := R.at_ (l := .row) (by show s.row.map (rowO H) = _; rw [h]; rfl)
theorem hrep_t (R : HRep CT CH en H s S) (h1 : 1 ≤ n) (h2 : n ≤ s.many) : S (H.a (.t n)) = some (.ins CT (H.dt n) (thFs (s.form n) (.int (n : Int)) (.int (s.cnt n)) (.ref (H.a (.pd n))) (s.own n) (.bl (decide (n ∈ s.asked))) (.bl (decide (n ∈ s.waits))))) := R.at_ (hC_t h1 h2)
theorem hrep_pd (R : HRep CT CH en H s S) (h1 : 1 ≤ n) (h2 : n ≤ s.many) : S (H.a (.pd n)) = some (.dct ((s.parts n).map fun kv => ((kv.1, vD H kv.2) : Key × D))) := R.at_ (hC_pd h1 h2)
theorem hC_live {l : HL} (hl : l ≠ .row) (hm : s.many ≤ s'.many) (h : hC CT CH en H s l ≠ none) : hC CT CH en H' s' l ≠ none := by
  cases l with
  | hall => exact nofun
  | th => exact nofun
  | lf => exact nofun
  | row => exact absurd rfl hl
  | t n =>
    have h' : (if 1 ≤ n ∧ n ≤ s.many then some (thingO CT H s n) else none) ≠ none := h
    show (if 1 ≤ n ∧ n ≤ s'.many then some (thingO CT H' s' n) else none) ≠ none
    split at h'
    · rename_i hn; rw [if_pos ⟨hn.1, Nat.le_trans hn.2 hm⟩]; exact nofun
    · exact absurd rfl h'
  | pd n =>
    have h' : (if 1 ≤ n ∧ n ≤ s.many then some (partsO H (s.parts n)) else none) ≠ none := h
    show (if 1 ≤ n ∧ n ≤ s'.many then some (partsO H' (s'.parts n)) else none) ≠ none
    split at h'
    · rename_i hn; rw [if_pos ⟨hn.1, Nat.le_trans hn.2 hm⟩]; exact nofun
    · exact absurd rfl h'
theorem HTr.rep (T : HTr CT CH en H s S H' s' S') : HRep CT CH en H' s' S' := T.tr.rep
theorem HTr.refl (R : HRep CT CH en H s S) : HTr CT CH en H s S H s S := ⟨R.refl, Nat.le_refl _⟩
theorem HTr.trans (T : HTr CT CH en H s S H' s' S') (U : HTr CT CH en H' s' S' H2 s2 S2) : HTr CT CH en H s S H2 s2 S2 := ⟨T.tr.trans U.tr fun l hl h => hC_live hl T.many h, Nat.le_trans T.many U.many⟩
theorem HTr.t (T : HTr CT CH en H s S H' s' S') (h1 : 1 ≤ n) (h2 : n ≤ s.many) : H'.a (.t n) = H.a (.t n) := T.tr.keep (.t n) (nofun) (by rw [hC_t h1 h2]; exact nofun)
theorem HTr.hall (T : HTr CT CH en H s S H' s' S') : H'.a .hall = H.a .hall := T.tr.keep .hall (nofun) (nofun)
theorem HTr.pd (T : HTr CT CH en H s S H' s' S') (h1 : 1 ≤ n) (h2 : n ≤ s.many) : H'.a (.pd n) = H.a (.pd n) := T.tr.keep (.pd n) (nofun) (by rw [hC_pd h1 h2]; exact nofun)
/-- what the store does not show -/
theorem HTr.ghost (R : HRep CT CH en H s S) (h : hC CT CH en H s' = hC CT CH en H s) (hm : s'.many = s.many) : HTr CT CH en H s S H s' S := ⟨by rw [h]; exact R.refl, by rw [hm]; exact Nat.le_refl _⟩
theorem HTr.setAt (R : HRep CT CH en H s S) {l : HL} {o o' : O} (h : hC CT CH en H s l = some o) (h' : hC CT CH en H s' l = some o') (hne : ∀ l', l' ≠ l → hC CT CH en H s' l' = hC CT CH en H s l') (hm : s'.many = s.many) : HTr CT CH en H s S H s' (put S (H.a l) o') := ⟨R.set h h' hne, by rw [hm]; exact Nat.le_refl _⟩
/-- a thing's count, waiting, asked -/
theorem HTr.thing (R : HRep CT CH en H s S) (h1 : 1 ≤ n) (h2 : n ≤ s.many) (c : Int) (w a : List Nat) (hw : ∀ i, i ≠ n → (i ∈ w ↔ i ∈ s.waits)) (ha : ∀ i, i ≠ n → (i ∈ a ↔ i ∈ s.asked)) :
    HTr CT CH en H s S H { s with cnt := fset s.cnt n c, waits := w, asked := a } (put S (H.a (.t n)) (.ins CT (H.dt n) (thFs (s.form n) (.int (n : Int)) (.int c) (.ref (H.a (.pd n))) (s.own n) (.bl (decide (n ∈ a))) (.bl (decide (n ∈ w)))))) := by
  refine HTr.setAt R (l := .t n) (hC_t h1 h2) ?_ (fun l' hl => ?_) rfl
  · show (if 1 ≤ n ∧ n ≤ s.many then some (thingO CT H _ n) else none) = _
    rw [if_pos ⟨h1, h2⟩]
    unfold thingO
    simp only [fset_same]
  · cases l' with
    | t i =>
      have z : i ≠ n := fun e => hl (by rw [e])
      show (if 1 ≤ i ∧ i ≤ s.many then some (thingO CT H _ i) else none) = if 1 ≤ i ∧ i ≤ s.many then some (thingO CT H s i) else none
      have : thingO CT H { s with cnt := fset s.cnt n c, waits := w, asked := a } i = thingO CT H s i := by
        unfold thingO
        simp only [fset_ne z]
        rw [decide_eq_decide.mpr (hw i z), decide_eq_decide.mpr (ha i z)]
      rw [this]
    | _ => rfl
theorem HTr.cnt (R : HRep CT CH en H s S) (h1 : 1 ≤ n) (h2 : n ≤ s.many) (c : Int) :
    HTr CT CH en H s S H { s with cnt := fset s.cnt n c } (put S (H.a (.t n)) (.ins CT (H.dt n) (thFs (s.form n) (.int (n : Int)) (.int c) (.ref (H.a (.pd n))) (s.own n) (.bl (decide (n ∈ s.asked))) (.bl (decide (n ∈ s.waits)))))) :=
  HTr.thing R h1 h2 c s.waits s.asked (fun _ _ => Iff.rfl) fun _ _ => Iff.rfl
theorem HTr.wait (R : HRep CT CH en H s S) (h1 : 1 ≤ n) (h2 : n ≤ s.many) (w : List Nat) (hw : ∀ i, i ≠ n → (i ∈ w ↔ i ∈ s.waits)) :
    HTr CT CH en H s S H { s with waits := w } (put S (H.a (.t n)) (.ins CT (H.dt n) (thFs (s.form n) (.int (n : Int)) (.int (s.cnt n)) (.ref (H.a (.pd n))) (s.own n) (.bl (decide (n ∈ s.asked))) (.bl (decide (n ∈ w)))))) := by
  have := HTr.thing R h1 h2 (s.cnt n) w s.asked hw fun _ _ => Iff.rfl
  rw [fset_id] at this
  exact this
theorem HTr.there (R : HRep CT CH en H s S) (l : List Nat) : HTr CT CH en H s S H { s with there := l } (put S (H.a .th) (.dct (l.map fun n : Nat => ((.inl (n : Int), .ref (H.a (.t n))) : Key × D)))) := by
  refine HTr.setAt R (l := .th) rfl rfl (fun l' hl => ?_) rfl
  cases l' with
  | th => exact absurd rfl hl
  | _ => rfl
theorem HTr.left (R : HRep CT CH en H s S) (l : List Nat) : HTr CT CH en H s S H { s with left := l } (put S (H.a .lf) (.lst (l.map fun n : Nat => .int (n : Int)))) := by
  refine HTr.setAt R (l := .lf) rfl rfl (fun l' hl => ?_) rfl
  cases l' with
  | lf => exact absurd rfl hl
  | _ => rfl
theorem HTr.setRow (R : HRep CT CH en H s S) {l0 : List Nat} (h : s.row = some l0) (l : List Nat) : HTr CT CH en H s S H { s with row := some l } (put S (H.a .row) (.lst (l.map fun n => .ref (H.a (.t n))))) := by
  refine HTr.setAt R (l := .row) (o := rowO H l0) (by show s.row.map (rowO H) = _; rw [h]; rfl) rfl (fun l' hl => ?_) rfl
  cases l' with
  | row => exact absurd rfl hl
  | hall => show some (hallO CH en H _) = some (hallO CH en H s); unfold hallO; dsimp only; rw [h]; rfl
  | _ => rfl
theorem HTr.parts (R : HRep CT CH en H s S) (h1 : 1 ≤ n) (h2 : n ≤ s.many) (l : List (Key × Vl)) : HTr CT CH en H s S H { s with parts := fset s.parts n l } (put S (H.a (.pd n)) (.dct (l.map fun kv => ((kv.1, vD H kv.2) : Key × D)))) := by
  refine HTr.setAt R (l := .pd n) (hC_pd h1 h2) ?_ (fun l' hl => ?_) rfl
  · show (if 1 ≤ n ∧ n ≤ s.many then some (partsO H (fset s.parts n l n)) else none) = _
    rw [if_pos ⟨h1, h2⟩, fset_same]
    rfl
  · cases l' with
    | pd i =>
      have z : i ≠ n := fun e => hl (by rw [e])
      show (if 1 ≤ i ∧ i ≤ s.many then some (partsO H (fset s.parts n l i)) else none) = if 1 ≤ i ∧ i ≤ s.many then some (partsO H (s.parts i)) else none
      rw [fset_ne z]
    | _ => rfl
/-- the row is worked off -/
theorem HTr.noRow (R : HRep CT CH en H s S) : HTr CT CH en H s S H { s with row := none } (put S (H.a .hall) (.ins CH H.dx (haFs en (.int (s.many : Int)) (.ref (H.a .th)) (.ref (H.a .lf)) .non (.int (s.lasts : Int))))) := by
  have T1 : Tr (fun l => l ≠ HL.row) H.a (hC CT CH en H s) S H.a (fun l => if l = .row then none else hC CT CH en H s l) S := R.sub fun l o h => by
    by_cases z : l = .row
    · rw [if_pos z] at h; cases h
    · rw [if_neg z] at h; exact h
  refine ⟨T1.trans (T1.rep.set (l := .hall) (o := hallO CH en H s) (by rw [if_neg (by exact nofun)]; rfl) rfl fun l' hl => ?_) (fun l hl h => by rw [if_neg hl]; exact h), Nat.le_refl _⟩
  cases l' with
  | hall => exact absurd rfl hl
  | row => rfl
  | _ => rw [if_neg (by exact nofun)]; rfl
/-- a row is begun -/
theorem HTr.begun (R : HRep CT CH en H s S) (h0 : s.row = none) {p : Addr} (hp : S p = none) (l : List Nat) :
    HTr CT CH en H s S { H with a := fun x => if x = .row then p else H.a x } { s with row := some l } (put (put S p (.lst (l.map fun n => .ref (H.a (.t n))))) (H.a .hall) (.ins CH H.dx (haFs en (.int (s.many : Int)) (.ref (H.a .th)) (.ref (H.a .lf)) (.ref p) (.int (s.lasts : Int))))) := by
  have T1 : Tr (fun l => l ≠ HL.row) H.a (hC CT CH en H s) S (fun x => if x = .row then p else H.a x) (fun x => if x = .row then some (rowO H l) else hC CT CH en H s x) (put S p (rowO H l)) := by
    refine R.new (l := .row) hp (by show s.row.map (rowO H) = none; rw [h0]; rfl) (if_pos rfl) (fun l' h => ?_) (if_pos rfl) fun l' h => if_neg h
    rw [if_neg]
    intro z
    subst z
    exact h (by show s.row.map (rowO H) = none; rw [h0]; rfl)
  have e1 : (if HL.hall = HL.row then p else H.a .hall) = H.a .hall := rfl
  have T2 := T1.rep.set (pin := fun l => l ≠ HL.row) (l := .hall) (o := hallO CH en H s) (C' := hC CT CH en { H with a := fun x => if x = .row then p else H.a x } { s with row := some l }) (o' := .ins CH H.dx (haFs en (.int (s.many : Int)) (.ref (H.a .th)) (.ref (H.a .lf)) (.ref p) (.int (s.lasts : Int)))) rfl rfl fun l' hl => by
    cases l' with
    | hall => exact absurd rfl hl
    | _ => rfl
  exact ⟨T1.trans T2 fun l hl h => by rw [if_neg hl]; exact h, Nat.le_refl _⟩
/-- a thing more -/
theorem HTr.make (R : HRep CT CH en H s S) (w : Wf s) {t pd dt : Addr} {form own : D} (h0 : s.parts (s.many + 1) = []) (hw : s.many + 1 ∉ s.waits) (ha : s.many + 1 ∉ s.asked) (n1 : S t = none) (n2 : S pd = none) (ne : t ≠ pd)
    (e1 : S' t = some (.ins CT dt (thFs form (.int ((s.many : Int) + 1)) (.int 0) (.ref pd) own (.bl false) (.bl false)))) (e2 : S' pd = some (.dct [])) (e3 : S' (H.a .hall) = some (.ins CH H.dx (haFs en (.int ((s.many : Int) + 1)) (.ref (H.a .th)) (.ref (H.a .lf)) (rowD H s.row) (.int (s.lasts : Int)))))
    (e4 : S' (H.a .th) = some (.dct (s.there.map (fun n : Nat => ((.inl (n : Int), .ref (H.a (.t n))) : Key × D)) ++ [((.inl ((s.many : Int) + 1) : Key), .ref t)]))) (fr : ∀ b, b ≠ t → b ≠ pd → b ≠ H.a .hall → b ≠ H.a .th → S' b = S b) :
    HTr CT CH en H s S { H with a := fun x => if x = .t (s.many + 1) then t else if x = .pd (s.many + 1) then pd else H.a x, dt := fset H.dt (s.many + 1) dt }
      { s with many := s.many + 1, cnt := fset s.cnt (s.many + 1) 0, form := fset s.form (s.many + 1) form, own := fset s.own (s.many + 1) own, there := s.there ++ [s.many + 1] } S' := by
  have ec : ((s.many + 1 : Nat) : Int) = (s.many : Int) + 1 := by omega
  have ha' : ∀ l, l ≠ .t (s.many + 1) → l ≠ .pd (s.many + 1) → (if l = HL.t (s.many + 1) then t else if l = .pd (s.many + 1) then pd else H.a l) = H.a l := fun l h1 h2 => by rw [if_neg h1, if_neg h2]
  have hat : ∀ i, i ≤ s.many → (if HL.t i = HL.t (s.many + 1) then t else if HL.t i = .pd (s.many + 1) then pd else H.a (.t i)) = H.a (.t i) := fun i hi => ha' _ (fun z => by cases z; omega) nofun
  have hap : ∀ i, i ≤ s.many → (if HL.pd i = HL.t (s.many + 1) then t else if HL.pd i = .pd (s.many + 1) then pd else H.a (.pd i)) = H.a (.pd i) := fun i hi => ha' _ nofun (fun z => by cases z; omega)
  have hvd : ∀ i, ((s.parts i).map fun kv => ((kv.1, vD { H with a := fun x => if x = .t (s.many + 1) then t else if x = .pd (s.many + 1) then pd else H.a x, dt := fset H.dt (s.many + 1) dt } kv.2) : Key × D)) = (s.parts i).map fun kv => (kv.1, vD H kv.2) := fun i => List.map_congr_left fun kv hkv => by
    have := w.pv i kv hkv
    cases e : kv.2 with
    | no d => rfl
    | th j =>
      rw [e] at this
      show (kv.1, D.ref (if HL.t j = HL.t (s.many + 1) then t else if HL.t j = .pd (s.many + 1) then pd else H.a (.t j))) = (kv.1, D.ref (H.a (.t j)))
      rw [hat j this.2]
  have live0 : ∀ l o, hC CT CH en H s l = some o → l ≠ .t (s.many + 1) ∧ l ≠ .pd (s.many + 1) := fun l o h => by
    constructor
    · rintro rfl
      have : hC CT CH en H s (.t (s.many + 1)) = none := if_neg (by omega)
      rw [this] at h; cases h
    · rintro rfl
      have : hC CT CH en H s (.pd (s.many + 1)) = none := if_neg (by omega)
      rw [this] at h; cases h
  have keepS : ∀ l o, hC CT CH en H s l = some o → l ≠ .hall → l ≠ .th → S' (H.a l) = some o := fun l o h g1 g2 => by
    have hS := R.at_ h
    rw [fr _ (sto_ne hS n1) (sto_ne hS n2) (R.ne (nn h) (by exact nofun) g1) (R.ne (nn h) (by exact nofun) g2)]
    exact hS
  refine ⟨⟨⟨fun {l o} h => ?_, fun {l l'} h h' e => ?_⟩, fun b hb hl => ?_, fun b hb => ?_, fun l h => ?_, fun l _ h => ?_⟩, by show s.many ≤ s.many + 1; omega⟩
  · cases l with
    | hall =>
      cases h
      show S' (H.a .hall) = _
      rw [e3]
      unfold hallO
      dsimp only
      rw [ec]
      cases s.row <;> rfl
    | th =>
      cases h
      show S' (H.a .th) = _
      rw [e4]
      unfold thereO
      rw [List.map_append, List.map_singleton, ec]
      congr 2
      congr 1
      · exact List.map_congr_left fun n hn => by
          have := w.tin n hn
          show _ = ((Sum.inl (n : Int), D.ref (if HL.t n = HL.t (s.many + 1) then t else if HL.t n = .pd (s.many + 1) then pd else H.a (.t n))) : Key × D)
          rw [hat n this.2]
      · show _ = [((Sum.inl ((s.many : Int) + 1), D.ref (if HL.t (s.many + 1) = HL.t (s.many + 1) then t else _)) : Key × D)]
        rw [if_pos rfl]
    | lf => cases h; exact keepS .lf _ rfl nofun nofun
    | row =>
      have hr : s.row.map (rowO _) = some o := h
      obtain ⟨r, h1, rfl⟩ := Option.map_eq_some_iff.mp hr
      have k := keepS .row (rowO H r) (by show s.row.map (rowO H) = _; rw [h1]; rfl) nofun nofun
      show S' (H.a .row) = _
      rw [k]
      unfold rowO
      congr 2
      refine List.map_congr_left fun n hn => ?_
      have := w.win n ((w.rnd r h1).2 n hn)
      show _ = D.ref (if HL.t n = HL.t (s.many + 1) then t else if HL.t n = .pd (s.many + 1) then pd else H.a (.t n))
      rw [hat n this.2]
    | t i =>
      have hr : (if 1 ≤ i ∧ i ≤ s.many + 1 then some (thingO CT _ _ i) else none) = some o := h
      split at hr
      · rename_i hi
        cases hr
        show S' (if HL.t i = HL.t (s.many + 1) then t else if HL.t i = .pd (s.many + 1) then pd else H.a (.t i)) = some (.ins CT (fset H.dt (s.many + 1) dt i) (thFs (fset s.form (s.many + 1) form i) (.int (i : Int)) (.int (fset s.cnt (s.many + 1) 0 i)) (.ref (if HL.pd i = HL.t (s.many + 1) then t else if HL.pd i = .pd (s.many + 1) then pd else H.a (.pd i))) (fset s.own (s.many + 1) own i) (.bl (decide (i ∈ s.asked))) (.bl (decide (i ∈ s.waits)))))
        by_cases z : i = s.many + 1
        · subst z
          rw [if_pos rfl, if_neg (by exact nofun), if_pos rfl, fset_same, fset_same, fset_same, fset_same, e1, ec, decide_eq_false hw, decide_eq_false ha]
        · rw [hat i (by omega), hap i (by omega), fset_ne z, fset_ne z, fset_ne z, fset_ne z]
          exact keepS (.t i) _ (hC_t hi.1 (by omega)) nofun nofun
      · cases hr
    | pd i =>
      have hr : (if 1 ≤ i ∧ i ≤ s.many + 1 then some (partsO _ (s.parts i)) else none) = some o := h
      split at hr
      · rename_i hi
        cases hr
        show S' (if HL.pd i = HL.t (s.many + 1) then t else if HL.pd i = .pd (s.many + 1) then pd else H.a (.pd i)) = some (.dct _)
        rw [hvd i]
        by_cases z : i = s.many + 1
        · subst z
          rw [if_neg (by exact nofun), if_pos rfl, e2, h0]
          rfl
        · rw [hap i (by omega)]
          exact keepS (.pd i) _ (hC_pd hi.1 (by omega)) nofun nofun
      · cases hr
  · have back : ∀ l, hC CT CH en { H with a := fun x => if x = .t (s.many + 1) then t else if x = .pd (s.many + 1) then pd else H.a x, dt := fset H.dt (s.many + 1) dt } { s with many := s.many + 1, cnt := fset s.cnt (s.many + 1) 0, form := fset s.form (s.many + 1) form, own := fset s.own (s.many + 1) own, there := s.there ++ [s.many + 1] } l ≠ none → l = .t (s.many + 1) ∨ l = .pd (s.many + 1) ∨ (hC CT CH en H s l ≠ none ∧ l ≠ .t (s.many + 1) ∧ l ≠ .pd (s.many + 1)) := fun l h => by
      by_cases z1 : l = .t (s.many + 1)
      · exact .inl z1
      · by_cases z2 : l = .pd (s.many + 1)
        · exact .inr (.inl z2)
        · refine .inr (.inr ⟨?_, z1, z2⟩)
          cases l with
          | hall => exact nofun
          | th => exact nofun
          | lf => exact nofun
          | row =>
            have hr : s.row.map (rowO _) ≠ none := h
            show s.row.map (rowO H) ≠ none
            cases e : s.row with
            | none => rw [e] at hr; exact absurd rfl hr
            | some r => exact nofun
          | t i =>
            have hr : (if 1 ≤ i ∧ i ≤ s.many + 1 then some (thingO CT _ _ i) else none) ≠ none := h
            split at hr
            · rename_i hi
              rw [hC_t hi.1 (by have : i ≠ s.many + 1 := fun e => z1 (by rw [e]); omega)]
              exact nofun
            · exact absurd rfl hr
          | pd i =>
            have hr : (if 1 ≤ i ∧ i ≤ s.many + 1 then some (partsO _ (s.parts i)) else none) ≠ none := h
            split at hr
            · rename_i hi
              rw [hC_pd hi.1 (by have : i ≠ s.many + 1 := fun e => z2 (by rw [e]); omega)]
              exact nofun
            · exact absurd rfl hr
    have e' : (if l = HL.t (s.many + 1) then t else if l = .pd (s.many + 1) then pd else H.a l) = (if l' = HL.t (s.many + 1) then t else if l' = .pd (s.many + 1) then pd else H.a l') := e
    rcases back l h with rfl | rfl | ⟨g, g1, g2⟩ <;> rcases back l' h' with rfl | rfl | ⟨k, k1, k2⟩
    · rfl
    · rw [if_pos rfl, if_neg (by exact nofun), if_pos rfl] at e'; exact absurd e' ne
    · rw [if_pos rfl, if_neg k1, if_neg k2] at e'; exact absurd n1 (by rw [e']; exact R.live k)
    · rw [if_pos rfl, if_neg (by exact nofun), if_pos rfl] at e'; exact absurd e'.symm ne
    · rfl
    · rw [if_neg (by exact nofun), if_pos rfl, if_neg k1, if_neg k2] at e'; exact absurd n2 (by rw [e']; exact R.live k)
    · rw [if_pos rfl, if_neg g1, if_neg g2] at e'; exact absurd n1 (by rw [← e']; exact R.live g)
    · rw [if_neg g1, if_neg g2, if_neg (by exact nofun), if_pos rfl] at e'; exact absurd n2 (by rw [← e']; exact R.live g)
    · rw [if_neg g1, if_neg g2, if_neg k1, if_neg k2] at e'; exact R.inj g k e'
  · exact fr b (fun z => hb (by rw [z]; exact n1)) (fun z => hb (by rw [z]; exact n2)) (hl .hall nofun) (hl .th nofun)
  · by_cases z1 : b = H.a .hall
    · rw [z1, e3]; exact nofun
    · by_cases z2 : b = H.a .th
      · rw [z2, e4]; exact nofun
      · rw [fr b (fun z => hb (by rw [z]; exact n1)) (fun z => hb (by rw [z]; exact n2)) z1 z2]; exact hb
  · by_cases z1 : l = .t (s.many + 1)
    · refine .inr ?_
      show S (if l = HL.t (s.many + 1) then t else _) = none
      rw [if_pos z1]; exact n1
    · by_cases z2 : l = .pd (s.many + 1)
      · refine .inr ?_
        show S (if l = HL.t (s.many + 1) then t else if l = .pd (s.many + 1) then pd else H.a l) = none
        rw [if_neg z1, if_pos z2]; exact n2
      · refine .inl ⟨?_, ha' l z1 z2⟩
        cases l with
        | hall => exact nofun
        | th => exact nofun
        | lf => exact nofun
        | row =>
          have hr : s.row.map (rowO _) ≠ none := h
          show s.row.map (rowO H) ≠ none
          cases e : s.row with
          | none => rw [e] at hr; exact absurd rfl hr
          | some r => exact nofun
        | t i =>
          have hr : (if 1 ≤ i ∧ i ≤ s.many + 1 then some (thingO CT _ _ i) else none) ≠ none := h
          split at hr
          · rename_i hi
            rw [hC_t hi.1 (by have : i ≠ s.many + 1 := fun e => z1 (by rw [e]); omega)]
            exact nofun
          · exact absurd rfl hr
        | pd i =>
          have hr : (if 1 ≤ i ∧ i ≤ s.many + 1 then some (partsO _ (s.parts i)) else none) ≠ none := h
          split at hr
          · rename_i hi
            rw [hC_pd hi.1 (by have : i ≠ s.many + 1 := fun e => z2 (by rw [e]); omega)]
            exact nofun
          · exact absurd rfl hr
  · cases e : hC CT CH en H s l with
    | none => exact absurd e h
    | some o => exact ha' l (live0 l o e).1 (live0 l o e).2
end
end HM

set_option Elab.async false
set_option linter.all false
set_option maxRecDepth 100000
namespace K
open PySem L2 Evl EX DL
def top (i : Nat) : Stmt := PySem.Challenge.pw_snakehall_k28_reached.main.body.getD i (.Pass ⟨0, 0, 0, 0⟩)
abbrev s__law_mixed : Stmt := top 9
abbrev N__law_mixed : List Str := ["_law_number", "_law_k", "_law_once", "_law_twice"]
theorem sc__law_mixed : FnScope N__law_mixed ["_law_number", "_law_k"] (defScope s__law_mixed) := ⟨rfl, rfl, rfl, by decide +kernel, rfl, by decide +kernel, by decide +kernel⟩
abbrev s__law_well : Stmt := top 10
abbrev N__law_well : List Str := ["_law_script", "_law_first", "_law_cells"]
theorem sc__law_well : FnScope N__law_well ["_law_script", "_law_first"] (defScope s__law_well) := ⟨rfl, rfl, rfl, by decide +kernel, rfl, by decide +kernel, by decide +kernel⟩
abbrev s__law_dig : Stmt := top 11
abbrev N__law_dig : List Str := ["_law_well_here", "_law_most", "_law_number"]
theorem sc__law_dig : FnScope N__law_dig ["_law_well_here", "_law_most"] (defScope s__law_dig) := ⟨rfl, rfl, rfl, by decide +kernel, rfl, by decide +kernel, by decide +kernel⟩
structure TxtW (mg : Str → Option Value) : Prop where
  len : mg "len" = none
  abs : mg "abs" = none
section
variable {P : Program} {w : World} {K : PySem.W.Frag} {mg : Str → Option Value} {base : Heap}
local macro_rules | `(tactic| walk_at "dl") => `(tactic| try simp only [↓x_forS, ↓x_diSL, ↓x_diKeys, ↓x_lock, ↓x_dictP, ↓x_fld, ↓x_fldS, ↓x_fldA, ↓x_meth, ↓x_make, ↓x_dget, ↓x_din, ↓x_dget1, ↓x_dget2, ↓x_dpop, ↓x_dput, ↓x_listD, ↓x_sortDI, ↓x_lenD, ↓x_isiC, x_icS, x_icI, x_icB, x_icN, x_ioS, x_ioI, x_ioB, x_ioN, ↓x_gSub, ↓x_sortDL, ↓x_eqO, ↓x_ninA, x_catN, x_isBB, x_isBN, x_isBI, x_isBS, x_isBR, ↓x_seq, ↓x_nx, ↓x_pass, ↓x_brk, ↓x_cnt, ↓x_drop, ↓x_ret, ↓x_retN, ↓x_ifS, ↓x_set, ↓x_asg, ↓x_gN, ↓x_gT, ↓x_gsC, ↓x_gsN, ↓x_var, x_rdv, ↓x_c, ↓x_op, ↓x_test, x_tst, ↓x_and, ↓x_or, ↓x_not, ↓x_andV, ↓x_orV, ↓x_notV, x_tstV, ↓x_ifE, x_true, x_false, ↓x_nil, ↓x_cons, ↓x_tup, ↓x_lst, ↓x_new, ↓x_newD, ↓x_call, ↓x_cb, x_oI, x_oIc, x_oS, x_addS, x_isN, x_notN, x_eqI, x_eqS, x_eqIS, x_eqSI, x_eqNS, x_neI, x_neS, x_neB, x_eqB, x_few, x_need, ↓x_ix, x_lenS, x_ixL0, x_ixT0, x_ixT1, x_ixT2, x_ixT3, x_ixT4, x_lenL, x_lenT, x_lenC, x_listL, x_listT, x_tupL, x_tupT, x_strI, x_strS, x_int1, x_intB, x_I1, x_I2, x_cat, x_catT, ↓x_split, ↓x_for, ↓x_cut, ↓x_lc, ↓x_whl, ↓x_diL, ↓x_diT, ↓x_diS, x_itL, x_itC, x_itT, x_itS, ↓x_diR1, ↓x_diR2, ↓x_diE, x_enmL, x_enmC, ↓x_gcN, ↓x_gcT, ↓x_yes, ↓x_ml, ↓x_ms, x_strq, x_ss, x_ssc, x_ssi, ↓x_join, ↓x_aug, x_st2I, ↓x_sl, ↓x_noP, ↓x_part, x_intq, x_slL, x_slC, x_slS, ↓x_in, x_inT, x_inL, x_ninT, x_ninL, x_inN, x_inSS, x_inSI, x_inIS, x_inII, ↓x_sg, x_sgS, x_nsgS, ↓x_eqD, ↓x_inDD, x_mulS, ↓x_isi, x_isiS, x_isiI, x_isiB, x_isiN, x_isiL, x_isiT, ↓x_isTT, x_itI, x_itStr, x_itN, x_itB, x_itLst, x_itTup, ↓x_any, ↓x_all, ↓x_sum, ↓x_srtI, ↓x_srtS, ↓x_intS, ↓x_lenRf, ↓x_tupRf, ↓x_frz', x_flS, x_flI, x_flN, x_flB, x_cs_bool, x_isB_NoneType_bool, x_isB_bool_bool, x_isB_int_bool, x_isB_str_bool, x_isB_list_bool, x_isB_tuple_bool, x_isB_dict_bool, x_cs_int, x_isB_NoneType_int, x_isB_bool_int, x_isB_int_int, x_isB_str_int, x_isB_list_int, x_isB_tuple_int, x_isB_dict_int, x_cs_str, x_isB_NoneType_str, x_isB_bool_str, x_isB_int_str, x_isB_str_str, x_isB_list_str, x_isB_tuple_str, x_isB_dict_str, x_cs_list, x_isB_NoneType_list, x_isB_bool_list, x_isB_int_list, x_isB_str_list, x_isB_list_list, x_isB_tuple_list, x_isB_dict_list, x_cs_tuple, x_isB_NoneType_tuple, x_isB_bool_tuple, x_isB_int_tuple, x_isB_str_tuple, x_isB_list_tuple, x_isB_tuple_tuple, x_isB_dict_tuple, x_cs_dict, x_isB_NoneType_dict, x_isB_bool_dict, x_isB_int_dict, x_isB_str_dict, x_isB_list_dict, x_isB_tuple_dict, x_isB_dict_dict, List.all_cons, List.all_nil, Bool.and_self, Bool.or_false, Bool.or_true, Bool.false_or, Bool.true_or, wipeD, setD, DL.isNon, List.set_cons_zero, List.set_cons_succ, List.getElem?_cons_zero, List.getElem?_cons_succ, List.length_cons, List.length_nil, Nat.zero_add, List.cons_append, List.nil_append, decide_true, decide_false, Bool.not_true, Bool.not_false, true_and, and_true, startD, List.map_cons, List.map_nil, Nat.reduceSub, Nat.reduceLeDiff, Nat.zero_le, Int.reduceLT, Int.reduceLE, and_self, Nat.reduceAdd, List.replicate])
def dMixed : SpD := fun ds S k _ => ∃ n i : Int, ds = [.int n, .int i] ∧ ∀ r : Int, 0 ≤ r → r < 2147483629 → k (.int r) S
theorem ok_mixed {fa : Addr} {fd : FuncData} (F : Fun K "_law_mixed" "_law_mixed" s__law_mixed fa fd) : FnOk P w K mg base CX0 1 fa fd ["_law_number", "_law_k"] (lSp K dMixed) := by
  refine dok F sc__law_mixed (fun ds S q qx ⟨x, b, e, _⟩ => by rw [e]; rfl) ⟨_, fun cdv A outer s H E hr => dss_cons (ds_set (i := 2) sc__law_mixed.nd rfl (Or.inl rfl) (de_op op_mod si_mod (de_op op_mul si_mul (de_op op_add si_add (de_op op_add si_add (de_op op_mod si_mod (de_var 0) (de_int)) (de_op op_mul si_mul (de_int) (de_var 1))) (de_int)) (de_int)) (de_int)))
      (dss_cons (ds_set (i := 3) sc__law_mixed.nd rfl (Or.inl rfl) (de_op op_mod si_mod (de_op op_mul si_mul (de_var 2) (de_op op_add si_add (de_op op_add si_add (de_op op_mod si_mod (de_var 2) (de_int)) (de_var 1)) (de_int))) (de_int)))
      (dss_one (ds_ret (de_op op_mod si_mod (de_op op_add si_add (de_op op_mul si_mul (de_var 3) (de_int)) (de_var 2)) (de_int))))), fun ds S q qx ⟨n, i, hd, hq⟩ => ?_⟩
  subst hd
  walk_at "dl"
  refine needOf (.inl (by decide)) ?_
  walk_at "dl"
  refine needOf (.inr (by decide)) ?_
  walk_at "dl"
  generalize ho : ((n % 1000000007 + 7 * i + 1) * 48271) % 2147483647 = once
  have h0 : 0 ≤ once := by rw [← ho]; exact Int.emod_nonneg _ (by decide)
  have h1 : once < 2147483647 := by rw [← ho]; exact Int.emod_lt_of_pos _ (by decide)
  refine needOf (.inl ⟨by omega, by omega⟩) ?_
  walk_at "dl"
  refine needOf (.inr (by decide)) ?_
  walk_at "dl"
  exact hq _ (Int.emod_nonneg _ (by decide)) (Int.emod_lt_of_pos _ (by decide))
/-- a well -/
def Well (S : Sto) (w : Addr) : Prop := ∃ (a : Bool) (b c d : Int) (cs : List Int), S w = some (.lst [.bl a, .int b, .int c, .int d, .list (cs.map D.int)]) ∧ 0 < cs.length ∧ cs.length ≤ 100 ∧ 0 ≤ b ∧ 0 ≤ c ∧ 0 ≤ d
def dWell : SpD := fun ds S k _ => ∃ (ns : List Int) (i : Int), ds = [.scr (ns.map D.int), .int i] ∧ ns.length ≤ 63 ∧ ∀ p S', S p = none → Well S' p → (∀ x, x ≠ p → S' x = S x) → k (.ref p) S'
theorem ok_well {fa : Addr} {fd : FuncData} (F : Fun K "_law_well" "_law_well" s__law_well fa fd) (T : TxtW mg) : FnOk P w K mg base CX0 1 fa fd ["_law_script", "_law_first"] (lSp K dWell) := by
  refine dok F sc__law_well (fun ds S q qx ⟨x, b, e, _⟩ => by rw [e]; rfl) ⟨_, fun cdv A outer s H E hr => dss_cons (ds_set (i := 2) sc__law_well.nd rfl (Or.inl rfl) (de_op op_cat si_cat (de_slice (slL (K := K)) si_slL (de_var 0) (do_some (de_var 1)) do_none) (de_lst (da_cons (de_int) da_nil))))
      (dss_one (ds_ret (de_new (da_cons (de_cmp op_lt si_lt (de_callB call_abs si_abs (by rfl) T.abs (by decide +kernel) (da_cons (de_ix ix_seq (si_ix rfl) (de_var 2) (de_int) (fun _ _ => rfl)) da_nil)) (de_op op_pow si_pow (de_int) (de_int)) (nomark _)) (da_cons (de_int) (da_cons (de_callB call_abs si_abs (by rfl) T.abs (by decide +kernel) (da_cons (de_ix ix_seq (si_ix rfl) (de_var 2) (de_int) (fun _ _ => rfl)) da_nil)) (da_cons (de_int) (da_cons (de_var 2) da_nil)))))))), fun ds S q qx ⟨ns, i, hd, hl, hq⟩ => ?_⟩
  subst hd
  walk_at "dl"
  have hlen : (cutD (ns.map D.int) (some i) none).length ≤ 63 := by
    unfold cutD
    rw [List.length_take, List.length_drop, List.length_map]
    omega
  refine fewOf (by omega) ?_
  obtain ⟨cs, hcs⟩ : ∃ cs : List Int, cutD (ns.map D.int) (some i) none ++ [D.int 0] = cs.map D.int := ⟨((ns.drop (HT.sIx ns.length 0 (some i))).take (HT.sIx ns.length ns.length none - HT.sIx ns.length 0 (some i))) ++ [0], by
    unfold cutD
    rw [List.length_map, List.map_append, List.map_take, List.map_drop]
    rfl⟩
  have hcl : cs.length = (cutD (ns.map D.int) (some i) none).length + 1 := by
    have := congrArg List.length hcs
    rw [List.length_append, List.length_map] at this
    exact this.symm
  rw [hcs]
  obtain ⟨c, cs', rfl⟩ : ∃ c cs', cs = c :: cs' := by
    cases cs with
    | nil => simp at hcl
    | cons c cs' => exact ⟨c, cs', rfl⟩
  walk_at "dl"
  refine needOf ⟨by decide, by decide, by decide⟩ ?_
  walk_at "dl"
  refine freshOf fun p hp => ?_
  refine hq p _ hp ⟨_, _, _, _, c :: cs', put_same, by simp, by rw [hcl]; omega, by decide, ?_, by decide⟩ fun x hx => put_ne hx
  split <;> omega
def dDig : SpD := fun ds S k _ => ∃ (w : Addr) (n : Int), ds = [.ref w, .int n] ∧ Well S w ∧ 0 < n ∧ n < 1073741824 ∧ ∀ (r : Nat) S', (r : Int) < n → Well S' w → (∀ x, x ≠ w → S' x = S x) → k (.int (r : Int)) S'
theorem ok_dig {fa : Addr} {fd : FuncData} (F : Fun K "_law_dig" "_law_dig" s__law_dig fa fd) (T : TxtW mg) (G__law_mixed : DefD P w K mg base 1 "_law_mixed" ["_law_number", "_law_k"] dMixed) : FnOk P w K mg base CX0 2 fa fd ["_law_well_here", "_law_most"] (lSp K dDig) := by
  refine dok F sc__law_dig (fun ds S q qx ⟨x, b, e, _⟩ => by rw [e]; rfl) ⟨_, fun cdv A outer s H E hr => dss_cons (ds_asg (de_op op_add si_add (de_ix ix_seq (si_ix rfl) (de_var 0) (de_int) (fun _ _ => rfl)) (de_int)) (dg_sub (de_var 0) (de_int)))
      (dss_cons (ds_if (dt_val (de_ix ix_seq (si_ix rfl) (de_var 0) (de_int) (fun _ _ => rfl)))
        (dss_one (ds_ret (de_op op_mod si_mod (de_call G__law_mixed (hr.mono (by decide)) (by rfl) (da_cons (de_ix ix_seq (si_ix rfl) (de_ix ix_seq (si_ix rfl) (de_var 0) (de_int) (fun _ _ => rfl)) (de_op op_mod si_mod (de_ix ix_seq (si_ix rfl) (de_var 0) (de_int) (fun _ _ => rfl)) (de_callB call_len (si_len rfl) (by rfl) T.len (by decide +kernel) (da_cons (de_ix ix_seq (si_ix rfl) (de_var 0) (de_int) (fun _ _ => rfl)) da_nil))) (fun _ _ => rfl)) (da_cons (de_ix ix_seq (si_ix rfl) (de_var 0) (de_int) (fun _ _ => rfl)) da_nil))) (de_var 1))))
        (dss_nil))
      (dss_cons (ds_set (i := 2) sc__law_dig.nd rfl (Or.inl rfl) (de_op op_mod si_mod (de_ix ix_seq (si_ix rfl) (de_var 0) (de_int) (fun _ _ => rfl)) (de_var 1)))
      (dss_cons (ds_asg (de_op op_fdiv si_fdiv (de_ix ix_seq (si_ix rfl) (de_var 0) (de_int) (fun _ _ => rfl)) (de_var 1)) (dg_sub (de_var 0) (de_int)))
      (dss_cons (ds_if (PW.pt (dw_and (dt_cmp op_eq si_eq (de_ix ix_seq (si_ix rfl) (de_var 0) (de_int) (fun _ _ => rfl)) (de_int) (nomark _)) (dw_and1 (dt_cmp op_lt si_lt (de_ix ix_seq (si_ix rfl) (de_var 0) (de_int) (fun _ _ => rfl)) (de_callB call_len (si_len rfl) (by rfl) T.len (by decide +kernel) (da_cons (de_ix ix_seq (si_ix rfl) (de_var 0) (de_int) (fun _ _ => rfl)) da_nil)) (nomark _)))))
        (dss_cons (ds_asg (de_callB call_abs si_abs (by rfl) T.abs (by decide +kernel) (da_cons (de_ix ix_seq (si_ix rfl) (de_ix ix_seq (si_ix rfl) (de_var 0) (de_int) (fun _ _ => rfl)) (de_ix ix_seq (si_ix rfl) (de_var 0) (de_int) (fun _ _ => rfl)) (fun _ _ => rfl)) da_nil)) (dg_sub (de_var 0) (de_int)))
        (dss_one (ds_asg (de_op op_add si_add (de_ix ix_seq (si_ix rfl) (de_var 0) (de_int) (fun _ _ => rfl)) (de_int)) (dg_sub (de_var 0) (de_int)))))
        (dss_nil))
      (dss_one (ds_ret (de_var 2))))))), fun ds S q qx ⟨wl, n, hd, ⟨a, b, c, d, cs, hw, c0, c1, b0, c2, d0⟩, n0, n1, hq⟩ => ?_⟩
  subst hd
  walk_at "dl"
  refine ixSeq (j := 1) hw rfl ?_
  walk_at "dl"
  refine setOf (j := 1) hw rfl ?_
  walk_at "dl"
  have fin : ∀ (S' : Sto) (r : Int) (b c d : Int), 0 ≤ r → r < n → 0 ≤ b → 0 ≤ c → 0 ≤ d → S' wl = some (.lst [.bl a, .int b, .int c, .int d, .list (cs.map D.int)]) → (∀ x, x ≠ wl → S' x = S x) → q (.int r) S' := fun S' r b c d r0 r1 b0 c0' d0 hw' hf => by
    obtain ⟨m, rfl⟩ := Int.eq_ofNat_of_zero_le r0
    exact hq m S' r1 ⟨a, b, c, d, cs, hw', c0, c1, b0, c0', d0⟩ hf
  refine ixSeq (j := 0) put_same rfl ?_
  walk_at "dl"
  cases a with
  | true =>
    walk_at "dl"
    refine ixSeq (j := 4) put_same rfl ?_
    walk_at "dl"
    refine ixSeq (j := 1) put_same rfl ?_
    walk_at "dl"
    refine ixSeq (j := 4) put_same rfl ?_
    walk_at "dl"
    rw [List.length_map]
    refine needOf (by omega) ?_
    walk_at "dl"
    refine ixMem (m := cs.length) (by rw [List.length_map]) (Int.emod_nonneg _ (by omega)) (Int.emod_lt_of_pos _ (by omega)) fun x hx => ?_
    obtain ⟨z, _, rfl⟩ := List.mem_map.mp hx
    refine ixSeq (j := 1) put_same rfl ?_
    walk_at "dl"
    refine ⟨_, _, rfl, fun r r0 r1 => ?_⟩
    walk_at "dl"
    refine needOf n0 ?_
    exact fin _ _ (b + 1) c d (Int.emod_nonneg _ (by omega)) (Int.emod_lt_of_pos _ n0) (by omega) c2 d0 put_same fun x hx => put_ne hx
  | false =>
    walk_at "dl"
    refine ixSeq (j := 2) put_same rfl ?_
    walk_at "dl"
    refine needOf n0 ?_
    walk_at "dl"
    refine ixSeq (j := 2) put_same rfl ?_
    walk_at "dl"
    refine needOf ⟨n0, n1⟩ ?_
    walk_at "dl"
    refine setOf (j := 2) put_same rfl ?_
    walk_at "dl"
    refine ixSeq (j := 2) put_same rfl ?_
    walk_at "dl"
    have q0 : 0 ≤ c % n := Int.emod_nonneg _ (by omega)
    have q1 : c % n < n := Int.emod_lt_of_pos _ n0
    have q2 : 0 ≤ c / n := Int.ediv_nonneg c2 (by omega)
    have fin2 : ∀ (S' : Sto) (b c' d : Int), 0 ≤ b → 0 ≤ c' → 0 ≤ d → S' wl = some (.lst [.bl false, .int b, .int c', .int d, .list (cs.map D.int)]) → (∀ x, x ≠ wl → S' x = S x) → q (.int (c % n)) S' := fun S' b c' d b0 c0' d0 hw' hf => fin S' _ b c' d q0 q1 b0 c0' d0 hw' hf
    rw [put_put]
    have fr : ∀ (o : O) x, x ≠ wl → put S wl o x = S x := fun o x hx => put_ne hx
    refine br (fun _ => ?_) fun _ => ?_
    · walk_at "dl"
      refine ixSeq (j := 3) put_same rfl ?_
      walk_at "dl"
      refine ixSeq (j := 4) put_same rfl ?_
      walk_at "dl"
      rw [List.length_map]
      refine br (fun y => ?_) fun _ => ?_
      · have y : d < cs.length := of_decide_eq_true y
        walk_at "dl"
        refine ixSeq (j := 4) put_same rfl ?_
        walk_at "dl"
        refine ixSeq (j := 3) put_same rfl ?_
        walk_at "dl"
        refine ixMem (m := cs.length) (by rw [List.length_map]) d0 y fun x hx => ?_
        obtain ⟨z, _, rfl⟩ := List.mem_map.mp hx
        walk_at "dl"
        refine setOf (j := 2) put_same rfl ?_
        rw [put_put]
        walk_at "dl"
        refine ixSeq (j := 3) put_same rfl ?_
        walk_at "dl"
        refine setOf (j := 3) put_same rfl ?_
        rw [put_put]
        walk_at "dl"
        exact fin2 _ (b + 1) _ (d + 1) (by omega) (by split <;> omega) (by omega) put_same (fr _)
      · walk_at "dl"
        exact fin2 _ (b + 1) _ d (by omega) q2 d0 put_same (fr _)
    · walk_at "dl"
      exact fin2 _ (b + 1) _ d (by omega) q2 d0 put_same (fr _)
end
end K

set_option Elab.async false
set_option linter.all false
set_option maxRecDepth 100000
namespace K
open PySem L2 Evl EX DL HM
abbrev s_Thing___init__ : Stmt := inClass (top 2) 0
abbrev N_Thing___init__ : List Str := ["self", "form", "number", "own"]
theorem sc_Thing___init__ : FnScope N_Thing___init__ ["self", "form", "number", "own"] (defScope s_Thing___init__) := ⟨rfl, rfl, rfl, by decide +kernel, rfl, by decide +kernel, by decide +kernel⟩
abbrev s_Hall___init__ : Stmt := inClass (top 4) 0
abbrev N_Hall___init__ : List Str := ["self", "ender"]
theorem sc_Hall___init__ : FnScope N_Hall___init__ ["self", "ender"] (defScope s_Hall___init__) := ⟨rfl, rfl, rfl, by decide +kernel, rfl, by decide +kernel, by decide +kernel⟩
abbrev s_Hall_make : Stmt := inClass (top 4) 1
abbrev N_Hall_make : List Str := ["self", "form", "own", "thing"]
theorem sc_Hall_make : FnScope N_Hall_make ["self", "form", "own"] (defScope s_Hall_make) := ⟨rfl, rfl, rfl, by decide +kernel, rfl, by decide +kernel, by decide +kernel⟩
abbrev s_Hall_hold : Stmt := inClass (top 4) 2
abbrev N_Hall_hold : List Str := ["self", "value"]
theorem sc_Hall_hold : FnScope N_Hall_hold ["self", "value"] (defScope s_Hall_hold) := ⟨rfl, rfl, rfl, by decide +kernel, rfl, by decide +kernel, by decide +kernel⟩
abbrev s_Hall_loose : Stmt := inClass (top 4) 3
abbrev N_Hall_loose : List Str := ["self", "value"]
theorem sc_Hall_loose : FnScope N_Hall_loose ["self", "value"] (defScope s_Hall_loose) := ⟨rfl, rfl, rfl, by decide +kernel, rfl, by decide +kernel, by decide +kernel⟩
abbrev s_Hall_put : Stmt := inClass (top 4) 4
abbrev N_Hall_put : List Str := ["self", "thing", "key", "value", "old"]
theorem sc_Hall_put : FnScope N_Hall_put ["self", "thing", "key", "value"] (defScope s_Hall_put) := ⟨rfl, rfl, rfl, by decide +kernel, rfl, by decide +kernel, by decide +kernel⟩
abbrev s_Hall_things : Stmt := inClass (top 4) 6
abbrev N_Hall_things : List Str := ["self"]
theorem sc_Hall_things : FnScope N_Hall_things ["self"] (defScope s_Hall_things) := ⟨rfl, rfl, rfl, by decide +kernel, rfl, by decide +kernel, by decide +kernel⟩
abbrev s_Hall_gone : Stmt := inClass (top 4) 7
abbrev N_Hall_gone : List Str := ["self"]
theorem sc_Hall_gone : FnScope N_Hall_gone ["self"] (defScope s_Hall_gone) := ⟨rfl, rfl, rfl, by decide +kernel, rfl, by decide +kernel, by decide +kernel⟩
abbrev s_Hall_let_go : Stmt := inClass (top 4) 9
abbrev N_Hall_let_go : List Str := ["self", "thing"]
theorem sc_Hall_let_go : FnScope N_Hall_let_go ["self", "thing"] (defScope s_Hall_let_go) := ⟨rfl, rfl, rfl, by decide +kernel, rfl, by decide +kernel, by decide +kernel⟩
abbrev s_Hall_work : Stmt := inClass (top 4) 10
abbrev N_Hall_work : List Str := ["self"]
theorem sc_Hall_work : FnScope N_Hall_work ["self"] (defScope s_Hall_work) := ⟨rfl, rfl, rfl, by decide +kernel, rfl, by decide +kernel, by decide +kernel⟩
abbrev s_Hall_turn : Stmt := inClass (top 4) 11
abbrev N_Hall_turn : List Str := ["self", "thing"]
theorem sc_Hall_turn : FnScope N_Hall_turn ["self", "thing"] (defScope s_Hall_turn) := ⟨rfl, rfl, rfl, by decide +kernel, rfl, by decide +kernel, by decide +kernel⟩
abbrev s_Hall_ask_last : Stmt := inClass (top 4) 12
abbrev N_Hall_ask_last : List Str := ["self", "thing", "row"]
theorem sc_Hall_ask_last : FnScope N_Hall_ask_last ["self", "thing"] (defScope s_Hall_ask_last) := ⟨rfl, rfl, rfl, by decide +kernel, rfl, by decide +kernel, by decide +kernel⟩
abbrev s_Hall_be_gone : Stmt := inClass (top 4) 13
abbrev N_Hall_be_gone : List Str := ["self", "thing"]
theorem sc_Hall_be_gone : FnScope N_Hall_be_gone ["self", "thing"] (defScope s_Hall_be_gone) := ⟨rfl, rfl, rfl, by decide +kernel, rfl, by decide +kernel, by decide +kernel⟩
abbrev s_Hall_empty : Stmt := inClass (top 4) 14
abbrev N_Hall_empty : List Str := ["self", "thing", "key"]
theorem sc_Hall_empty : FnScope N_Hall_empty ["self", "thing"] (defScope s_Hall_empty) := ⟨rfl, rfl, rfl, by decide +kernel, rfl, by decide +kernel, by decide +kernel⟩
structure Txt (K : PySem.W.Frag) (mg : Str → Option Value) (CT CH : Addr) : Prop where
  len : mg "len" = none
  int : mg "int" = none
  range : mg "range" = none
  str : mg "str" = none
  isinstance : mg "isinstance" = none
  bool : mg "bool" = none
  sorted : mg "sorted" = none
  list : mg "list" = none
  enumerate : mg "enumerate" = none
  dict : mg "dict" = none
  min : mg "min" = none
  all : mg "all" = none
  tuple : mg "tuple" = none
  set : mg "set" = none
  sum : mg "sum" = none
  Thing : GlD K mg "Thing" (.ref CT)
  Thing_ : ClsD K CT ["form", "number", "count", "parts", "own", "ended", "waits"]
  Hall_ : ClsD K CH ["ender", "many", "there", "left", "row", "lasts"]
  ThingI : IsiC K CT
section
variable {P : Program} {w : World} {K : PySem.W.Frag} {mg : Str → Option Value} {base : Heap} {CT CH : Addr}
local macro_rules | `(tactic| walk_at "dl") => `(tactic| try simp only [↓x_forS, ↓x_diSL, ↓x_diKeys, ↓x_lock, ↓x_dictP, ↓x_fld, ↓x_fldS, ↓x_fldA, ↓x_meth, ↓x_make, ↓x_dget, ↓x_din, ↓x_dget1, ↓x_dget2, ↓x_dpop, ↓x_dput, ↓x_listD, ↓x_sortDI, ↓x_lenD, ↓x_isiC, x_icS, x_icI, x_icB, x_icN, x_ioS, x_ioI, x_ioB, x_ioN, ↓x_gSub, ↓x_sortDL, ↓x_eqO, ↓x_ninA, x_catN, x_isBB, x_isBN, x_isBI, x_isBS, x_isBR, ↓x_seq, ↓x_nx, ↓x_pass, ↓x_brk, ↓x_cnt, ↓x_drop, ↓x_ret, ↓x_retN, ↓x_ifS, ↓x_set, ↓x_asg, ↓x_gN, ↓x_gT, ↓x_gsC, ↓x_gsN, ↓x_var, x_rdv, ↓x_c, ↓x_op, ↓x_test, x_tst, ↓x_and, ↓x_or, ↓x_not, ↓x_andV, ↓x_orV, ↓x_notV, x_tstV, ↓x_ifE, x_true, x_false, ↓x_nil, ↓x_cons, ↓x_tup, ↓x_lst, ↓x_new, ↓x_newD, ↓x_call, ↓x_cb, x_oI, x_oIc, x_oS, x_addS, x_isN, x_notN, x_eqI, x_eqS, x_eqIS, x_eqSI, x_eqNS, x_neI, x_neS, x_neB, x_eqB, x_few, x_need, ↓x_ix, x_lenS, x_ixL0, x_ixT0, x_ixT1, x_ixT2, x_ixT3, x_ixT4, x_lenL, x_lenT, x_lenC, x_listL, x_listT, x_tupL, x_tupT, x_strI, x_strS, x_int1, x_intB, x_I1, x_I2, x_cat, x_catT, ↓x_split, ↓x_for, ↓x_cut, ↓x_lc, ↓x_whl, ↓x_diL, ↓x_diT, ↓x_diS, x_itL, x_itC, x_itT, x_itS, ↓x_diR1, ↓x_diR2, ↓x_diE, x_enmL, x_enmC, ↓x_gcN, ↓x_gcT, ↓x_yes, ↓x_ml, ↓x_ms, x_strq, x_ss, x_ssc, x_ssi, ↓x_join, ↓x_aug, x_st2I, ↓x_sl, ↓x_noP, ↓x_part, x_intq, x_slL, x_slC, x_slS, ↓x_in, x_inT, x_inL, x_ninT, x_ninL, x_inN, x_inSS, x_inSI, x_inIS, x_inII, ↓x_sg, x_sgS, x_nsgS, ↓x_eqD, ↓x_inDD, x_mulS, ↓x_isi, x_isiS, x_isiI, x_isiB, x_isiN, x_isiL, x_isiT, ↓x_isTT, x_itI, x_itStr, x_itN, x_itB, x_itLst, x_itTup, ↓x_any, ↓x_all, ↓x_sum, ↓x_srtI, ↓x_srtS, ↓x_intS, ↓x_lenRf, ↓x_tupRf, ↓x_frz', x_flS, x_flI, x_flN, x_flB, x_cs_bool, x_isB_NoneType_bool, x_isB_bool_bool, x_isB_int_bool, x_isB_str_bool, x_isB_list_bool, x_isB_tuple_bool, x_isB_dict_bool, x_cs_int, x_isB_NoneType_int, x_isB_bool_int, x_isB_int_int, x_isB_str_int, x_isB_list_int, x_isB_tuple_int, x_isB_dict_int, x_cs_str, x_isB_NoneType_str, x_isB_bool_str, x_isB_int_str, x_isB_str_str, x_isB_list_str, x_isB_tuple_str, x_isB_dict_str, x_cs_list, x_isB_NoneType_list, x_isB_bool_list, x_isB_int_list, x_isB_str_list, x_isB_list_list, x_isB_tuple_list, x_isB_dict_list, x_cs_tuple, x_isB_NoneType_tuple, x_isB_bool_tuple, x_isB_int_tuple, x_isB_str_tuple, x_isB_list_tuple, x_isB_tuple_tuple, x_isB_dict_tuple, x_cs_dict, x_isB_NoneType_dict, x_isB_bool_dict, x_isB_int_dict, x_isB_str_dict, x_isB_list_dict, x_isB_tuple_dict, x_isB_dict_dict, List.all_cons, List.all_nil, Bool.and_self, Bool.or_false, Bool.or_true, Bool.false_or, Bool.true_or, wipeD, setD, DL.isNon, List.set_cons_zero, List.set_cons_succ, List.getElem?_cons_zero, List.getElem?_cons_succ, List.length_cons, List.length_nil, Nat.zero_add, List.cons_append, List.nil_append, decide_true, decide_false, Bool.not_true, Bool.not_false, true_and, and_true, startD, List.map_cons, List.map_nil, Nat.reduceSub, Nat.reduceLeDiff, Nat.zero_le, Int.reduceLT, Int.reduceLE, and_self, Nat.reduceAdd, List.replicate])
def dThInit (CT : Addr) : SpD := fun ds S k _ => ∃ (a dx : Addr) (form : Str) (num : Int) (own : D), ds = [.ref a, .str form, .int num, own] ∧ S a = some (.ins CT dx []) ∧
  ∀ pd, S pd = none → k .non (put (put S pd (.dct [])) a (.ins CT dx (thFs (.str form) (.int num) (.int 0) (.ref pd) own (.bl false) (.bl false))))
theorem ok_thinit {fa : Addr} {fd : FuncData} (F : Fun K "__init__" "Thing.__init__" s_Thing___init__ fa fd) (T : Txt K mg CT CH) : FnOk P w K mg base CX0 1 fa fd ["self", "form", "number", "own"] (lSp K (dThInit CT)) := by
  refine dok F sc_Thing___init__ (fun ds S q qx ⟨a, dx, form, num, own, h, _⟩ => by rw [h]; rfl) ⟨_, fun cdv A outer s H E hr => dss_cons (ds_fld T.Thing_ (by decide +kernel) (de_var 0) (de_var 1))
      (dss_cons (ds_fld T.Thing_ (by decide +kernel) (de_var 0) (de_var 2))
      (dss_cons (ds_fld T.Thing_ (by decide +kernel) (de_var 0) (de_int))
      (dss_cons (ds_fld T.Thing_ (by decide +kernel) (de_var 0) (de_newD))
      (dss_cons (ds_fld T.Thing_ (by decide +kernel) (de_var 0) (de_var 3))
      (dss_cons (ds_fld T.Thing_ (by decide +kernel) (de_var 0) (de_bl))
      (dss_one (ds_fld T.Thing_ (by decide +kernel) (de_var 0) (de_bl)))))))), fun ds S q qx ⟨a, dx, form, num, own, hd, ha, h⟩ => ?_⟩
  subst hd
  walk_at "dl"
  refine fldsOf ha (Nat.le_of_ble_eq_true rfl) ?_
  walk_at "dl"
  refine fldsOf put_same (Nat.le_of_ble_eq_true rfl) ?_
  walk_at "dl"
  refine fldsOf put_same (Nat.le_of_ble_eq_true rfl) ?_
  walk_at "dl"
  rw [put_put, put_put]
  refine freshOf fun pd hp => ?_
  have ne : a ≠ pd := sto_ne put_same hp
  rw [put_ne ne.symm] at hp
  walk_at "dl"
  refine fldsOf (by rw [put_ne ne]; exact put_same) (Nat.le_of_ble_eq_true rfl) ?_
  walk_at "dl"
  refine fldsOf put_same (Nat.le_of_ble_eq_true rfl) ?_
  walk_at "dl"
  refine fldsOf put_same (Nat.le_of_ble_eq_true rfl) ?_
  walk_at "dl"
  refine fldsOf put_same (Nat.le_of_ble_eq_true rfl) ?_
  walk_at "dl"
  rw [put_put, put_put, put_put, put_comm ne, put_put]
  exact h pd hp
def dHaInit (CH : Addr) : SpD := fun ds S k _ => ∃ (a dx : Addr) (own : D), ds = [.ref a, own] ∧ S a = some (.ins CH dx []) ∧
  ∀ th lf S', S th = none → S lf = none → th ≠ lf → S' a = some (.ins CH dx (haFs own (.int 0) (.ref th) (.ref lf) .non (.int 0))) → S' th = some (.dct []) → S' lf = some (.lst []) → (∀ b, b ≠ th → b ≠ lf → b ≠ a → S' b = S b) → k .non S'
theorem ok_hainit {fa : Addr} {fd : FuncData} (F : Fun K "__init__" "Hall.__init__" s_Hall___init__ fa fd) (T : Txt K mg CT CH) : FnOk P w K mg base CX0 1 fa fd ["self", "ender"] (lSp K (dHaInit CH)) := by
  refine dok F sc_Hall___init__ (fun ds S q qx ⟨a, dx, own, h, _⟩ => by rw [h]; rfl) ⟨_, fun cdv A outer s H E hr => dss_cons (ds_fld T.Hall_ (by decide +kernel) (de_var 0) (de_var 1))
      (dss_cons (ds_fld T.Hall_ (by decide +kernel) (de_var 0) (de_int))
      (dss_cons (ds_fld T.Hall_ (by decide +kernel) (de_var 0) (de_newD))
      (dss_cons (ds_fld T.Hall_ (by decide +kernel) (de_var 0) (de_new (da_nil)))
      (dss_cons (ds_fld T.Hall_ (by decide +kernel) (de_var 0) (de_non))
      (dss_one (ds_fld T.Hall_ (by decide +kernel) (de_var 0) (de_int))))))), fun ds S q qx ⟨a, dx, own, hd, ha, h⟩ => ?_⟩
  subst hd
  walk_at "dl"
  refine fldsOf ha (Nat.le_of_ble_eq_true rfl) ?_
  walk_at "dl"
  refine fldsOf put_same (Nat.le_of_ble_eq_true rfl) ?_
  walk_at "dl"
  rw [put_put]
  refine freshOf fun th hp => ?_
  have ne : a ≠ th := sto_ne put_same hp
  rw [put_ne ne.symm] at hp
  walk_at "dl"
  refine fldsOf (by rw [put_ne ne]; exact put_same) (Nat.le_of_ble_eq_true rfl) ?_
  walk_at "dl"
  refine freshOf fun lf hl => ?_
  have ne2 : a ≠ lf := sto_ne put_same hl
  rw [put_ne ne2.symm] at hl
  have ne3 : th ≠ lf := sto_ne put_same hl
  rw [put_ne ne3.symm, put_ne ne2.symm] at hl
  walk_at "dl"
  refine fldsOf (by rw [put_ne ne2]; exact put_same) (Nat.le_of_ble_eq_true rfl) ?_
  walk_at "dl"
  refine fldsOf put_same (Nat.le_of_ble_eq_true rfl) ?_
  walk_at "dl"
  refine fldsOf put_same (Nat.le_of_ble_eq_true rfl) ?_
  walk_at "dl"
  rw [put_put, put_put]
  refine h th lf _ hp hl ne3 put_same ?_ ?_ fun b n1 n2 n => ?_
  · rw [put_ne ne.symm, put_ne ne3, put_ne ne.symm]; exact put_same
  · rw [put_ne ne2.symm]; exact put_same
  · rw [put_ne n, put_ne n2, put_ne n, put_ne n1, put_ne n]
end
end K

set_option Elab.async false
set_option linter.all false
set_option maxRecDepth 100000
namespace K
open PySem L2 Evl EX DL HM
section
variable {P : Program} {w : World} {K : PySem.W.Frag} {mg : Str → Option Value} {base : Heap} {CT CH : Addr} {en : D}
local macro_rules | `(tactic| walk_at "dl") => `(tactic| try simp only [↓x_forS, ↓x_diSL, ↓x_diKeys, ↓x_lock, ↓x_dictP, ↓x_fld, ↓x_fldS, ↓x_fldA, ↓x_meth, ↓x_make, ↓x_dget, ↓x_din, ↓x_dget1, ↓x_dget2, ↓x_dpop, ↓x_dput, ↓x_listD, ↓x_sortDI, ↓x_lenD, ↓x_isiC, x_icS, x_icI, x_icB, x_icN, x_ioS, x_ioI, x_ioB, x_ioN, ↓x_gSub, ↓x_sortDL, ↓x_eqO, ↓x_ninA, x_catN, x_isBB, x_isBN, x_isBI, x_isBS, x_isBR, ↓x_seq, ↓x_nx, ↓x_pass, ↓x_brk, ↓x_cnt, ↓x_drop, ↓x_ret, ↓x_retN, ↓x_ifS, ↓x_set, ↓x_asg, ↓x_gN, ↓x_gT, ↓x_gsC, ↓x_gsN, ↓x_var, x_rdv, ↓x_c, ↓x_op, ↓x_test, x_tst, ↓x_and, ↓x_or, ↓x_not, ↓x_andV, ↓x_orV, ↓x_notV, x_tstV, ↓x_ifE, x_true, x_false, ↓x_nil, ↓x_cons, ↓x_tup, ↓x_lst, ↓x_new, ↓x_newD, ↓x_call, ↓x_cb, x_oI, x_oIc, x_oS, x_addS, x_isN, x_notN, x_eqI, x_eqS, x_eqIS, x_eqSI, x_eqNS, x_neI, x_neS, x_neB, x_eqB, x_few, x_need, ↓x_ix, x_lenS, x_ixL0, x_ixT0, x_ixT1, x_ixT2, x_ixT3, x_ixT4, x_lenL, x_lenT, x_lenC, x_listL, x_listT, x_tupL, x_tupT, x_strI, x_strS, x_int1, x_intB, x_I1, x_I2, x_cat, x_catT, ↓x_split, ↓x_for, ↓x_cut, ↓x_lc, ↓x_whl, ↓x_diL, ↓x_diT, ↓x_diS, x_itL, x_itC, x_itT, x_itS, ↓x_diR1, ↓x_diR2, ↓x_diE, x_enmL, x_enmC, ↓x_gcN, ↓x_gcT, ↓x_yes, ↓x_ml, ↓x_ms, x_strq, x_ss, x_ssc, x_ssi, ↓x_join, ↓x_aug, x_st2I, ↓x_sl, ↓x_noP, ↓x_part, x_intq, x_slL, x_slC, x_slS, ↓x_in, x_inT, x_inL, x_ninT, x_ninL, x_inN, x_inSS, x_inSI, x_inIS, x_inII, ↓x_sg, x_sgS, x_nsgS, ↓x_eqD, ↓x_inDD, x_mulS, ↓x_isi, x_isiS, x_isiI, x_isiB, x_isiN, x_isiL, x_isiT, ↓x_isTT, x_itI, x_itStr, x_itN, x_itB, x_itLst, x_itTup, ↓x_any, ↓x_all, ↓x_sum, ↓x_srtI, ↓x_srtS, ↓x_intS, ↓x_lenRf, ↓x_tupRf, ↓x_frz', x_flS, x_flI, x_flN, x_flB, x_cs_bool, x_isB_NoneType_bool, x_isB_bool_bool, x_isB_int_bool, x_isB_str_bool, x_isB_list_bool, x_isB_tuple_bool, x_isB_dict_bool, x_cs_int, x_isB_NoneType_int, x_isB_bool_int, x_isB_int_int, x_isB_str_int, x_isB_list_int, x_isB_tuple_int, x_isB_dict_int, x_cs_str, x_isB_NoneType_str, x_isB_bool_str, x_isB_int_str, x_isB_str_str, x_isB_list_str, x_isB_tuple_str, x_isB_dict_str, x_cs_list, x_isB_NoneType_list, x_isB_bool_list, x_isB_int_list, x_isB_str_list, x_isB_list_list, x_isB_tuple_list, x_isB_dict_list, x_cs_tuple, x_isB_NoneType_tuple, x_isB_bool_tuple, x_isB_int_tuple, x_isB_str_tuple, x_isB_list_tuple, x_isB_tuple_tuple, x_isB_dict_tuple, x_cs_dict, x_isB_NoneType_dict, x_isB_bool_dict, x_isB_int_dict, x_isB_str_dict, x_isB_list_dict, x_isB_tuple_dict, x_isB_dict_dict, List.all_cons, List.all_nil, Bool.and_self, Bool.or_false, Bool.or_true, Bool.false_or, Bool.true_or, wipeD, setD, DL.isNon, List.set_cons_zero, List.set_cons_succ, List.getElem?_cons_zero, List.getElem?_cons_succ, List.length_cons, List.length_nil, Nat.zero_add, List.cons_append, List.nil_append, decide_true, decide_false, Bool.not_true, Bool.not_false, true_and, and_true, startD, List.map_cons, List.map_nil, Nat.reduceSub, Nat.reduceLeDiff, Nat.zero_le, Int.reduceLT, Int.reduceLE, and_self, Nat.reduceAdd, List.replicate])
def dHold (CT CH : Addr) (en : D) : SpD := fun ds S k _ => ∃ (H : HA) (s : Hs) (v : Vl), ds = [.ref (H.a .hall), vD H v] ∧ HRep CT CH en H s S ∧ VOk s.many v ∧ ∀ S', HTr CT CH en H s S H (s.held v) S' → k .non S'
theorem ok_hold {fa : Addr} {fd : FuncData} (F : Fun K "hold" "Hall.hold" s_Hall_hold fa fd) (T : Txt K mg CT CH) : FnOk P w K mg base CX0 1 fa fd ["self", "value"] (lSp K (dHold CT CH en)) := by
  refine dok F sc_Hall_hold (fun ds S q qx ⟨H, s, v, e, _⟩ => by rw [e]; rfl) ⟨_, fun cdv A outer s H E hr => dss_one (ds_if (dt_val (de_callB (clIsi' (K := K)) (si_isiC T.ThingI) (by rfl) T.isinstance (by decide +kernel) (da_cons (de_var 1) (da_cons (de_gl (by rfl) T.Thing) da_nil))))
        (dss_one (ds_fldaug T.Thing_ (by decide +kernel) (de_var 1) (de_int) in_add))
        (dss_nil)), fun ds S q qx ⟨H, s, v, hd, R, hv, hq⟩ => ?_⟩
  subst hd
  cases v with
  | no d =>
    have hn : NoTh d := hv
    walk_at "dl"
    cases hn <;> (simp only [vD]; walk_at "dl"; exact hq _ (HTr.refl R))
  | th n =>
    have e := hrep_t R hv.1 hv.2
    walk_at "dl"
    simp only [vD]
    rw [x_own e]
    walk_at "dl"
    refine fldOf e th_count ?_
    walk_at "dl"
    refine fldsOf e (Nat.le_of_ble_eq_true rfl) ?_
    rw [th_count']
    walk_at "dl"
    exact hq _ (HTr.cnt R hv.1 hv.2 _)
theorem there_some {H : HA} {l : List Nat} {n : Nat} : (gval (l.map fun n : Nat => ((.inl (n : Int), .ref (H.a (.t n))) : Key × D)) (.inl (n : Int))).isSome = decide (n ∈ l) := by
  unfold gval
  rw [Option.isSome_map, Bool.eq_iff_iff, List.find?_isSome, decide_eq_true_iff]
  constructor
  · rintro ⟨x, hx, h⟩
    obtain ⟨m, hm, rfl⟩ := List.mem_map.mp hx
    have := Sum.inl.inj (of_decide_eq_true h)
    rw [show n = m by omega]
    exact hm
  · intro h
    exact ⟨_, List.mem_map.mpr ⟨n, h, rfl⟩, by simp⟩
/-- a thing whose last hold is loosed, a row being at work -/
def dLetIn (CT CH : Addr) (en : D) : SpD := fun ds S k _ => ∃ (H : HA) (s : Hs) (n : Nat), ds = [.ref (H.a .hall), .ref (H.a (.t n))] ∧ HRep CT CH en H s S ∧ Wf s ∧ 1 ≤ n ∧ n ≤ s.many ∧ s.cnt n = 0 ∧ s.row ≠ none ∧
  ∀ S', HTr CT CH en H s S H (if s.enqs n = true then s.enq n else s) S' → k .non S'
theorem row_len {s : Hs} {l : List Nat} (w : Wf s) (h : s.row = some l) : l.length ≤ 5000 := by
  obtain ⟨r1, r2⟩ := w.rnd l h
  have : l.length ≤ s.many := by
    have key : ∀ (m : Nat) (l : List Nat), l.Nodup → (∀ o ∈ l, 1 ≤ o ∧ o ≤ m) → l.length ≤ m := by
      intro m
      induction m with
      | zero =>
        intro l _ h
        cases l with
        | nil => exact Nat.le_refl _
        | cons x r => have := h x (List.mem_cons_self ..); omega
      | succ m ih =>
        intro l nd h
        by_cases e : m + 1 ∈ l
        · have := ih (l.erase (m + 1)) (nd.erase _) fun o ho => by
            have h1 := h o (List.mem_of_mem_erase ho)
            have : o ≠ m + 1 := fun z => (List.Nodup.mem_erase_iff nd).mp ho |>.1 z
            omega
          rw [List.length_erase_of_mem e] at this
          omega
        · have := ih l nd fun o ho => by
            have h1 := h o ho
            have : o ≠ m + 1 := fun z => e (z ▸ ho)
            omega
          omega
    exact key _ l r1 fun o ho => w.win o (r2 o ho)
  have := w.most
  omega
theorem ok_let_in {fa : Addr} {fd : FuncData} (F : Fun K "let_go" "Hall.let_go" s_Hall_let_go fa fd) (T : Txt K mg CT CH) : FnOk P w K mg base CX0 1 fa fd ["self", "thing"] (lSp K (dLetIn CT CH en)) := by
  refine dok F sc_Hall_let_go (fun ds S q qx ⟨H, s, n, e, _⟩ => by rw [e]; rfl) ⟨_, fun cdv A outer s H E hr => dss_cons (ds_if (PW.pt (dw_or (dt_val (de_fld T.Thing_ (by decide +kernel) (de_var 1))) (dw_or1 (dt_dinN (hu_of hr) (de_fld T.Thing_ (by decide +kernel) (de_var 1)) (de_fld T.Hall_ (by decide +kernel) (de_var 0))))))
        (dss_one (ds_retN))
        (dss_nil))
      (dss_cons (ds_fld T.Thing_ (by decide +kernel) (de_var 1) (de_bl))
      (dss_one (ds_if (dt_cmp op_isN si_isN (de_fld T.Hall_ (by decide +kernel) (de_var 0)) (de_non) (nomark _))
        (dss_cons (ds_fld T.Hall_ (by decide +kernel) (de_var 0) (de_new (da_cons (de_var 1) da_nil)))
        (dss_one (ds_never)))
        (dss_one (ds_expr (de_ml PySem.F.slot_list_append PySem.F.type_list_append mt_append si_app (de_fld T.Hall_ (by decide +kernel) (de_var 0)) (da_cons (de_var 1) da_nil))))))), fun ds S q qx ⟨H, s, n, hd, R, W, h1, h2, hc, hr, hq⟩ => ?_⟩
  subst hd
  have e := hrep_t R h1 h2
  walk_at "dl"
  refine fldOf e th_waits ?_
  by_cases hw : n ∈ s.waits
  · rw [decide_eq_true hw]
    walk_at "dl"
    rw [if_neg (by unfold Hs.enqs; simp [hw])] at hq
    exact hq _ (HTr.refl R)
  · rw [decide_eq_false hw]
    walk_at "dl"
    refine fldOf e th_number ?_
    walk_at "dl"
    refine fldOf (hrep_hall R) ha_there ?_
    walk_at "dl"
    refine dninOf (hrep_th R) rfl ?_
    rw [there_some]
    by_cases ht : n ∈ s.there
    · rw [decide_eq_true ht]
      walk_at "dl"
      refine fldsOf e (Nat.le_of_ble_eq_true rfl) ?_
      rw [th_waits']
      rw [if_pos (by unfold Hs.enqs; simp [hw, ht, hc])] at hq
      have R1 := HTr.wait R h1 h2 (s.waits ++ [n]) fun i hi => by simp [hi]
      rw [decide_eq_true (show n ∈ s.waits ++ [n] by simp)] at R1
      obtain ⟨l, hl⟩ : ∃ l, s.row = some l := Option.ne_none_iff_exists'.mp hr
      have hh := hrep_hall R1.rep
      dsimp only at hh
      rw [hl] at hh
      walk_at "dl"
      refine fldOf hh ha_row ?_
      simp only [rowD]
      walk_at "dl"
      refine fldOf hh ha_row ?_
      simp only [rowD]
      walk_at "dl"
      have hrow := hrep_row R1.rep (l := l) hl
      refine needOf (isLOf hrow) ?_
      walk_at "dl"
      refine appOf hrow (by rw [List.length_map]; have := row_len W hl; omega) ?_
      have R2 := HTr.setRow R1.rep (l0 := l) hl (l ++ [n])
      rw [List.map_append] at R2
      refine hq _ (R1.trans ?_)
      have : s.enq n = { s with waits := s.waits ++ [n], row := some (l ++ [n]) } := by unfold Hs.enq; rw [hl]; rfl
      rw [this]
      exact R2
    · rw [decide_eq_false ht]
      walk_at "dl"
      rw [if_neg (by unfold Hs.enqs; simp [ht])] at hq
      exact hq _ (HTr.refl R)
def dLooseIn (CT CH : Addr) (en : D) : SpD := fun ds S k _ => ∃ (H : HA) (s : Hs) (v : Vl), ds = [.ref (H.a .hall), vD H v] ∧ HRep CT CH en H s S ∧ Wf s ∧ VOk s.many v ∧ s.row ≠ none ∧ ∀ S', HTr CT CH en H s S H (s.loosed v) S' → k .non S'
theorem ok_loose_in {fa : Addr} {fd : FuncData} (F : Fun K "loose" "Hall.loose" s_Hall_loose fa fd) (T : Txt K mg CT CH) (G_Hall_let_go : MDef P w K mg base 1 CH "let_go" ["self", "thing"] (lSp K (dLetIn CT CH en))) : FnOk P w K mg base CX0 2 fa fd ["self", "value"] (lSp K (dLooseIn CT CH en)) := by
  refine dok F sc_Hall_loose (fun ds S q qx ⟨H, s, v, e, _⟩ => by rw [e]; rfl) ⟨_, fun cdv A outer s H E hr => dss_one (ds_if (dt_val (de_callB (clIsi' (K := K)) (si_isiC T.ThingI) (by rfl) T.isinstance (by decide +kernel) (da_cons (de_var 1) (da_cons (de_gl (by rfl) T.Thing) da_nil))))
        (dss_cons (ds_fldaug T.Thing_ (by decide +kernel) (de_var 1) (de_int) in_sub)
        (dss_one (ds_if (dt_cmp op_eq si_eq (de_fld T.Thing_ (by decide +kernel) (de_var 1)) (de_int) (nomark _))
          (dss_one (ds_expr (de_meth T.Hall_ G_Hall_let_go (hr.mono (by omega)) (de_var 0) (da_cons (de_var 1) da_nil))))
          (dss_nil))))
        (dss_nil)), fun ds S q qx ⟨H, s, v, hd, R, W, hv, hr, hq⟩ => ?_⟩
  subst hd
  cases v with
  | no d =>
    have hn : NoTh d := hv
    walk_at "dl"
    cases hn <;> (simp only [vD]; walk_at "dl"; exact hq _ (HTr.refl R))
  | th n =>
    have e := hrep_t R hv.1 hv.2
    walk_at "dl"
    simp only [vD]
    rw [x_own e]
    walk_at "dl"
    refine fldOf e th_count ?_
    walk_at "dl"
    refine fldsOf e (Nat.le_of_ble_eq_true rfl) ?_
    rw [th_count']
    have R1 := HTr.cnt R hv.1 hv.2 (s.cnt n - 1)
    walk_at "dl"
    refine fldOf put_same th_count ?_
    walk_at "dl"
    have ed : (s.dec n).cnt n = s.cnt n - 1 := DL.fset_same
    by_cases z : s.cnt n - 1 = 0
    · rw [decide_eq_true z]
      walk_at "dl"
      refine needOf (methOf (x := .non) (hrep_hall R1.rep) rfl) ?_
      walk_at "dl"
      exact ⟨H, s.dec n, n, rfl, R1.rep, W.dec n, hv.1, hv.2, by rw [ed]; exact z, hr, fun S' T => hq S' (R1.trans T)⟩
    · rw [decide_eq_false z]
      walk_at "dl"
      rw [loosed_th, if_neg (by unfold Hs.enqs; rw [ed]; simp [z])] at hq
      exact hq _ R1
end
end K

set_option Elab.async false
set_option linter.all false
set_option maxRecDepth 100000
namespace K
open PySem L2 Evl EX DL HM
section
variable {P : Program} {w : World} {K : PySem.W.Frag} {mg : Str → Option Value} {base : Heap} {CT CH : Addr} {en : D}
local macro_rules | `(tactic| walk_at "dl") => `(tactic| try simp only [↓x_forS, ↓x_diSL, ↓x_diKeys, ↓x_lock, ↓x_dictP, ↓x_fld, ↓x_fldS, ↓x_fldA, ↓x_meth, ↓x_make, ↓x_dget, ↓x_din, ↓x_dget1, ↓x_dget2, ↓x_dpop, ↓x_dput, ↓x_listD, ↓x_sortDI, ↓x_lenD, ↓x_isiC, x_icS, x_icI, x_icB, x_icN, x_ioS, x_ioI, x_ioB, x_ioN, ↓x_gSub, ↓x_sortDL, ↓x_eqO, ↓x_ninA, x_catN, x_isBB, x_isBN, x_isBI, x_isBS, x_isBR, ↓x_seq, ↓x_nx, ↓x_pass, ↓x_brk, ↓x_cnt, ↓x_drop, ↓x_ret, ↓x_retN, ↓x_ifS, ↓x_set, ↓x_asg, ↓x_gN, ↓x_gT, ↓x_gsC, ↓x_gsN, ↓x_var, x_rdv, ↓x_c, ↓x_op, ↓x_test, x_tst, ↓x_and, ↓x_or, ↓x_not, ↓x_andV, ↓x_orV, ↓x_notV, x_tstV, ↓x_ifE, x_true, x_false, ↓x_nil, ↓x_cons, ↓x_tup, ↓x_lst, ↓x_new, ↓x_newD, ↓x_call, ↓x_cb, x_oI, x_oIc, x_oS, x_addS, x_isN, x_notN, x_eqI, x_eqS, x_eqIS, x_eqSI, x_eqNS, x_neI, x_neS, x_neB, x_eqB, x_few, x_need, ↓x_ix, x_lenS, x_ixL0, x_ixT0, x_ixT1, x_ixT2, x_ixT3, x_ixT4, x_lenL, x_lenT, x_lenC, x_listL, x_listT, x_tupL, x_tupT, x_strI, x_strS, x_int1, x_intB, x_I1, x_I2, x_cat, x_catT, ↓x_split, ↓x_for, ↓x_cut, ↓x_lc, ↓x_whl, ↓x_diL, ↓x_diT, ↓x_diS, x_itL, x_itC, x_itT, x_itS, ↓x_diR1, ↓x_diR2, ↓x_diE, x_enmL, x_enmC, ↓x_gcN, ↓x_gcT, ↓x_yes, ↓x_ml, ↓x_ms, x_strq, x_ss, x_ssc, x_ssi, ↓x_join, ↓x_aug, x_st2I, ↓x_sl, ↓x_noP, ↓x_part, x_intq, x_slL, x_slC, x_slS, ↓x_in, x_inT, x_inL, x_ninT, x_ninL, x_inN, x_inSS, x_inSI, x_inIS, x_inII, ↓x_sg, x_sgS, x_nsgS, ↓x_eqD, ↓x_inDD, x_mulS, ↓x_isi, x_isiS, x_isiI, x_isiB, x_isiN, x_isiL, x_isiT, ↓x_isTT, x_itI, x_itStr, x_itN, x_itB, x_itLst, x_itTup, ↓x_any, ↓x_all, ↓x_sum, ↓x_srtI, ↓x_srtS, ↓x_intS, ↓x_lenRf, ↓x_tupRf, ↓x_frz', x_flS, x_flI, x_flN, x_flB, x_cs_bool, x_isB_NoneType_bool, x_isB_bool_bool, x_isB_int_bool, x_isB_str_bool, x_isB_list_bool, x_isB_tuple_bool, x_isB_dict_bool, x_cs_int, x_isB_NoneType_int, x_isB_bool_int, x_isB_int_int, x_isB_str_int, x_isB_list_int, x_isB_tuple_int, x_isB_dict_int, x_cs_str, x_isB_NoneType_str, x_isB_bool_str, x_isB_int_str, x_isB_str_str, x_isB_list_str, x_isB_tuple_str, x_isB_dict_str, x_cs_list, x_isB_NoneType_list, x_isB_bool_list, x_isB_int_list, x_isB_str_list, x_isB_list_list, x_isB_tuple_list, x_isB_dict_list, x_cs_tuple, x_isB_NoneType_tuple, x_isB_bool_tuple, x_isB_int_tuple, x_isB_str_tuple, x_isB_list_tuple, x_isB_tuple_tuple, x_isB_dict_tuple, x_cs_dict, x_isB_NoneType_dict, x_isB_bool_dict, x_isB_int_dict, x_isB_str_dict, x_isB_list_dict, x_isB_tuple_dict, x_isB_dict_dict, List.all_cons, List.all_nil, Bool.and_self, Bool.or_false, Bool.or_true, Bool.false_or, Bool.true_or, wipeD, setD, DL.isNon, List.set_cons_zero, List.set_cons_succ, List.getElem?_cons_zero, List.getElem?_cons_succ, List.length_cons, List.length_nil, Nat.zero_add, List.cons_append, List.nil_append, decide_true, decide_false, Bool.not_true, Bool.not_false, true_and, and_true, startD, List.map_cons, List.map_nil, Nat.reduceSub, Nat.reduceLeDiff, Nat.zero_le, Int.reduceLT, Int.reduceLE, and_self, Nat.reduceAdd, List.replicate])
theorem keyD_dK (k : Key) : keyD (dK k) = some k := by cases k <;> rfl
theorem gval_head {β : Type} {k : Key} {v : β} {r : List (Key × β)} : gval ((k, v) :: r) k = some v := by simp [gval, List.find?_cons]
theorem gdrop_head {β : Type} {k : Key} {v : β} {r : List (Key × β)} (h : k ∉ r.map (·.1)) : gdrop ((k, v) :: r) k = r := by
  unfold gdrop
  rw [List.filter_cons, if_neg (by simp), List.filter_eq_self]
  intro x hx
  rw [decide_eq_true_iff]
  exact fun z => h (List.mem_map.mpr ⟨x, hx, z⟩)
def dEmpty (CT CH : Addr) (en : D) : SpD := fun ds S k _ => ∃ (H : HA) (s : Hs) (n : Nat), ds = [.ref (H.a .hall), .ref (H.a (.t n))] ∧ HRep CT CH en H s S ∧ Wf s ∧ 1 ≤ n ∧ n ≤ s.many ∧ s.row ≠ none ∧ ∀ S', HTr CT CH en H s S H (s.emptied n (s.parts n)) S' → k .non S'
def EmI (CT CH : Addr) (en : D) (H : HA) (s : Hs) (n : Nat) (S : Sto) (i : Nat) (δ : Dst) (S' : Sto) : Prop := ∃ (z : Option D) (si : Hs), δ = [some (.ref (H.a .hall)), some (.ref (H.a (.t n))), z] ∧ HTr CT CH en H s S H si S' ∧ Wf si ∧ si.many = s.many ∧ si.row ≠ none ∧ si.parts n = (s.parts n).drop i ∧ si.emptied n ((s.parts n).drop i) = s.emptied n (s.parts n)
theorem ok_empty {fa : Addr} {fd : FuncData} (F : Fun K "empty" "Hall.empty" s_Hall_empty fa fd) (T : Txt K mg CT CH) (G_Hall_loose : MDef P w K mg base 2 CH "loose" ["self", "value"] (lSp K (dLooseIn CT CH en))) : FnOk P w K mg base CX0 3 fa fd ["self", "thing"] (lSp K (dEmpty CT CH en)) := by
  refine dok F sc_Hall_empty (fun ds S q qx ⟨H, s, n, e, _⟩ => by rw [e]; rfl) ⟨_, fun cdv A outer s H E hr => dss_one (ds_for PassesOwn.never rfl (di_list (K := K) (de_callTy (call_listD rfl) si_listD (by rfl) T.list (by decide +kernel) (da_cons (de_fld T.Thing_ (by decide +kernel) (de_var 1)) da_nil))) (dg_name (i := 2) sc_Hall_empty.nd rfl (Or.inl rfl))
        (dss_one (ds_expr (de_meth T.Hall_ G_Hall_loose (hr.mono (by decide)) (de_var 0) (da_cons (de_dpop (de_fld T.Thing_ (by decide +kernel) (de_var 1)) (de_var 2)) da_nil))))), fun ds S q qx ⟨H, s, n, hd, R, W, h1, h2, hr, hq⟩ => ?_⟩
  subst hd
  have e := hrep_t R h1 h2
  walk_at "dl"
  refine fldOf e th_parts ?_
  walk_at "dl"
  refine listDOf (hrep_pd R h1 h2) ?_
  walk_at "dl"
  refine forOf (EmI CT CH en H s n S) ⟨_, s, rfl, HTr.refl R, W, rfl, hr, rfl, rfl⟩ ?_ ?_
  · rintro i d δ S' hi ⟨z, si, rfl, T1, W1, hm, hr1, hp, he⟩
    obtain ⟨kv, hkv, rfl⟩ := Option.map_eq_some_iff.mp ((List.getElem?_map (f := fun kv : Key × D => dK kv.1)) ▸ hi)
    obtain ⟨kj, hkj, rfl⟩ := Option.map_eq_some_iff.mp ((List.getElem?_map (f := fun kj : Key × Vl => (kj.1, vD H kj.2))) ▸ hkv)
    have hlt := (List.getElem?_eq_some_iff.mp hkj).1
    have hdr : (s.parts n).drop i = kj :: (s.parts n).drop (i + 1) := by
      rw [List.drop_eq_getElem_cons hlt, (List.getElem?_eq_some_iff.mp hkj).2]
    rw [hdr] at hp he
    have hpd := hrep_pd T1.rep h1 (by rw [hm]; exact h2)
    rw [hp, List.map_cons] at hpd
    have hno : kj.1 ∉ (((s.parts n).drop (i + 1)).map fun kv => ((kv.1, vD H kv.2) : Key × D)).map (·.1) := by
      rw [List.map_map]
      have nd := W1.key n
      rw [hp, List.map_cons] at nd
      exact (List.nodup_cons.mp nd).1
    walk_at "dl"
    refine needOf (methOf (x := .non) (hrep_hall T1.rep) rfl) ?_
    walk_at "dl"
    refine fldOf (hrep_t T1.rep h1 (by rw [hm]; exact h2)) th_parts (isDOf hpd ?_)
    walk_at "dl"
    refine dpopOf hpd (keyD_dK _) gval_head ?_
    rw [gdrop_head hno]
    have T2 := HTr.parts T1.rep h1 (by rw [hm]; exact h2) ((s.parts n).drop (i + 1))
    walk_at "dl"
    refine ⟨H, _, kj.2, rfl, T2.rep, W1.part hp, ?_, hr1, fun S3 T3 => ?_⟩
    · exact W1.pv n kj (by rw [hp]; exact List.mem_cons_self ..)
    · refine ⟨_, _, rfl, (T1.trans T2).trans T3, (W1.part hp).loosed _, ?_, ?_, ?_, he⟩
      · rw [loosed_many]; exact hm
      · intro z
        have := (loosed_row _ _).mp z
        exact hr1 this
      · rw [loosed_parts]; exact DL.fset_same
  · rintro δ S' ⟨z, si, rfl, T1, W1, hm, hr1, hp, he⟩
    rw [List.length_map, List.length_map, List.drop_length] at he
    refine hq S' ?_
    rw [← he]
    exact T1
def dBeGone (CT CH : Addr) (en : D) : SpD := fun ds S k _ => ∃ (H : HA) (s : Hs) (n : Nat), ds = [.ref (H.a .hall), .ref (H.a (.t n))] ∧ HRep CT CH en H s S ∧ Wf s ∧ n ∈ s.there ∧ ∀ S', HTr CT CH en H s S H (s.gone n) S' → k .non S'
theorem there_drop {H : HA} {n : Nat} (l : List Nat) : gdrop (l.map fun n : Nat => ((.inl (n : Int), .ref (H.a (.t n))) : Key × D)) (.inl (n : Int)) = (l.filter fun i => decide (i ≠ n)).map fun n : Nat => ((.inl (n : Int), .ref (H.a (.t n))) : Key × D) := by
  unfold gdrop
  rw [List.filter_map]
  congr 1
  refine List.filter_congr fun i _ => ?_
  show decide ((Sum.inl (i : Int) : Key) ≠ Sum.inl (n : Int)) = decide (i ≠ n)
  rw [Bool.eq_iff_iff, decide_eq_true_iff, decide_eq_true_iff]
  constructor
  · intro z y; exact z (by rw [y])
  · intro z y; exact z (by have := Sum.inl.inj y; omega)
theorem ok_be_gone {fa : Addr} {fd : FuncData} (F : Fun K "be_gone" "Hall.be_gone" s_Hall_be_gone fa fd) (T : Txt K mg CT CH) : FnOk P w K mg base CX0 1 fa fd ["self", "thing"] (lSp K (dBeGone CT CH en)) := by
  refine dok F sc_Hall_be_gone (fun ds S q qx ⟨H, s, n, e, _⟩ => by rw [e]; rfl) ⟨_, fun cdv A outer s H E hr => dss_cons (ds_expr (de_dpop (de_fld T.Hall_ (by decide +kernel) (de_var 0)) (de_fld T.Thing_ (by decide +kernel) (de_var 1))))
      (dss_one (ds_expr (de_ml PySem.F.slot_list_append PySem.F.type_list_append mt_append si_app (de_fld T.Hall_ (by decide +kernel) (de_var 0)) (da_cons (de_fld T.Thing_ (by decide +kernel) (de_var 1)) da_nil)))), fun ds S q qx ⟨H, s, n, hd, R, W, ht, hq⟩ => ?_⟩
  subst hd
  obtain ⟨h1, h2⟩ := W.tin n ht
  have e := hrep_t R h1 h2
  walk_at "dl"
  refine fldOf (hrep_hall R) ha_there (isDOf (hrep_th R) ?_)
  walk_at "dl"
  refine fldOf e th_number ?_
  walk_at "dl"
  obtain ⟨v, hv⟩ := Option.isSome_iff_exists.mp (there_some (H := H).trans (decide_eq_true ht))
  refine dpopOf (hrep_th R) rfl hv ?_
  rw [there_drop]
  have T1 := HTr.there R (s.there.filter fun i => decide (i ≠ n))
  walk_at "dl"
  refine fldOf (hrep_hall T1.rep) ha_left ?_
  walk_at "dl"
  have hl := hrep_lf T1.rep
  refine needOf (isLOf hl) ?_
  walk_at "dl"
  refine fldOf (hrep_t T1.rep h1 h2) th_number ?_
  walk_at "dl"
  refine appOf hl (by rw [List.length_map]; show s.left.length < _; have := W.len; have := W.most; omega) ?_
  have T2 := HTr.left T1.rep (s.left ++ [n])
  rw [List.map_append] at T2
  exact hq _ (T1.trans (T2.trans (HTr.ghost T2.rep rfl rfl)))
/-- a last is asked -/
def dAsk (CT CH : Addr) (en : D) (ask : AskR) : SpD := fun ds S k _ => ∃ (H : HA) (s : Hs) (n : Nat) (s' : Hs), ds = [.ref (H.a .hall), .ref (H.a (.t n))] ∧ HRep CT CH en H s S ∧ Wf s ∧ n ∈ s.there ∧ ask s n s' ∧ ∀ H' S', HTr CT CH en H s S H' s' S' → k .non S'
theorem ok_ask_no {fa : Addr} {fd : FuncData} (F : Fun K "ask_last" "Hall.ask_last" s_Hall_ask_last fa fd) (T : Txt K mg CT CH) : FnOk P w K mg base CX0 1 fa fd ["self", "thing"] (lSp K (dAsk CT CH .non askNo)) := by
  refine dok F sc_Hall_ask_last (fun ds S q qx ⟨H, s, n, s', e, _⟩ => by rw [e]; rfl) ⟨_, fun cdv A outer s H E hr => dss_cons (ds_if (PW.pt (dw_or (dt_cmp op_isN si_isN (de_fld T.Hall_ (by decide +kernel) (de_var 0)) (de_non) (nomark _)) (dw_or1 (dt_val (de_fld T.Thing_ (by decide +kernel) (de_var 1))))))
        (dss_one (ds_retN))
        (dss_nil))
      (dss_cons (ds_fld T.Thing_ (by decide +kernel) (de_var 1) (de_bl))
      (dss_cons (ds_set (i := 2) sc_Hall_ask_last.nd rfl (Or.inl rfl) (de_fld T.Hall_ (by decide +kernel) (de_var 0)))
      (dss_cons (ds_fld T.Hall_ (by decide +kernel) (de_var 0) (de_non))
      (dss_cons (ds_fldaug T.Hall_ (by decide +kernel) (de_var 0) (de_int) in_add)
      (dss_cons (ds_never)
      (dss_cons (ds_fldaug T.Hall_ (by decide +kernel) (de_var 0) (de_int) in_sub)
      (dss_one (ds_fld T.Hall_ (by decide +kernel) (de_var 0) (de_var 2))))))))), fun ds S q qx ⟨H, s, n, s', hd, R, W, ht, ha, hq⟩ => ?_⟩
  subst hd
  cases (show s' = s from ha)
  walk_at "dl"
  refine fldOf (hrep_hall R) ha_ender ?_
  walk_at "dl"
  exact hq H _ (HTr.refl R)
def dTurn (CT CH : Addr) (en : D) (ask : AskR) : SpD := fun ds S k _ => ∃ (H : HA) (s : Hs) (n : Nat) (s' : Hs), ds = [.ref (H.a .hall), .ref (H.a (.t n))] ∧ HRep CT CH en H s S ∧ Wf s ∧ 1 ≤ n ∧ n ≤ s.many ∧ s.row ≠ none ∧ (∀ l, s.row = some l → n ∉ l) ∧ Turn ask s n s' ∧ ∀ H' S', HTr CT CH en H s S H' s' S' → k .non S'
theorem ok_turn {La : Nat} {ask : AskR} (KA : AskOk ask) {fa : Addr} {fd : FuncData} (F : Fun K "turn" "Hall.turn" s_Hall_turn fa fd) (T : Txt K mg CT CH) (hL : 3 ≤ La) (G_Hall_ask_last : MDef P w K mg base La CH "ask_last" ["self", "thing"] (lSp K (dAsk CT CH en ask))) (G_Hall_be_gone : MDef P w K mg base 1 CH "be_gone" ["self", "thing"] (lSp K (dBeGone CT CH en)))
    (G_Hall_empty : MDef P w K mg base 3 CH "empty" ["self", "thing"] (lSp K (dEmpty CT CH en))) : FnOk P w K mg base CX0 (La + 1) fa fd ["self", "thing"] (lSp K (dTurn CT CH en ask)) := by
  refine dok F sc_Hall_turn (fun ds S q qx ⟨H, s, n, s', e, _⟩ => by rw [e]; rfl) ⟨_, fun cdv A outer s H E hr => dss_cons (ds_fld T.Thing_ (by decide +kernel) (de_var 1) (de_bl))
      (dss_cons (ds_if (PW.pt (dw_or (dt_cmp op_gt si_gt (de_fld T.Thing_ (by decide +kernel) (de_var 1)) (de_int) (nomark _)) (dw_or1 (dt_dinN (hu_of hr) (de_fld T.Thing_ (by decide +kernel) (de_var 1)) (de_fld T.Hall_ (by decide +kernel) (de_var 0))))))
        (dss_one (ds_retN))
        (dss_nil))
      (dss_cons (ds_fldaug T.Thing_ (by decide +kernel) (de_var 1) (de_int) in_add)
      (dss_cons (ds_expr (de_meth T.Hall_ G_Hall_ask_last (hr.mono (by omega)) (de_var 0) (da_cons (de_var 1) da_nil)))
      (dss_cons (ds_fldaug T.Thing_ (by decide +kernel) (de_var 1) (de_int) in_sub)
      (dss_one (ds_if (dt_cmp op_eq si_eq (de_fld T.Thing_ (by decide +kernel) (de_var 1)) (de_int) (nomark _))
        (dss_cons (ds_expr (de_meth T.Hall_ G_Hall_be_gone (hr.mono (by omega)) (de_var 0) (da_cons (de_var 1) da_nil)))
        (dss_one (ds_expr (de_meth T.Hall_ G_Hall_empty (hr.mono (by omega)) (de_var 0) (da_cons (de_var 1) da_nil)))))
        (dss_nil))))))), fun ds S q qx ⟨H, s, n, s', hd, R, W, h1, h2, hr, hn, ht, hq⟩ => ?_⟩
  subst hd
  have e := hrep_t R h1 h2
  walk_at "dl"
  refine fldsOf e (Nat.le_of_ble_eq_true rfl) ?_
  rw [th_waits']
  have hni : n ∉ s.waits.erase n := fun z => (List.Nodup.mem_erase_iff W.wnd).mp z |>.1 rfl
  have T1 := HTr.wait R h1 h2 (s.waits.erase n) fun i hi => List.mem_erase_of_ne hi
  rw [decide_eq_false hni] at T1
  have W1 : Wf (s.unwait n) := W.unwait hn
  walk_at "dl"
  refine fldOf put_same th_count ?_
  walk_at "dl"
  by_cases hc : 0 < s.cnt n
  · rw [decide_eq_true hc]
    walk_at "dl"
    cases ht with
    | pass _ => exact hq H _ T1
    | stay h _ _ => exact absurd (.inl hc) h
    | go h _ _ => exact absurd (.inl hc) h
  rw [decide_eq_false hc]
  walk_at "dl"
  refine fldOf put_same th_number ?_
  walk_at "dl"
  refine fldOf (hrep_hall T1.rep) ha_there ?_
  walk_at "dl"
  refine dninOf (hrep_th T1.rep) rfl ?_
  rw [there_some]
  by_cases hth : n ∈ s.there
  rotate_left
  · rw [decide_eq_false hth]
    walk_at "dl"
    cases ht with
    | pass _ => exact hq H _ T1
    | stay h _ _ => exact absurd (.inr hth) h
    | go h _ _ => exact absurd (.inr hth) h
  rw [decide_eq_true hth]
  walk_at "dl"
  refine fldOf put_same th_count ?_
  walk_at "dl"
  refine fldsOf put_same (Nat.le_of_ble_eq_true rfl) ?_
  rw [th_count']
  have T2 := HTr.cnt T1.rep h1 h2 (s.cnt n + 1)
  dsimp only at T2
  rw [decide_eq_false hni] at T2
  have T2' : HTr CT CH en H s S H ((s.unwait n).up n) _ := T1.trans (T2.trans (HTr.ghost T2.rep rfl rfl))
  have W2 : Wf ((s.unwait n).up n) := W1.up n
  walk_at "dl"
  refine needOf (methOf (x := .non) (hrep_hall T2'.rep) rfl) ?_
  walk_at "dl"
  obtain ⟨s1, ha, hend⟩ : ∃ s1, ask ((s.unwait n).up n) n s1 ∧ (((s1.down n).cnt n ≠ 0 ∧ s' = s1.down n) ∨ ((s1.down n).cnt n = 0 ∧ s' = (((s1.down n).gone n).emptied n (s1.parts n)).bare n)) := by
    cases ht with
    | pass h => exact absurd h (fun z => z.elim (fun y => hc y) fun y => y hth)
    | stay _ h1 h2 => exact ⟨_, h1, .inl ⟨h2, rfl⟩⟩
    | go _ h1 h2 => exact ⟨_, h1, .inr ⟨h2, rfl⟩⟩
  refine ⟨H, _, n, s1, rfl, T2'.rep, W2, hth, ha, fun H1 S1 T3 => ?_⟩
  have m1 : s.many ≤ s1.many := by have := KA.many ha; exact this
  have W3 := KA.wf ha W2 hth
  have et : H1.a (.t n) = H.a (.t n) := T3.t h1 h2
  have eh : H1.a .hall = H.a .hall := T3.hall
  have e3 := hrep_t T3.rep h1 (Nat.le_trans h2 m1)
  rw [et] at e3
  walk_at "dl"
  refine fldOf e3 th_count ?_
  walk_at "dl"
  refine fldsOf e3 (Nat.le_of_ble_eq_true rfl) ?_
  rw [th_count']
  have T4 := HTr.cnt T3.rep h1 (Nat.le_trans h2 m1) (s1.cnt n - 1)
  rw [et] at T4
  have T5 : HTr CT CH en H s S H1 (s1.down n) _ := (T2'.trans T3).trans (T4.trans (HTr.ghost T4.rep rfl rfl))
  have ed : (s1.down n).cnt n = s1.cnt n - 1 := DL.fset_same
  walk_at "dl"
  refine fldOf put_same th_count ?_
  walk_at "dl"
  rcases hend with ⟨hne, rfl⟩ | ⟨hz, rfl⟩
  · rw [ed] at hne
    rw [decide_eq_false hne]
    walk_at "dl"
    exact hq H1 _ T5
  · rw [ed] at hz
    rw [decide_eq_true hz]
    have hh := hrep_hall T5.rep
    rw [eh] at hh
    walk_at "dl"
    refine needOf (methOf (x := .non) hh rfl) ?_
    walk_at "dl"
    have hth1 := KA.stay ha hth
    have W5 := W3.down n
    refine ⟨H1, s1.down n, n, by rw [eh, et], T5.rep, W5, hth1, fun S6 T6 => ?_⟩
    have hh6 := hrep_hall T6.rep
    rw [eh] at hh6
    walk_at "dl"
    refine needOf (methOf (x := .non) hh6 rfl) ?_
    walk_at "dl"
    refine ⟨H1, _, n, by rw [eh, et], T6.rep, W5.gone hth1, h1, Nat.le_trans h2 m1, ?_, fun S7 T7 => hq H1 S7 (T5.trans (T6.trans (T7.trans (HTr.ghost T7.rep rfl rfl))))⟩
    show s1.row ≠ none
    rw [KA.row ha]
    exact hr
def dWork (CT CH : Addr) (en : D) (ask : AskR) : SpD := fun ds S k _ => ∃ (H : HA) (s : Hs) (f : Nat) (s' : Hs), ds = [.ref (H.a .hall)] ∧ HRep CT CH en H s S ∧ Wf s ∧ Work ask f s s' ∧ ∀ H' S', HTr CT CH en H s S H' s' S' → k .non S'
theorem Turn.row {ask : AskR} (KA : AskOk ask) {s s' : Hs} {n : Nat} (t : Turn ask s n s') (h : s.row ≠ none) : s'.row ≠ none := by
  cases t with
  | pass _ => exact h
  | stay h1 h2 h3 =>
    intro z
    have := KA.row h2
    exact h (by rw [← show _ = s.row from this]; exact z)
  | go h1 h2 h3 =>
    intro z
    have := KA.row h2
    have z2 := (emptied_row _ _).mp z
    exact h (by rw [← show _ = s.row from this]; exact z2)
theorem ok_work {L : Nat} {ask : AskR} (KA : AskOk ask) {fa : Addr} {fd : FuncData} (F : Fun K "work" "Hall.work" s_Hall_work fa fd) (T : Txt K mg CT CH) (G_Hall_turn : MDef P w K mg base L CH "turn" ["self", "thing"] (lSp K (dTurn CT CH en ask))) :
    FnOk P w K mg base CX0 (L + 1) fa fd ["self"] (lSp K (dWork CT CH en ask)) := by
  refine dok F sc_Hall_work (fun ds S q qx ⟨H, s, f, s', e, _⟩ => by rw [e]; rfl) ⟨_, fun cdv A outer s H E hr => dss_cons (ds_while PassesOwn.never (dt_cmp op_gt si_gt (de_callB call_len (si_len rfl) (by rfl) T.len (by decide +kernel) (da_cons (de_fld T.Hall_ (by decide +kernel) (de_var 0)) da_nil)) (de_int) (nomark _))
        (dss_one (ds_expr (de_meth T.Hall_ G_Hall_turn (hr.mono (by omega)) (de_var 0) (da_cons (de_ml PySem.F.slot_list_pop PySem.F.type_list_pop mt_popAt si_pop0 (de_fld T.Hall_ (by decide +kernel) (de_var 0)) (da_cons (de_int) da_nil)) da_nil)))))
      (dss_one (ds_fld T.Hall_ (by decide +kernel) (de_var 0) (de_non))), fun ds S q qx ⟨H, s, f, s', hd, R, W, hw, hq⟩ => ?_⟩
  subst hd
  walk_at "dl"
  refine whlOf (fun f δ S' => ∃ H' si, δ = [some (.ref (H.a .hall))] ∧ HTr CT CH en H s S H' si S' ∧ Wf si ∧ Work ask f si s') f ⟨H, s, rfl, HTr.refl R, W, hw⟩ ?_
  rintro f δ S' ⟨H', si, rfl, T1, W1, hw⟩
  have hh := hrep_hall T1.rep
  rw [T1.hall] at hh
  cases hw with
  | done h =>
    have hrow := hrep_row T1.rep h
    rw [h] at hh
    walk_at "dl"
    refine fldOf hh ha_row ?_
    simp only [rowD]
    walk_at "dl"
    refine lenRf hrow ?_
    walk_at "dl"
    rw [show decide ((0 : Int) < ((0 : Nat) : Int)) = false from rfl]
    walk_at "dl"
    refine fldsOf hh (Nat.le_of_ble_eq_true rfl) ?_
    rw [ha_row']
    have T2 := HTr.noRow T1.rep
    rw [T1.hall] at T2
    walk_at "dl"
    exact hq H' _ (T1.trans T2)
  | @step f n r _ s1 _ h1 h2 h3 =>
    have hrow := hrep_row T1.rep h1
    rw [h1] at hh
    walk_at "dl"
    refine fldOf hh ha_row ?_
    simp only [rowD]
    walk_at "dl"
    refine lenRf hrow ?_
    walk_at "dl"
    rw [show decide ((0 : Int) < (((r.map fun n => D.ref (H'.a (.t n))).length + 1 : Nat) : Int)) = true from decide_eq_true (by omega)]
    walk_at "dl"
    refine needOf (methOf (x := .non) hh rfl) ?_
    walk_at "dl"
    refine fldOf hh ha_row ?_
    simp only [rowD]
    walk_at "dl"
    refine needOf (isLOf hrow) ?_
    walk_at "dl"
    refine pop0Of hrow ?_
    have T2 := HTr.setRow T1.rep h1 r
    obtain ⟨w1, w2, w3⟩ := W1.rowTail h1
    have hb := W1.win n w3
    walk_at "dl"
    refine ⟨H', _, n, s1, by rw [T1.hall], T2.rep, w1, hb.1, hb.2, nofun, fun l hl => (by cases hl; exact w2), h2, fun H2 S2 T3 => ⟨f, Nat.lt_succ_self f, H2, s1, rfl, (T1.trans T2).trans T3, (Turn.wf KA h2 w1 fun l hl => (by cases hl; exact w2)).1, h3⟩⟩
/-- a thing whose last hold is loosed -/
def dLetGo (CT CH : Addr) (en : D) (ask : AskR) : SpD := fun ds S k _ => ∃ (H : HA) (s : Hs) (n : Nat) (s' : Hs), ds = [.ref (H.a .hall), .ref (H.a (.t n))] ∧ HRep CT CH en H s S ∧ Wf s ∧ 1 ≤ n ∧ n ≤ s.many ∧ s.cnt n = 0 ∧
  ((s.enqs n = false ∧ s' = s) ∨ (s.enqs n = true ∧ s.row ≠ none ∧ s' = s.enq n) ∨ (s.enqs n = true ∧ s.row = none ∧ ∃ f, Work ask f { s.enq n with row := some [n] } s')) ∧ ∀ H' S', HTr CT CH en H s S H' s' S' → k .non S'
theorem ok_let_go {L : Nat} {ask : AskR} (KA : AskOk ask) {fa : Addr} {fd : FuncData} (F : Fun K "let_go" "Hall.let_go" s_Hall_let_go fa fd) (T : Txt K mg CT CH) (G_Hall_work : MDef P w K mg base L CH "work" ["self"] (lSp K (dWork CT CH en ask))) : FnOk P w K mg base CX0 (L + 1) fa fd ["self", "thing"] (lSp K (dLetGo CT CH en ask)) := by
  refine dok F sc_Hall_let_go (fun ds S q qx ⟨H, s, n, s', e, _⟩ => by rw [e]; rfl) ⟨_, fun cdv A outer s H E hr => dss_cons (ds_if (PW.pt (dw_or (dt_val (de_fld T.Thing_ (by decide +kernel) (de_var 1))) (dw_or1 (dt_dinN (hu_of hr) (de_fld T.Thing_ (by decide +kernel) (de_var 1)) (de_fld T.Hall_ (by decide +kernel) (de_var 0))))))
        (dss_one (ds_retN))
        (dss_nil))
      (dss_cons (ds_fld T.Thing_ (by decide +kernel) (de_var 1) (de_bl))
      (dss_one (ds_if (dt_cmp op_isN si_isN (de_fld T.Hall_ (by decide +kernel) (de_var 0)) (de_non) (nomark _))
        (dss_cons (ds_fld T.Hall_ (by decide +kernel) (de_var 0) (de_new (da_cons (de_var 1) da_nil)))
        (dss_one (ds_expr (de_meth0 T.Hall_ G_Hall_work (hr.mono (by omega)) (de_var 0)))))
        (dss_one (ds_expr (de_ml PySem.F.slot_list_append PySem.F.type_list_append mt_append si_app (de_fld T.Hall_ (by decide +kernel) (de_var 0)) (da_cons (de_var 1) da_nil))))))), fun ds S q qx ⟨H, s, n, s', hd, R, W, h1, h2, hc, ht, hq⟩ => ?_⟩
  subst hd
  have e := hrep_t R h1 h2
  walk_at "dl"
  refine fldOf e th_waits ?_
  by_cases hw : n ∈ s.waits
  · rw [decide_eq_true hw]
    have hf : s.enqs n = false := by unfold Hs.enqs; simp [hw]
    walk_at "dl"
    rcases ht with ⟨_, rfl⟩ | ⟨h, _⟩ | ⟨h, _⟩
    · exact hq H _ (HTr.refl R)
    · rw [hf] at h; cases h
    · rw [hf] at h; cases h
  rw [decide_eq_false hw]
  walk_at "dl"
  refine fldOf e th_number ?_
  walk_at "dl"
  refine fldOf (hrep_hall R) ha_there ?_
  walk_at "dl"
  refine dninOf (hrep_th R) rfl ?_
  rw [there_some]
  by_cases hth : n ∈ s.there
  rotate_left
  · rw [decide_eq_false hth]
    have hf : s.enqs n = false := by unfold Hs.enqs; simp [hth]
    walk_at "dl"
    rcases ht with ⟨_, rfl⟩ | ⟨h, _⟩ | ⟨h, _⟩
    · exact hq H _ (HTr.refl R)
    · rw [hf] at h; cases h
    · rw [hf] at h; cases h
  rw [decide_eq_true hth]
  have hf : s.enqs n = true := by unfold Hs.enqs; simp [hth, hw, hc]
  walk_at "dl"
  refine fldsOf e (Nat.le_of_ble_eq_true rfl) ?_
  rw [th_waits']
  have T1 := HTr.wait R h1 h2 (s.waits ++ [n]) fun i hi => by simp [hi]
  rw [decide_eq_true (show n ∈ s.waits ++ [n] by simp)] at T1
  have hh := hrep_hall T1.rep
  dsimp only at hh
  rcases ht with ⟨h, _⟩ | ⟨_, hr, rfl⟩ | ⟨_, hr, f, hwk⟩
  · rw [hf] at h; cases h
  · obtain ⟨l, hl⟩ : ∃ l, s.row = some l := Option.ne_none_iff_exists'.mp hr
    rw [hl] at hh
    walk_at "dl"
    refine fldOf hh ha_row ?_
    simp only [rowD]
    walk_at "dl"
    refine fldOf hh ha_row ?_
    simp only [rowD]
    walk_at "dl"
    have hrow := hrep_row T1.rep (l := l) hl
    refine needOf (isLOf hrow) ?_
    walk_at "dl"
    refine appOf hrow (by rw [List.length_map]; have := row_len W hl; omega) ?_
    have T2 := HTr.setRow T1.rep (l0 := l) hl (l ++ [n])
    rw [List.map_append] at T2
    refine hq H _ (T1.trans ?_)
    have : s.enq n = { s with waits := s.waits ++ [n], row := some (l ++ [n]) } := by unfold Hs.enq; rw [hl]; rfl
    rw [this]
    exact T2
  · rw [hr] at hh
    walk_at "dl"
    refine fldOf hh ha_row ?_
    simp only [rowD]
    walk_at "dl"
    refine freshOf fun p hp => ?_
    have np : H.a .hall ≠ p := sto_ne hh hp
    walk_at "dl"
    refine fldsOf (by rw [put_ne np]; exact hh) (Nat.le_of_ble_eq_true rfl) ?_
    rw [ha_row']
    have T2 := HTr.begun T1.rep hr hp [n]
    walk_at "dl"
    have hh2 := hrep_hall T2.rep
    rw [T2.hall] at hh2
    refine needOf (methOf (x := .non) hh2 rfl) ?_
    walk_at "dl"
    have W1 := W.enq hf
    exact ⟨_, _, f, s', by rw [T2.hall], T2.rep, ⟨W1.nd, W1.tin, W1.len, W1.most, W1.key, W1.plen, W1.pv, W1.wnd, W1.win, fun l hl => by
      cases hl
      exact ⟨by simp, fun i hi => by rw [List.mem_singleton.mp hi]; exact List.mem_append_right _ (List.mem_singleton.mpr rfl)⟩, W1.pz, W1.az, W1.kok⟩, hwk, fun H' S' T3 => hq H' S' ((T1.trans T2).trans T3)⟩
def dLoose (CT CH : Addr) (en : D) (ask : AskR) : SpD := fun ds S k _ => ∃ (H : HA) (s : Hs) (v : Vl) (s' : Hs), ds = [.ref (H.a .hall), vD H v] ∧ HRep CT CH en H s S ∧ Wf s ∧ VOk s.many v ∧ Loose ask s v s' ∧ ∀ H' S', HTr CT CH en H s S H' s' S' → k .non S'
theorem ok_loose {L : Nat} {ask : AskR} {fa : Addr} {fd : FuncData} (F : Fun K "loose" "Hall.loose" s_Hall_loose fa fd) (T : Txt K mg CT CH) (G_Hall_let_go : MDef P w K mg base L CH "let_go" ["self", "thing"] (lSp K (dLetGo CT CH en ask))) : FnOk P w K mg base CX0 (L + 1) fa fd ["self", "value"] (lSp K (dLoose CT CH en ask)) := by
  refine dok F sc_Hall_loose (fun ds S q qx ⟨H, s, v, s', e, _⟩ => by rw [e]; rfl) ⟨_, fun cdv A outer s H E hr => dss_one (ds_if (dt_val (de_callB (clIsi' (K := K)) (si_isiC T.ThingI) (by rfl) T.isinstance (by decide +kernel) (da_cons (de_var 1) (da_cons (de_gl (by rfl) T.Thing) da_nil))))
        (dss_cons (ds_fldaug T.Thing_ (by decide +kernel) (de_var 1) (de_int) in_sub)
        (dss_one (ds_if (dt_cmp op_eq si_eq (de_fld T.Thing_ (by decide +kernel) (de_var 1)) (de_int) (nomark _))
          (dss_one (ds_expr (de_meth T.Hall_ G_Hall_let_go (hr.mono (by omega)) (de_var 0) (da_cons (de_var 1) da_nil))))
          (dss_nil))))
        (dss_nil)), fun ds S q qx ⟨H, s, v, s', hd, R, W, hv, ht, hq⟩ => ?_⟩
  subst hd
  cases v with
  | no d =>
    have hn : NoTh d := hv
    cases ht
    walk_at "dl"
    cases hn <;> (simp only [vD]; walk_at "dl"; exact hq H _ (HTr.refl R))
  | th n =>
    have e := hrep_t R hv.1 hv.2
    walk_at "dl"
    simp only [vD]
    rw [x_own e]
    walk_at "dl"
    refine fldOf e th_count ?_
    walk_at "dl"
    refine fldsOf e (Nat.le_of_ble_eq_true rfl) ?_
    rw [th_count']
    have T1 : HTr CT CH en H s S H (s.dec n) _ := HTr.cnt R hv.1 hv.2 (s.cnt n - 1)
    walk_at "dl"
    refine fldOf put_same th_count ?_
    walk_at "dl"
    have ed : (s.dec n).cnt n = s.cnt n - 1 := DL.fset_same
    by_cases z : s.cnt n - 1 = 0
    · rw [decide_eq_true z]
      walk_at "dl"
      refine needOf (methOf (x := .non) (hrep_hall T1.rep) rfl) ?_
      walk_at "dl"
      refine ⟨H, s.dec n, n, s', rfl, T1.rep, W.dec n, hv.1, hv.2, by rw [ed]; exact z, ?_, fun H' S' T2 => hq H' S' (T1.trans T2)⟩
      cases ht with
      | kept h => exact .inl ⟨h, rfl⟩
      | wait h h' => exact .inr (.inl ⟨h, h', rfl⟩)
      | work h h' hw => exact .inr (.inr ⟨h, h', _, hw⟩)
    · rw [decide_eq_false z]
      have hf : (s.dec n).enqs n = false := by unfold Hs.enqs; rw [ed]; simp [z]
      walk_at "dl"
      cases ht with
      | kept h => exact hq H _ T1
      | wait h h' => rw [hf] at h; cases h
      | work h h' hw => rw [hf] at h; cases h
end
end K

set_option Elab.async false
set_option linter.all false
set_option maxRecDepth 100000
namespace K
open PySem L2 Evl EX DL HM
section
variable {P : Program} {w : World} {K : PySem.W.Frag} {mg : Str → Option Value} {base : Heap} {CT CH : Addr} {en : D}
local macro_rules | `(tactic| walk_at "dl") => `(tactic| try simp only [↓x_forS, ↓x_diSL, ↓x_diKeys, ↓x_lock, ↓x_dictP, ↓x_fld, ↓x_fldS, ↓x_fldA, ↓x_meth, ↓x_make, ↓x_dget, ↓x_din, ↓x_dget1, ↓x_dget2, ↓x_dpop, ↓x_dput, ↓x_listD, ↓x_sortDI, ↓x_lenD, ↓x_isiC, x_icS, x_icI, x_icB, x_icN, x_ioS, x_ioI, x_ioB, x_ioN, ↓x_gSub, ↓x_sortDL, ↓x_eqO, ↓x_ninA, x_catN, x_isBB, x_isBN, x_isBI, x_isBS, x_isBR, ↓x_seq, ↓x_nx, ↓x_pass, ↓x_brk, ↓x_cnt, ↓x_drop, ↓x_ret, ↓x_retN, ↓x_ifS, ↓x_set, ↓x_asg, ↓x_gN, ↓x_gT, ↓x_gsC, ↓x_gsN, ↓x_var, x_rdv, ↓x_c, ↓x_op, ↓x_test, x_tst, ↓x_and, ↓x_or, ↓x_not, ↓x_andV, ↓x_orV, ↓x_notV, x_tstV, ↓x_ifE, x_true, x_false, ↓x_nil, ↓x_cons, ↓x_tup, ↓x_lst, ↓x_new, ↓x_newD, ↓x_call, ↓x_cb, x_oI, x_oIc, x_oS, x_addS, x_isN, x_notN, x_eqI, x_eqS, x_eqIS, x_eqSI, x_eqNS, x_neI, x_neS, x_neB, x_eqB, x_few, x_need, ↓x_ix, x_lenS, x_ixL0, x_ixT0, x_ixT1, x_ixT2, x_ixT3, x_ixT4, x_lenL, x_lenT, x_lenC, x_listL, x_listT, x_tupL, x_tupT, x_strI, x_strS, x_int1, x_intB, x_I1, x_I2, x_cat, x_catT, ↓x_split, ↓x_for, ↓x_cut, ↓x_lc, ↓x_whl, ↓x_diL, ↓x_diT, ↓x_diS, x_itL, x_itC, x_itT, x_itS, ↓x_diR1, ↓x_diR2, ↓x_diE, x_enmL, x_enmC, ↓x_gcN, ↓x_gcT, ↓x_yes, ↓x_ml, ↓x_ms, x_strq, x_ss, x_ssc, x_ssi, ↓x_join, ↓x_aug, x_st2I, ↓x_sl, ↓x_noP, ↓x_part, x_intq, x_slL, x_slC, x_slS, ↓x_in, x_inT, x_inL, x_ninT, x_ninL, x_inN, x_inSS, x_inSI, x_inIS, x_inII, ↓x_sg, x_sgS, x_nsgS, ↓x_eqD, ↓x_inDD, x_mulS, ↓x_isi, x_isiS, x_isiI, x_isiB, x_isiN, x_isiL, x_isiT, ↓x_isTT, x_itI, x_itStr, x_itN, x_itB, x_itLst, x_itTup, ↓x_any, ↓x_all, ↓x_sum, ↓x_srtI, ↓x_srtS, ↓x_intS, ↓x_lenRf, ↓x_tupRf, ↓x_frz', x_flS, x_flI, x_flN, x_flB, x_cs_bool, x_isB_NoneType_bool, x_isB_bool_bool, x_isB_int_bool, x_isB_str_bool, x_isB_list_bool, x_isB_tuple_bool, x_isB_dict_bool, x_cs_int, x_isB_NoneType_int, x_isB_bool_int, x_isB_int_int, x_isB_str_int, x_isB_list_int, x_isB_tuple_int, x_isB_dict_int, x_cs_str, x_isB_NoneType_str, x_isB_bool_str, x_isB_int_str, x_isB_str_str, x_isB_list_str, x_isB_tuple_str, x_isB_dict_str, x_cs_list, x_isB_NoneType_list, x_isB_bool_list, x_isB_int_list, x_isB_str_list, x_isB_list_list, x_isB_tuple_list, x_isB_dict_list, x_cs_tuple, x_isB_NoneType_tuple, x_isB_bool_tuple, x_isB_int_tuple, x_isB_str_tuple, x_isB_list_tuple, x_isB_tuple_tuple, x_isB_dict_tuple, x_cs_dict, x_isB_NoneType_dict, x_isB_bool_dict, x_isB_int_dict, x_isB_str_dict, x_isB_list_dict, x_isB_tuple_dict, x_isB_dict_dict, List.all_cons, List.all_nil, Bool.and_self, Bool.or_false, Bool.or_true, Bool.false_or, Bool.true_or, wipeD, setD, DL.isNon, List.set_cons_zero, List.set_cons_succ, List.getElem?_cons_zero, List.getElem?_cons_succ, List.length_cons, List.length_nil, Nat.zero_add, List.cons_append, List.nil_append, decide_true, decide_false, Bool.not_true, Bool.not_false, true_and, and_true, startD, List.map_cons, List.map_nil, Nat.reduceSub, Nat.reduceLeDiff, Nat.zero_le, Int.reduceLT, Int.reduceLE, and_self, Nat.reduceAdd, List.replicate])
def dMake (CT CH : Addr) (en : D) : SpD := fun ds S k _ => ∃ (H : HA) (s : Hs) (form : Str) (own : D), ds = [.ref (H.a .hall), .str form, own] ∧ HRep CT CH en H s S ∧ Wf s ∧ ∀ H' S', HTr CT CH en H s S H' (s.made (.str form) own) S' → k (.ref (H'.a (.t (s.many + 1)))) S'
theorem there_new {H : HA} {s : Hs} (W : Wf s) : gval (s.there.map fun n : Nat => ((.inl (n : Int), .ref (H.a (.t n))) : Key × D)) (.inl ((s.many : Int) + 1)) = none := by
  unfold gval
  rw [Option.map_eq_none_iff, List.find?_eq_none]
  intro x hx
  obtain ⟨n, hn, rfl⟩ := List.mem_map.mp hx
  have := W.tin n hn
  rw [decide_eq_true_iff]
  intro z
  have := Sum.inl.inj z
  omega
theorem ok_make {fa : Addr} {fd : FuncData} (F : Fun K "make" "Hall.make" s_Hall_make fa fd) (T : Txt K mg CT CH) (G_mk_Thing : MkDef P w K mg base 1 "Thing" CT ["self", "form", "number", "own"] (lSp K (dThInit CT))) :
    FnOk P w K mg base CX0 3 fa fd ["self", "form", "own"] (lSp K (dMake CT CH en)) := by
  refine dok F sc_Hall_make (fun ds S q qx ⟨H, s, form, own, e, _⟩ => by rw [e]; rfl) ⟨_, fun cdv A outer s H E hr => dss_cons (ds_fldaug T.Hall_ (by decide +kernel) (de_var 0) (de_int) in_add)
      (dss_cons (ds_set (i := 3) sc_Hall_make.nd rfl (Or.inl rfl) (de_make G_mk_Thing (hr.mono (by decide)) (by rfl) (da_cons (de_var 1) (da_cons (de_fld T.Hall_ (by decide +kernel) (de_var 0)) (da_cons (de_var 2) da_nil)))))
      (dss_cons (ds_dput (hu_of hr) (de_fld T.Hall_ (by decide +kernel) (de_var 0)) (de_fld T.Thing_ (by decide +kernel) (de_var 3)) (de_var 3))
      (dss_one (ds_ret (de_var 3))))), fun ds S q qx ⟨H, s, form, own, hd, R, W, hq⟩ => ?_⟩
  subst hd
  have hh := hrep_hall R
  have ht := hrep_th R
  have nht : H.a .hall ≠ H.a .th := R.ne nofun nofun nofun
  walk_at "dl"
  refine fldOf hh ha_many ?_
  walk_at "dl"
  refine fldsOf hh (Nat.le_of_ble_eq_true rfl) ?_
  rw [ha_many']
  walk_at "dl"
  refine fldOf put_same ha_many ?_
  walk_at "dl"
  refine freshOf fun t n1 dt => ?_
  have nth : H.a .hall ≠ t := sto_ne put_same n1
  rw [put_ne nth.symm] at n1
  refine ⟨t, dt, form, (s.many : Int) + 1, own, rfl, put_same, fun pd n2 => ⟨rfl, ?_⟩⟩
  have ntp : t ≠ pd := sto_ne put_same n2
  rw [put_ne ntp.symm] at n2
  have nhp : H.a .hall ≠ pd := sto_ne put_same n2
  rw [put_ne nhp.symm] at n2
  have e1 : H.a .th ≠ t := sto_ne ht n1
  have e2 : H.a .th ≠ pd := sto_ne ht n2
  walk_at "dl"
  refine fldOf (by rw [put_ne nth, put_ne nhp, put_ne nth]; exact put_same) ha_there ?_
  walk_at "dl"
  refine fldOf put_same th_number ?_
  walk_at "dl"
  refine dputOf (kvs := s.there.map fun n : Nat => ((.inl (n : Int), .ref (H.a (.t n))) : Key × D)) (by rw [put_ne e1, put_ne e2, put_ne e1, put_ne nht.symm]; exact ht) rfl (by rw [List.length_map]; have := W.len; have := W.most; omega) ?_
  rw [gput_new (there_new W)]
  walk_at "dl"
  have key : ∀ S' : Sto, S' t = some (.ins CT dt (thFs (.str form) (.int ((s.many : Int) + 1)) (.int 0) (.ref pd) own (.bl false) (.bl false))) → S' pd = some (.dct []) → S' (H.a .hall) = some (.ins CH H.dx (haFs en (.int ((s.many : Int) + 1)) (.ref (H.a .th)) (.ref (H.a .lf)) (rowD H s.row) (.int (s.lasts : Int)))) →
      S' (H.a .th) = some (.dct (s.there.map (fun n : Nat => ((.inl (n : Int), .ref (H.a (.t n))) : Key × D)) ++ [((.inl ((s.many : Int) + 1) : Key), .ref t)])) → (∀ b, b ≠ t → b ≠ pd → b ≠ H.a .hall → b ≠ H.a .th → S' b = S b) → q (.ref t) S' := fun S' g1 g2 g3 g4 g5 => by
    have T1 := HTr.make (form := .str form) (own := own) R W (t := t) (pd := pd) (dt := dt) (W.pz _ (Nat.lt_succ_self _)) (fun z => by have := W.win _ z; omega) (fun z => by have := W.az _ z; omega) n1 n2 ntp g1 g2 g3 g4 g5
    have := hq _ _ T1
    rw [show (({ H with a := fun x => if x = HL.t (s.many + 1) then t else if x = .pd (s.many + 1) then pd else H.a x, dt := DL.fset H.dt (s.many + 1) dt } : HA).a (.t (s.many + 1))) = t from if_pos rfl] at this
    exact this
  refine key _ ?_ ?_ ?_ put_same fun b b1 b2 b3 b4 => ?_
  · rw [put_ne e1.symm]; exact put_same
  · rw [put_ne e2.symm, put_ne ntp.symm]; exact put_same
  · rw [put_ne nht, put_ne nth, put_ne nhp, put_ne nth]; exact put_same
  · rw [put_ne b4, put_ne b1, put_ne b2, put_ne b1, put_ne b3]
theorem gval_vD {H : HA} {l : List (Key × Vl)} {k : Key} : gval (l.map fun kv => ((kv.1, vD H kv.2) : Key × D)) k = (gval l k).map (vD H) := by
  induction l with
  | nil => rfl
  | cons kv l ih =>
    unfold gval at ih ⊢
    rw [List.map_cons, List.find?_cons, List.find?_cons]
    by_cases z : kv.1 = k
    · simp only [z, decide_true]
      rfl
    · simp only [z, decide_false]
      exact ih
theorem gput_vD {H : HA} {l : List (Key × Vl)} {k : Key} {v : Vl} : gput (l.map fun kv => ((kv.1, vD H kv.2) : Key × D)) k (vD H v) = (gput l k v).map fun kv => ((kv.1, vD H kv.2) : Key × D) := by
  unfold gput
  have : ((l.map fun kv => ((kv.1, vD H kv.2) : Key × D)).any fun kv => decide (kv.1 = k)) = l.any fun kv => decide (kv.1 = k) := by rw [List.any_map]; rfl
  rw [this]
  split
  · rw [List.map_map, List.map_map]
    refine List.map_congr_left fun kv _ => ?_
    show (if kv.1 = k then (kv.1, vD H v) else (kv.1, vD H kv.2)) = ((if kv.1 = k then (kv.1, v) else kv).1, vD H (if kv.1 = k then (kv.1, v) else kv).2)
    split <;> rfl
  · rw [List.map_append]
    rfl
def dPut (CT CH : Addr) (en : D) (ask : AskR) : SpD := fun ds S k _ => ∃ (H : HA) (s : Hs) (n : Nat) (key : D) (ky : Key) (v : Vl) (s' : Hs), ds = [.ref (H.a .hall), .ref (H.a (.t n)), key, vD H v] ∧ HRep CT CH en H s S ∧ Wf s ∧ 1 ≤ n ∧ n ≤ s.many ∧ keyD key = some ky ∧ (dK ky).any = true ∧ VOk s.many v ∧ (s.parts n).length < 90000 ∧
  Loose ask (s.putP n ky v) (oldP s n ky) s' ∧ ∀ H' S', HTr CT CH en H s S H' s' S' → k .non S'
theorem ok_put {L : Nat} {ask : AskR} (hL : 1 ≤ L) {fa : Addr} {fd : FuncData} (F : Fun K "put" "Hall.put" s_Hall_put fa fd) (T : Txt K mg CT CH) (G_Hall_hold : MDef P w K mg base 1 CH "hold" ["self", "value"] (lSp K (dHold CT CH en))) (G_Hall_loose : MDef P w K mg base L CH "loose" ["self", "value"] (lSp K (dLoose CT CH en ask))) :
    FnOk P w K mg base CX0 (L + 1) fa fd ["self", "thing", "key", "value"] (lSp K (dPut CT CH en ask)) := by
  refine dok F sc_Hall_put (fun ds S q qx ⟨H, s, n, key, ky, v, s', e, _⟩ => by rw [e]; rfl) ⟨_, fun cdv A outer s H E hr => dss_cons (ds_set (i := 4) sc_Hall_put.nd rfl (Or.inl rfl) (de_dgets1 (hu_of hr) (de_fld T.Thing_ (by decide +kernel) (de_var 1)) (de_var 2)))
      (dss_cons (ds_expr (de_meth T.Hall_ G_Hall_hold (hr.mono (by omega)) (de_var 0) (da_cons (de_var 3) da_nil)))
      (dss_cons (ds_dput (hu_of hr) (de_fld T.Thing_ (by decide +kernel) (de_var 1)) (de_var 2) (de_var 3))
      (dss_one (ds_expr (de_meth T.Hall_ G_Hall_loose (hr.mono (by omega)) (de_var 0) (da_cons (de_var 4) da_nil)))))), fun ds S q qx ⟨H, s, n, key, ky, v, s', hd, R, W, h1, h2, hk, hka, hv, hl, ht, hq⟩ => ?_⟩
  subst hd
  have hp := hrep_pd R h1 h2
  walk_at "dl"
  refine fldOf (hrep_t R h1 h2) th_parts (isDOf hp ?_)
  walk_at "dl"
  refine dgorOf hp hk ?_
  have eo : (gval ((s.parts n).map fun kv => ((kv.1, vD H kv.2) : Key × D)) ky).getD .non = vD H (oldP s n ky) := by
    rw [gval_vD]
    unfold oldP
    cases gval (s.parts n) ky <;> rfl
  rw [eo]
  walk_at "dl"
  refine needOf (methOf (x := .non) (hrep_hall R) rfl) ?_
  walk_at "dl"
  refine ⟨H, s, v, rfl, R, hv, fun S1 T1 => ?_⟩
  have h2' : n ≤ (s.held v).many := by rw [held_many]; exact h2
  have hp1 := hrep_pd T1.rep h1 h2'
  rw [held_parts] at hp1
  walk_at "dl"
  refine fldOf (hrep_t T1.rep h1 h2') th_parts ?_
  walk_at "dl"
  refine dputOf hp1 hk (by rw [List.length_map]; omega) ?_
  rw [gput_vD]
  have T2 := HTr.parts T1.rep h1 h2' (gput (s.parts n) ky v)
  rw [held_parts] at T2
  have T2' : HTr CT CH en H s S H (s.putP n ky v) _ := T1.trans T2
  have W2 := W.putP (k := ky) h2 hv hka hl
  walk_at "dl"
  refine needOf (methOf (x := .non) (hrep_hall T2'.rep) rfl) ?_
  walk_at "dl"
  refine ⟨H, s.putP n ky v, oldP s n ky, s', rfl, T2'.rep, W2, ?_, ht, fun H' S' T3 => hq H' S' (T2'.trans T3)⟩
  have := oldP_ok W n ky
  show VOk (s.held v).many _
  rw [held_many]
  exact this
def dThings (CT CH : Addr) (en : D) : SpD := fun ds S k _ => ∃ (H : HA) (s : Hs), ds = [.ref (H.a .hall)] ∧ HRep CT CH en H s S ∧ Wf s ∧ ∀ ys : List Int, ys.Perm (s.there.map fun n : Nat => (n : Int)) → ys.Pairwise (· ≤ ·) → k (.list (ys.map D.int)) S
theorem ok_things {fa : Addr} {fd : FuncData} (F : Fun K "things" "Hall.things" s_Hall_things fa fd) (T : Txt K mg CT CH) : FnOk P w K mg base CX0 1 fa fd ["self"] (lSp K (dThings CT CH en)) := by
  refine dok F sc_Hall_things (fun ds S q qx ⟨H, s, z, _⟩ => by rw [z]; rfl) ⟨_, fun cdv A outer s H E hr => dss_one (ds_ret (de_callB (SD.call_sortedDL rfl) si_sortDL (by rfl) T.sorted (by decide +kernel) (da_cons (de_fld T.Hall_ (by decide +kernel) (de_var 0)) da_nil))), fun ds S q qx ⟨H, s, hd, R, W, hq⟩ => ?_⟩
  subst hd
  walk_at "dl"
  refine fldOf (hrep_hall R) ha_there ?_
  walk_at "dl"
  exact ⟨_, s.there.map fun n : Nat => (n : Int), hrep_th R, by rw [List.map_map, List.map_map]; rfl, by rw [List.length_map]; have := W.len; have := W.most; omega, hq⟩
def dGone (CT CH : Addr) (en : D) : SpD := fun ds S k _ => ∃ (H : HA) (s : Hs), ds = [.ref (H.a .hall)] ∧ HRep CT CH en H s S ∧ k (.list (s.left.map fun n : Nat => .int (n : Int))) S
theorem ok_gone {fa : Addr} {fd : FuncData} (F : Fun K "gone" "Hall.gone" s_Hall_gone fa fd) (T : Txt K mg CT CH) : FnOk P w K mg base CX0 1 fa fd ["self"] (lSp K (dGone CT CH en)) := by
  refine dok F sc_Hall_gone (fun ds S q qx ⟨H, s, z, _⟩ => by rw [z]; rfl) ⟨_, fun cdv A outer s H E hr => dss_one (ds_ret (de_callTy (clList (K := K)) si_list (by rfl) T.list (by decide +kernel) (da_cons (de_fld T.Hall_ (by decide +kernel) (de_var 0)) da_nil))), fun ds S q qx ⟨H, s, hd, R, hq⟩ => ?_⟩
  subst hd
  walk_at "dl"
  refine fldOf (hrep_hall R) ha_left ?_
  walk_at "dl"
  exact ⟨_, hrep_lf R, hq⟩
end
end K

set_option Elab.async false
set_option linter.all false
set_option maxRecDepth 100000
/-! ### what is reached (no program in sight) -/
namespace HM
open PySem L2 DL
inductive Rch (G : Nat → List Vl) (ws : List Vl) : Nat → Prop where
  | root {n : Nat} : Vl.th n ∈ ws → Rch G ws n
  | step {m n : Nat} : Rch G ws m → Vl.th n ∈ G m → Rch G ws n
def msum (f : Nat → Nat) : Nat → Nat
  | 0 => 0
  | m + 1 => msum f m + f (m + 1)
theorem msum_congr {f g : Nat → Nat} : ∀ {m : Nat}, (∀ i, 1 ≤ i → i ≤ m → f i = g i) → msum f m = msum g m
  | 0, _ => rfl
  | m + 1, h => by
    unfold msum
    rw [msum_congr fun i h1 h2 => h i h1 (Nat.le_succ_of_le h2), h (m + 1) (Nat.succ_le_succ (Nat.zero_le _)) (Nat.le_refl _)]
theorem msum_dec {f g : Nat → Nat} {n d : Nat} : ∀ {m : Nat}, 1 ≤ n → n ≤ m → f n = g n + d → (∀ i, i ≠ n → f i = g i) → msum f m = msum g m + d
  | 0, h1, h2, _, _ => by omega
  | m + 1, h1, h2, h, hne => by
    unfold msum
    by_cases z : n = m + 1
    · subst z
      rw [msum_congr (f := f) (g := g) fun i _ h2 => hne i (by omega), h]
      omega
    · rw [msum_dec h1 (by omega) h hne, hne (m + 1) (Ne.symm z)]
      omega
def unmet (G : Nat → List Vl) (ks : List Nat) (n : Nat) : Nat := if n ∈ ks then 0 else (G n).length + 1
/-- how much may come yet -/
def todo (G : Nat → List Vl) (m : Nat) (ks : List Nat) (ws : List Vl) : Nat := ws.length + msum (unmet G ks) m
structure RInv (G : Nat → List Vl) (m : Nat) (roots : List Vl) (ks : List Nat) (ws : List Vl) : Prop where
  nd : ks.Nodup
  snd : ∀ n ∈ ks, Rch G roots n
  snw : ∀ n, Vl.th n ∈ ws → Rch G roots n
  rt : ∀ n, Vl.th n ∈ roots → n ∈ ks ∨ Vl.th n ∈ ws
  st : ∀ k ∈ ks, ∀ n, Vl.th n ∈ G k → n ∈ ks ∨ Vl.th n ∈ ws
  okw : ∀ v ∈ ws, VOk m v
  okk : ∀ n ∈ ks, 1 ≤ n ∧ n ≤ m
section
variable {G : Nat → List Vl} {m : Nat} {roots ws : List Vl} {ks : List Nat} {n : Nat}
theorem RInv.begin (ok : ∀ v ∈ roots, VOk m v) : RInv G m roots [] roots :=
  ⟨List.nodup_nil, fun _ h => (by cases h), fun n h => .root h, fun n h => .inr h, fun k h => (by cases h), ok, fun _ h => (by cases h)⟩
theorem RInv.non {v : Vl} (I : RInv G m roots ks (ws ++ [v])) (h : ∀ n, v = .th n → n ∈ ks) : RInv G m roots ks ws := by
  have go : ∀ n, (n ∈ ks ∨ Vl.th n ∈ ws ++ [v]) → n ∈ ks ∨ Vl.th n ∈ ws := fun n h1 => by
    rcases h1 with h1 | h1
    · exact .inl h1
    · rcases List.mem_append.mp h1 with h1 | h1
      · exact .inr h1
      · exact .inl (h n (List.mem_singleton.mp h1).symm)
  exact ⟨I.nd, I.snd, fun n h1 => I.snw n (List.mem_append_left _ h1), fun n h1 => go n (I.rt n h1), fun k hk n h1 => go n (I.st k hk n h1), fun v h1 => I.okw v (List.mem_append_left _ h1), I.okk⟩
theorem RInv.met (I : RInv G m roots ks (ws ++ [.th n])) (h : n ∉ ks) (ok : ∀ v ∈ G n, VOk m v) : RInv G m roots (ks ++ [n]) (ws ++ G n) := by
  have hr : Rch G roots n := I.snw n (List.mem_append_right _ (List.mem_singleton.mpr rfl))
  have go : ∀ i, (i ∈ ks ∨ Vl.th i ∈ ws ++ [Vl.th n]) → i ∈ ks ++ [n] ∨ Vl.th i ∈ ws ++ G n := fun i h1 => by
    rcases h1 with h1 | h1
    · exact .inl (List.mem_append_left _ h1)
    · rcases List.mem_append.mp h1 with h1 | h1
      · exact .inr (List.mem_append_left _ h1)
      · have := List.mem_singleton.mp h1
        cases this
        exact .inl (List.mem_append_right _ (List.mem_singleton.mpr rfl))
  refine ⟨List.nodup_append.mpr ⟨I.nd, by simp, fun a ha b hb e => h (by rw [← List.mem_singleton.mp hb, ← e]; exact ha)⟩, fun i hi => ?_, fun i hi => ?_, fun i hi => go i (I.rt i hi), fun k hk i hi => ?_, fun v hv => ?_, fun i hi => ?_⟩
  · rcases List.mem_append.mp hi with hi | hi
    · exact I.snd i hi
    · rw [List.mem_singleton.mp hi]; exact hr
  · rcases List.mem_append.mp hi with hi | hi
    · exact I.snw i (List.mem_append_left _ hi)
    · exact .step hr hi
  · rcases List.mem_append.mp hk with hk | hk
    · exact go i (I.st k hk i hi)
    · rw [List.mem_singleton.mp hk] at hi
      exact .inr (List.mem_append_right _ hi)
  · rcases List.mem_append.mp hv with hv | hv
    · exact I.okw v (List.mem_append_left _ hv)
    · exact ok v hv
  · rcases List.mem_append.mp hi with hi | hi
    · exact I.okk i hi
    · rw [List.mem_singleton.mp hi]
      exact I.okw (.th n) (List.mem_append_right _ (List.mem_singleton.mpr rfl))
theorem RInv.done (I : RInv G m roots ks []) (n : Nat) : n ∈ ks ↔ Rch G roots n := by
  refine ⟨I.snd n, fun h => ?_⟩
  induction h with
  | root h =>
    rcases I.rt _ h with h | h
    · exact h
    · cases h
  | step _ h ih =>
    rcases I.st _ ih _ h with h | h
    · exact h
    · cases h
theorem todo_non {v : Vl} : todo G m ks ws + 1 = todo G m ks (ws ++ [v]) := by
  unfold todo
  rw [List.length_append, List.length_singleton]
  omega
theorem todo_met (h1 : 1 ≤ n) (h2 : n ≤ m) (h : n ∉ ks) : todo G m (ks ++ [n]) (ws ++ G n) + 2 = todo G m ks (ws ++ [.th n]) := by
  unfold todo
  have := msum_dec (f := unmet G ks) (g := unmet G (ks ++ [n])) (d := (G n).length + 1) h1 h2 (by
    unfold unmet
    rw [if_neg h, if_pos (List.mem_append_right _ (List.mem_singleton.mpr rfl))]
    omega) fun i hi => by
    unfold unmet
    have : i ∈ ks ++ [n] ↔ i ∈ ks := by simp [hi]
    simp only [this]
  rw [this, List.length_append, List.length_append, List.length_singleton]
  omega
theorem perm_len {ks : List Nat} (nd : ks.Nodup) (h : ∀ n ∈ ks, 1 ≤ n ∧ n ≤ m) : ks.length ≤ m := by
  have : ∀ (m : Nat) (ks : List Nat), ks.Nodup → (∀ n ∈ ks, 1 ≤ n ∧ n ≤ m) → ks.length ≤ m := by
    intro m
    induction m with
    | zero =>
      intro ks _ h
      cases ks with
      | nil => exact Nat.le_refl _
      | cons a l => have := h a (List.mem_cons_self ..); omega
    | succ m ih =>
      intro ks nd h
      have h1 := ih (ks.erase (m + 1)) (nd.erase _) fun n hn => by
        have := h n (List.mem_of_mem_erase hn)
        have h3 : n ≠ m + 1 := fun e => by subst e; exact nd.not_mem_erase hn
        omega
      have : ks.length ≤ (ks.erase (m + 1)).length + 1 := by
        by_cases z : m + 1 ∈ ks
        · rw [List.length_erase_of_mem z]; omega
        · rw [List.erase_of_not_mem z]; omega
      omega
  exact this m ks nd h
end
end HM

set_option Elab.async false
set_option linter.all false
set_option maxRecDepth 100000
namespace K
open PySem L2 Evl EX DL HM
abbrev s_Held___init__ : Stmt := inClass (top 3) 0
abbrev N_Held___init__ : List Str := ["self", "values"]
theorem sc_Held___init__ : FnScope N_Held___init__ ["self", "values"] (defScope s_Held___init__) := ⟨rfl, rfl, rfl, by decide +kernel, rfl, by decide +kernel, by decide +kernel⟩
abbrev s_Held_held : Stmt := inClass (top 3) 1
abbrev N_Held_held : List Str := ["self"]
theorem sc_Held_held : FnScope N_Held_held ["self"] (defScope s_Held_held) := ⟨rfl, rfl, rfl, by decide +kernel, rfl, by decide +kernel, by decide +kernel⟩
abbrev s_led_to : Stmt := top 6
abbrev N_led_to : List Str := ["thing", "values", "key"]
theorem sc_led_to : FnScope N_led_to ["thing"] (defScope s_led_to) := ⟨rfl, rfl, rfl, by decide +kernel, rfl, by decide +kernel, by decide +kernel⟩
abbrev s_reached : Stmt := top 7
abbrev N_reached : List Str := ["hall", "roots", "met", "waiting", "value"]
theorem sc_reached : FnScope N_reached ["hall", "roots"] (defScope s_reached) := ⟨rfl, rfl, rfl, by decide +kernel, rfl, by decide +kernel, by decide +kernel⟩
structure TxW (K : PySem.W.Frag) (mg : Str → Option Value) (CT CH CD : Addr) : Prop extends Txt K mg CT CH where
  Held : GlD K mg "Held" (.ref CD)
  Held_ : ClsD K CD ["has"]
  HeldI : IsiC K CD
/-- what holds values -/
def heFs (has : D) : List (Str × D) := [("has", has)]
theorem he_has {x : D} : (heFs x).lookup ("has" : Str) = some x := rfl
/-- what a thing's own leads to: nothing, or a holder's values -/
def OwnH (CD : Addr) (H : HA) (S : Sto) (d : D) : Option (List Vl) → Prop
  | none => NoTh d
  | some vs => ∃ h dx l, d = .ref h ∧ S h = some (.ins CD dx (heFs (.ref l))) ∧ S l = some (.lst (vs.map (vD H)))
/-- all that stood stays -/
def Kpt (S S' : Sto) : Prop := ∀ b, S b ≠ none → S' b = S b
theorem Kpt.refl {S : Sto} : Kpt S S := fun _ _ => rfl
theorem Kpt.trans {S S' S2 : Sto} (h : Kpt S S') (g : Kpt S' S2) : Kpt S S2 := fun b hb => by rw [g b (by rw [h b hb]; exact hb), h b hb]
theorem Kpt.put {S S' : Sto} (h : Kpt S S') {p : Addr} (hp : S p = none) (o : O) : Kpt S (put S' p o) := fun b hb => by rw [put_ne (fun z => hb (by rw [z]; exact hp))]; exact h b hb
theorem Kpt.at {S S' : Sto} (h : Kpt S S') {a : Addr} {o : O} (e : S a = some o) : S' a = some o := by rw [h a (nn e)]; exact e
theorem Kpt.tr {CT CH : Addr} {en : D} {H : HA} {s : Hs} {S S' : Sto} (R : HRep CT CH en H s S) (h : Kpt S S') : HTr CT CH en H s S H s S' :=
  ⟨⟨⟨fun {l o} e => h.at (R.at_ e), R.inj⟩, fun b hb _ => h b hb, fun b hb => by rw [h b hb]; exact hb, fun l hl => .inl ⟨hl, rfl⟩, fun _ _ _ => rfl⟩, Nat.le_refl _⟩
theorem OwnH.kpt {CD : Addr} {H : HA} {S S' : Sto} {d : D} {o : Option (List Vl)} (h : OwnH CD H S d o) (k : Kpt S S') : OwnH CD H S' d o := by
  cases o with
  | none => exact h
  | some vs =>
    obtain ⟨a, dx, l, e1, e2, e3⟩ := h
    exact ⟨a, dx, l, e1, k.at e2, k.at e3⟩
theorem gval_nodup {β : Type} {kv : Key × β} : ∀ {l : List (Key × β)}, (l.map (·.1)).Nodup → kv ∈ l → gval l kv.1 = some kv.2
  | [], _, h => by cases h
  | a :: l, nd, h => by
    rw [List.map_cons, List.nodup_cons] at nd
    unfold gval
    rw [List.find?_cons]
    rcases List.mem_cons.mp h with rfl | h
    · simp
    · have : a.1 ≠ kv.1 := fun e => nd.1 (by rw [e]; exact List.mem_map.mpr ⟨kv, h, rfl⟩)
      simp only [this, decide_false]
      exact gval_nodup nd.2 h
section
variable {P : Program} {w : World} {K : PySem.W.Frag} {mg : Str → Option Value} {base : Heap} {CT CH CD : Addr} {en : D}
local macro_rules | `(tactic| walk_at "dl") => `(tactic| try simp only [↓x_lcN, ↓x_lcSN, ↓x_catM, ↓x_neV, ↓x_sortSet, ↓x_sortDLN, ↓x_lrg, ↓x_neg, ↓x_lcS, ↓x_lockE, ↓x_eqA, ↓x_dictD, ↓x_disp, ↓x_pNil, ↓x_pCons, ↓x_forS, ↓x_diSL, ↓x_diKeys, ↓x_lock, ↓x_dictP, ↓x_fld, ↓x_fldS, ↓x_fldA, ↓x_meth, ↓x_make, ↓x_dget, ↓x_din, ↓x_dget1, ↓x_dget2, ↓x_dpop, ↓x_dput, ↓x_listD, ↓x_sortDI, ↓x_lenD, ↓x_isiC, x_icS, x_icI, x_icB, x_icN, x_ioS, x_ioI, x_ioB, x_ioN, ↓x_gSub, ↓x_sortDL, ↓x_eqO, ↓x_ninA, x_catN, x_isBB, x_isBN, x_isBI, x_isBS, x_isBR, ↓x_seq, ↓x_nx, ↓x_pass, ↓x_brk, ↓x_cnt, ↓x_drop, ↓x_ret, ↓x_retN, ↓x_ifS, ↓x_set, ↓x_asg, ↓x_gN, ↓x_gT, ↓x_gsC, ↓x_gsN, ↓x_var, x_rdv, ↓x_c, ↓x_op, ↓x_test, x_tst, ↓x_and, ↓x_or, ↓x_not, ↓x_andV, ↓x_orV, ↓x_notV, x_tstV, ↓x_ifE, x_true, x_false, ↓x_nil, ↓x_cons, ↓x_tup, ↓x_lst, ↓x_new, ↓x_newD, ↓x_call, ↓x_cb, x_oI, x_oIc, x_oS, x_addS, x_isN, x_notN, x_eqI, x_eqS, x_eqIS, x_eqSI, x_eqNS, x_neI, x_neS, x_neB, x_eqB, x_few, x_need, ↓x_ix, x_lenS, x_ixL0, x_ixT0, x_ixT1, x_ixT2, x_ixT3, x_ixT4, x_lenL, x_lenT, x_lenC, x_listL, x_listT, x_tupL, x_tupT, x_strI, x_strS, x_int1, x_intB, x_I1, x_I2, x_cat, x_catT, ↓x_split, ↓x_for, ↓x_cut, ↓x_lc, ↓x_whl, ↓x_diL, ↓x_diT, ↓x_diS, x_itL, x_itC, x_itT, x_itS, ↓x_diR1, ↓x_diR2, ↓x_diE, x_enmL, x_enmC, ↓x_gcN, ↓x_gcT, ↓x_yes, ↓x_ml, ↓x_ms, x_strq, x_ss, x_ssc, x_ssi, ↓x_join, ↓x_aug, x_st2I, ↓x_sl, ↓x_noP, ↓x_part, x_intq, x_slL, x_slC, x_slS, ↓x_in, x_inT, x_inL, x_ninT, x_ninL, x_inN, x_inSS, x_inSI, x_inIS, x_inII, ↓x_sg, x_sgS, x_nsgS, ↓x_eqD, ↓x_inDD, x_mulS, ↓x_isi, x_isiS, x_isiI, x_isiB, x_isiN, x_isiL, x_isiT, ↓x_isTT, x_itI, x_itStr, x_itN, x_itB, x_itLst, x_itTup, ↓x_any, ↓x_all, ↓x_sum, ↓x_srtI, ↓x_srtS, ↓x_intS, ↓x_lenRf, ↓x_tupRf, ↓x_frz', x_flS, x_flI, x_flN, x_flB, x_cs_bool, x_isB_NoneType_bool, x_isB_bool_bool, x_isB_int_bool, x_isB_str_bool, x_isB_list_bool, x_isB_tuple_bool, x_isB_dict_bool, x_cs_int, x_isB_NoneType_int, x_isB_bool_int, x_isB_int_int, x_isB_str_int, x_isB_list_int, x_isB_tuple_int, x_isB_dict_int, x_cs_str, x_isB_NoneType_str, x_isB_bool_str, x_isB_int_str, x_isB_str_str, x_isB_list_str, x_isB_tuple_str, x_isB_dict_str, x_cs_list, x_isB_NoneType_list, x_isB_bool_list, x_isB_int_list, x_isB_str_list, x_isB_list_list, x_isB_tuple_list, x_isB_dict_list, x_cs_tuple, x_isB_NoneType_tuple, x_isB_bool_tuple, x_isB_int_tuple, x_isB_str_tuple, x_isB_list_tuple, x_isB_tuple_tuple, x_isB_dict_tuple, x_cs_dict, x_isB_NoneType_dict, x_isB_bool_dict, x_isB_int_dict, x_isB_str_dict, x_isB_list_dict, x_isB_tuple_dict, x_isB_dict_dict, List.all_cons, List.all_nil, Bool.and_self, Bool.or_false, Bool.or_true, Bool.false_or, Bool.true_or, wipeD, setD, DL.isNon, List.set_cons_zero, List.set_cons_succ, List.getElem?_cons_zero, List.getElem?_cons_succ, List.length_cons, List.length_nil, Nat.zero_add, List.cons_append, List.nil_append, decide_true, decide_false, Bool.not_true, Bool.not_false, true_and, and_true, startD, List.map_cons, List.map_nil, Nat.reduceSub, Nat.reduceLeDiff, Nat.zero_le, Int.reduceLT, Int.reduceLE, and_self, Nat.reduceAdd, List.replicate])
def dHeInit (CD : Addr) : SpD := fun ds S k _ => ∃ (a dx : Addr) (vs : List D), ds = [.ref a, .list vs] ∧ vs.length ≤ 90000 ∧ S a = some (.ins CD dx []) ∧ ∀ l, S l = none → k .non (put (put S l (.lst vs)) a (.ins CD dx (heFs (.ref l))))
theorem ok_heinit {fa : Addr} {fd : FuncData} (F : Fun K "__init__" "Held.__init__" s_Held___init__ fa fd) (T : TxW K mg CT CH CD) : FnOk P w K mg base CX0 1 fa fd ["self", "values"] (lSp K (dHeInit CD)) := by
  refine dok F sc_Held___init__ (fun ds S q qx ⟨a, dx, vs, h, _⟩ => by rw [h]; rfl) ⟨_, fun cdv A outer s H E hr => dss_one (ds_fld T.Held_ (by decide +kernel) (de_var 0) (de_callTy (clList (K := K)) si_listN (by rfl) T.list (by decide +kernel) (da_cons (de_var 1) da_nil))), fun ds S q qx ⟨a, dx, vs, hd, hl, ha, h⟩ => ?_⟩
  subst hd
  walk_at "dl"
  refine ⟨vs, rfl, fun l hl' => ?_⟩
  walk_at "dl"
  refine fldsOf (by rw [put_ne (sto_ne ha hl')]; exact ha) (Nat.le_of_ble_eq_true rfl) ?_
  exact h l hl'
def dHeld (CD : Addr) : SpD := fun ds S k _ => ∃ (a dx l : Addr) (vs : List D), ds = [.ref a] ∧ S a = some (.ins CD dx (heFs (.ref l))) ∧ S l = some (.lst vs) ∧ k (.list vs) S
theorem ok_held {fa : Addr} {fd : FuncData} (F : Fun K "held" "Held.held" s_Held_held fa fd) (T : TxW K mg CT CH CD) : FnOk P w K mg base CX0 1 fa fd ["self"] (lSp K (dHeld CD)) := by
  refine dok F sc_Held_held (fun ds S q qx ⟨a, dx, l, vs, h, _⟩ => by rw [h]; rfl) ⟨_, fun cdv A outer s H E hr => dss_one (ds_ret (de_callTy (clList (K := K)) si_list (by rfl) T.list (by decide +kernel) (da_cons (de_fld T.Held_ (by decide +kernel) (de_var 0)) da_nil))), fun ds S q qx ⟨a, dx, l, vs, hd, ha, hl, h⟩ => ?_⟩
  subst hd
  walk_at "dl"
  refine fldOf ha he_has ?_
  walk_at "dl"
  exact ⟨vs, hl, h⟩
/-- the same, as a list that may change -/
def dHeldN (CD : Addr) : SpD := fun ds S k _ => ∃ (a dx l : Addr) (vs : List D), ds = [.ref a] ∧ S a = some (.ins CD dx (heFs (.ref l))) ∧ S l = some (.lst vs) ∧ ∀ p, S p = none → k (.ref p) (put S p (.lst vs))
theorem ok_heldN {fa : Addr} {fd : FuncData} (F : Fun K "held" "Held.held" s_Held_held fa fd) (T : TxW K mg CT CH CD) : FnOk P w K mg base CX0 1 fa fd ["self"] (lSp K (dHeldN CD)) := by
  refine dok F sc_Held_held (fun ds S q qx ⟨a, dx, l, vs, h, _⟩ => by rw [h]; rfl) ⟨_, fun cdv A outer s H E hr => dss_one (ds_ret (de_callTy (clList (K := K)) si_listN (by rfl) T.list (by decide +kernel) (da_cons (de_fld T.Held_ (by decide +kernel) (de_var 0)) da_nil))), fun ds S q qx ⟨a, dx, l, vs, hd, ha, hl, h⟩ => ?_⟩
  subst hd
  walk_at "dl"
  refine fldOf ha he_has ?_
  walk_at "dl"
  exact ⟨vs, hl, h⟩
/-- all that a thing leads to -/
def ledV (s : Hs) (hv : Nat → Option (List Vl)) (n : Nat) : List Vl := (s.parts n).map (·.2) ++ (hv n).getD []
def dLedTo (CT CH CD : Addr) (en : D) : SpD := fun ds S k _ => ∃ (H : HA) (s : Hs) (n : Nat) (hv : Nat → Option (List Vl)), ds = [.ref (H.a (.t n))] ∧ HRep CT CH en H s S ∧ Wf s ∧ 1 ≤ n ∧ n ≤ s.many ∧ OwnH CD H S (s.own n) (hv n) ∧ (ledV s hv n).length ≤ 90000 ∧
  ∀ S', Kpt S S' → k (.list ((ledV s hv n).map (vD H))) S'
theorem ok_ledto {fa : Addr} {fd : FuncData} (F : Fun K "led_to" "led_to" s_led_to fa fd) (T : TxW K mg CT CH CD) (G_Held_held : MDef P w K mg base 1 CD "held" ["self"] (lSp K (dHeld CD))) : FnOk P w K mg base CX0 2 fa fd ["thing"] (lSp K (dLedTo CT CH CD en)) := by
  refine dok F sc_led_to (fun ds S q qx ⟨H, s, n, hv, h, _⟩ => by rw [h]; rfl) ⟨_, fun cdv A outer s H E hr => dss_cons (ds_lock (ds_setLcSN (i := 1) (own := [("key", 2)]) (gc_name (j := 2) (by decide)) rfl sc_led_to.nd rfl rfl (sw_true rfl rfl rfl (by decide +kernel)) (di_keys (de_fld T.Thing_ (by decide +kernel) (de_var 0))) (blkOk_by (N := N_led_to) (sc := defScope s_led_to) (by decide +kernel)) (fun _ _ _ _ _ => pg_name (i := 2) sc_led_to.nd rfl (Or.inl rfl)) (fun _ _ _ _ _ => dts_nil) (fun _ _ _ _ _ => de_dget (hu_of hr) (de_fld T.Thing_ (by decide +kernel) (de_var 0)) (de_var 2) (fun _ _ => rfl))))
      (dss_cons (ds_if (dt_val (de_callB (clIsi' (K := K)) (si_isiC T.HeldI) (by rfl) T.isinstance (by decide +kernel) (da_cons (de_fld T.Thing_ (by decide +kernel) (de_var 0)) (da_cons (de_gl (by rfl) T.Held) da_nil))))
        (dss_one (ds_expr (de_ml PySem.F.slot_list_extend PySem.F.type_list_extend mt_extend si_ext (de_var 1) (da_cons (de_meth0 T.Held_ G_Held_held (hr.mono (by decide)) (de_fld T.Thing_ (by decide +kernel) (de_var 0))) da_nil))))
        (dss_nil))
      (dss_one (ds_ret (de_frz 1)))), fun ds S q qx ⟨H, s, n, hv, hd, R, W, h1, h2, ho, hl, h⟩ => ?_⟩
  subst hd
  have ht := hrep_t R h1 h2
  have hp := hrep_pd R h1 h2
  walk_at "dl"
  refine lockOf hp fun od xs => ?_
  have npt : H.a (.t n) ≠ H.a (.pd n) := R.ne (nn (hC_t h1 h2)) (nn (hC_pd h1 h2)) nofun
  have hL : (put S (H.a (.pd n)) (.lck od xs ((s.parts n).map fun kv => ((kv.1, vD H kv.2) : Key × D)))) (H.a (.pd n)) = some (.lck od xs ((s.parts n).map fun kv => ((kv.1, vD H kv.2) : Key × D))) := put_same
  have ht' := (put_ne (S := S) (o := .lck od xs ((s.parts n).map fun kv => ((kv.1, vD H kv.2) : Key × D))) npt).trans ht
  have hdel : ∀ b, b ≠ H.a (.pd n) → put S (H.a (.pd n)) (.lck od xs ((s.parts n).map fun kv => ((kv.1, vD H kv.2) : Key × D))) b = S b := fun b hb => put_ne hb
  have hback : put (put S (H.a (.pd n)) (.lck od xs ((s.parts n).map fun kv => ((kv.1, vD H kv.2) : Key × D)))) (H.a (.pd n)) (.dct ((s.parts n).map fun kv => ((kv.1, vD H kv.2) : Key × D))) = S := by rw [put_put, put_self hp]
  generalize put S (H.a (.pd n)) (.lck od xs ((s.parts n).map fun kv => ((kv.1, vD H kv.2) : Key × D))) = SL at hL ht' hdel hback
  walk_at "dl"
  refine fldOf ht' th_parts ?_
  walk_at "dl"
  refine skOf hL ?_
  refine lcSNOf (fun i acc => acc = ((s.parts n).take i).map fun kv => vD H kv.2) (by rw [List.length_map, List.length_map]; have := W.plen n; omega) (fun p' acc hp' => by rw [put_ne (sto_ne hL hp')]; exact hL) rfl ?_ ?_
  · rintro p' hp' i d acc hi rfl
    rw [List.map_map, List.getElem?_map] at hi
    obtain ⟨kv, hkv, hd⟩ := Option.map_eq_some_iff.mp hi
    have hd : dK kv.1 = d := hd
    subst hd
    have hgv : gval ((s.parts n).map fun kv => ((kv.1, vD H kv.2) : Key × D)) kv.1 = some (vD H kv.2) := by
      rw [gval_vD, gval_nodup (W.key n) (List.mem_of_getElem? hkv)]
      rfl
    walk_at "dl"
    refine fldOf (by rw [put_ne (sto_ne ht' hp')]; exact ht') th_parts ?_
    walk_at "dl"
    refine dgetOfR (.inr ⟨od, xs, by rw [put_ne (sto_ne hL hp')]; exact hL⟩) (keyD_dK kv.1) hgv ?_
    refine LcO.of hp' ?_
    rw [List.take_add_one, hkv, List.map_append]
    rfl
  · rintro acc pv hpv rfl
    have el : ((s.parts n).take (List.map (fun kv : Key × D => dK kv.1) ((s.parts n).map fun kv => ((kv.1, vD H kv.2) : Key × D))).length) = s.parts n := by rw [List.length_map, List.length_map, List.take_length]
    rw [el]
    have npv : pv ≠ H.a (.pd n) := Ne.symm (sto_ne hL hpv)
    have hpv0 : S pv = none := by rw [← hdel pv npv]; exact hpv
    walk_at "dl"
    refine ⟨by rw [put_ne (Ne.symm npv)]; exact hL, ?_⟩
    rw [put_comm npv, hback]
    have R2 := (Kpt.tr R (Kpt.refl.put hpv0 (.lst ((s.parts n).map fun kv => vD H kv.2)))).rep
    have ht2 := hrep_t R2 h1 h2
    have fin : ∀ e : List Vl, (ledV s hv n) = (s.parts n).map (·.2) ++ e → q (.list (((s.parts n).map fun kv => vD H kv.2) ++ e.map (vD H))) S := fun e he => by
      have := h S Kpt.refl
      rw [he, List.map_append, List.map_map] at this
      exact this
    walk_at "dl"
    refine fldOf ht2 th_own ?_
    cases eh : hv n with
    | none =>
      rw [eh] at ho
      have fin0 := fin [] (by unfold ledV; rw [eh]; rfl)
      rw [List.map_nil, List.append_nil] at fin0
      have ho : NoTh (s.own n) := ho
      generalize s.own n = o at ho
      have last : frzq (.ref pv) (put S pv (.lst ((s.parts n).map fun kv => vD H kv.2))) (fun x S' => q x S') ⟨⟩ := frzOf put_same (by rw [del_put hpv0]; exact fin0)
      cases ho with
      | non => walk_at "dl"; exact last
      | int i => walk_at "dl"; exact last
      | str z hz => walk_at "dl"; exact last
      | bl b => walk_at "dl"; exact last
    | some vs =>
      rw [eh] at ho
      obtain ⟨ah, dx, l, e1, e2, e3⟩ := ho
      have fin1 := fin vs (by unfold ledV; rw [eh]; rfl)
      rw [e1]
      rw [e1] at ht2
      have e2' : put S pv (.lst ((s.parts n).map fun kv => vD H kv.2)) ah = _ := (put_ne (sto_ne e2 hpv0)).trans e2
      have e3' : put S pv (.lst ((s.parts n).map fun kv => vD H kv.2)) l = _ := (put_ne (sto_ne e3 hpv0)).trans e3
      walk_at "dl"
      rw [x_own e2']
      walk_at "dl"
      refine needOf (isLOf put_same) ?_
      walk_at "dl"
      refine fldOf ht2 th_own ?_
      walk_at "dl"
      refine needOf (methOf (x := .non) e2' rfl) ?_
      walk_at "dl"
      refine ⟨ah, dx, l, vs.map (vD H), rfl, e2', e3', ?_⟩
      walk_at "dl"
      refine extOf put_same (by rw [List.length_map, List.length_map]; unfold ledV at hl; rw [eh, List.length_append, List.length_map] at hl; have hl : (s.parts n).length + vs.length ≤ 90000 := hl; omega) ?_
      rw [put_put]
      walk_at "dl"
      exact frzOf put_same (by rw [del_put hpv0]; exact fin1)
def metD (ks : List Nat) : List (Key × D) := ks.map fun n : Nat => ((.inl (n : Int), .bl true) : Key × D)
theorem met_in {ks : List Nat} {n : Nat} : (gval (metD ks) (.inl (n : Int))).isSome = decide (n ∈ ks) := by
  unfold gval metD
  rw [Option.isSome_map, List.find?_map, Option.isSome_map]
  induction ks with
  | nil => rfl
  | cons a l ih =>
    rw [List.find?_cons]
    by_cases z : a = n
    · subst z; simp
    · have : ((fun kv : Key × D => decide (kv.1 = .inl (n : Int))) ∘ fun n : Nat => ((.inl (n : Int), .bl true) : Key × D)) a = false := by
        simp only [Function.comp, decide_eq_false_iff_not]
        intro e
        have := Sum.inl.inj e
        omega
      rw [this]
      simp only [List.mem_cons]
      rw [ih]
      simp [Ne.symm z]
theorem met_put {ks : List Nat} {n : Nat} (h : n ∉ ks) : gput (metD ks) (.inl (n : Int)) (.bl true) = metD (ks ++ [n]) := by
  have : gval (metD ks) (.inl (n : Int)) = none := by
    have := met_in (ks := ks) (n := n)
    rw [decide_eq_false h] at this
    exact Option.isSome_eq_false_iff.mp this |> Option.isNone_iff_eq_none.mp
  rw [gput_new this]
  unfold metD
  rw [List.map_append]
  rfl
/-- what is reached from the roots on, in rising order -/
def RchL (s : Hs) (hv : Nat → Option (List Vl)) (roots : List Vl) (ys : List Int) : Prop := ys.Pairwise (· < ·) ∧ ∀ j : Int, j ∈ ys ↔ ∃ n : Nat, j = (n : Int) ∧ Rch (ledV s hv) roots n
def dReached (CT CH CD : Addr) (en : D) : SpD := fun ds S k _ => ∃ (H : HA) (s : Hs) (hv : Nat → Option (List Vl)) (roots : List Vl), ds = [.ref (H.a .hall), .list (roots.map (vD H))] ∧ HRep CT CH en H s S ∧ Wf s ∧ (∀ n, 1 ≤ n → n ≤ s.many → OwnH CD H S (s.own n) (hv n)) ∧
  (∀ v ∈ roots, VOk s.many v) ∧ (∀ n vs, hv n = some vs → ∀ v ∈ vs, VOk s.many v) ∧ roots.length + msum (fun n => (ledV s hv n).length + 1) s.many ≤ 90000 ∧
  ∀ (ys : List Int) (p : Addr) S', Kpt S S' → S p = none → S' p = some (.lst (ys.map D.int)) → RchL s hv roots ys → k (.ref p) S'
theorem todo_len {G : Nat → List Vl} {m : Nat} {ks : List Nat} {ws : List Vl} : ws.length ≤ todo G m ks ws := Nat.le_add_right _ _
theorem unmet_nil {G : Nat → List Vl} {m : Nat} {ws : List Vl} : todo G m [] ws = ws.length + msum (fun n => (G n).length + 1) m := rfl
theorem ok_reached {fa : Addr} {fd : FuncData} (F : Fun K "reached" "reached" s_reached fa fd) (T : TxW K mg CT CH CD) (G_led_to : DefD P w K mg base 2 "led_to" ["thing"] (dLedTo CT CH CD en)) : FnOk P w K mg base CX0 3 fa fd ["hall", "roots"] (lSp K (dReached CT CH CD en)) := by
  refine dok F sc_reached (fun ds S q qx ⟨H, s, hv, roots, h, _⟩ => by rw [h]; rfl) ⟨_, fun cdv A outer s H E hr => dss_cons (ds_set (i := 2) sc_reached.nd rfl (Or.inl rfl) (de_newD))
      (dss_cons (ds_set (i := 3) sc_reached.nd rfl (Or.inl rfl) (de_callTy (clList (K := K)) si_listN (by rfl) T.list (by decide +kernel) (da_cons (de_var 1) da_nil)))
      (dss_cons (ds_while PassesOwn.never (dt_cmp op_gt si_gt (de_callB call_len (si_len rfl) (by rfl) T.len (by decide +kernel) (da_cons (de_var 3) da_nil)) (de_int) (nomark _))
        (dss_cons (ds_set (i := 4) sc_reached.nd rfl (Or.inl rfl) (de_ml0 PySem.F.slot_list_pop PySem.F.type_list_pop mt_pop si_pop (de_var 3)))
        (dss_one (ds_if (PW.pt (dw_and (dt_val (de_callB (clIsi' (K := K)) (si_isiC T.ThingI) (by rfl) T.isinstance (by decide +kernel) (da_cons (de_var 4) (da_cons (de_gl (by rfl) T.Thing) da_nil)))) (dw_and1 (dt_dinN (hu_of hr) (de_fld T.Thing_ (by decide +kernel) (de_var 4)) (de_var 2)))))
          (dss_cons (ds_dput (hu_of hr) (de_var 2) (de_fld T.Thing_ (by decide +kernel) (de_var 4)) (de_bl))
          (dss_one (ds_expr (de_ml PySem.F.slot_list_extend PySem.F.type_list_extend mt_extend si_ext (de_var 3) (da_cons (de_call G_led_to (hr.mono (by decide)) (by rfl) (da_cons (de_var 4) da_nil)) da_nil)))))
          (dss_nil)))))
      (dss_one (ds_ret (de_callB (SD.call_sortedDL rfl) si_sortDLN (by rfl) T.sorted (by decide +kernel) (da_cons (de_var 2) da_nil)))))), fun ds S q qx ⟨H, s, hv, roots, hd, R, W, ho, hr, hvo, hl, h⟩ => ?_⟩
  subst hd
  walk_at "dl"
  refine freshOf fun pm hpm => ?_
  walk_at "dl"
  refine ⟨_, rfl, fun pw hpw => ?_⟩
  walk_at "dl"
  have npm : S pw = none := by rw [put_ne (Ne.symm (sto_ne put_same hpw))] at hpw; exact hpw
  have nmw : pm ≠ pw := sto_ne put_same hpw
  have ok_led : ∀ n, 1 ≤ n → n ≤ s.many → ∀ v ∈ ledV s hv n, VOk s.many v := fun n h1 h2 v hv' => by
    rcases List.mem_append.mp hv' with hv' | hv'
    · obtain ⟨kv, hk, rfl⟩ := List.mem_map.mp hv'
      exact W.pv n kv hk
    · cases e : hv n with
      | none => rw [e] at hv'; cases hv'
      | some vs => rw [e] at hv'; exact hvo n vs e v hv'
  refine whlOf (fun m δ S' => ∃ ks ws z, m ≤ 90000 ∧ δ = [some (.ref (H.a .hall)), some (.list (roots.map (vD H))), some (.ref pm), some (.ref pw), z] ∧ Kpt S S' ∧ S' pm = some (.dct (metD ks)) ∧ S' pw = some (.lst (ws.map (vD H))) ∧ RInv (ledV s hv) s.many roots ks ws ∧ m = todo (ledV s hv) s.many ks ws)
    (todo (ledV s hv) s.many [] roots) ⟨[], roots, _, by rw [unmet_nil]; exact hl, rfl, (Kpt.refl.put hpm _).put npm _, by rw [put_ne nmw]; exact put_same, put_same, RInv.begin hr, rfl⟩ ?_
  rintro m δ S' ⟨ks, ws, z, hm, rfl, kp, e1, e2, I, rfl⟩
  have R' := (Kpt.tr R kp).rep
  walk_at "dl"
  refine lenRf e2 ?_
  walk_at "dl"
  refine br (fun hb => ?_) (fun hb => ?_)
  · have hne : ws ≠ [] := fun z => by rw [z] at hb; simp at hb
    obtain ⟨ws', v, rfl⟩ : ∃ ws' v, ws = ws' ++ [v] := ⟨ws.dropLast, ws.getLast hne, (List.dropLast_concat_getLast hne).symm⟩
    rw [List.map_append] at e2
    walk_at "dl"
    refine needOf (isLOf e2) ?_
    walk_at "dl"
    refine popOf e2 ?_
    have kp2 : Kpt S (put S' pw (.lst (ws'.map (vD H)))) := kp.put npm _
    have e1' : put S' pw (.lst (ws'.map (vD H))) pm = _ := (put_ne nmw).trans e1
    have hv1 := I.okw v (List.mem_append_right _ (List.mem_singleton.mpr rfl))
    have pass : ∀ z : Option D, (∀ n, v = .th n → n ∈ ks) → ∃ m', m' < todo (ledV s hv) s.many ks (ws' ++ [v]) ∧ ∃ ks ws z', m' ≤ 90000 ∧ ([some (.ref (H.a .hall)), some (.list (roots.map (vD H))), some (.ref pm), some (.ref pw), z] : Dst) = [some (.ref (H.a .hall)), some (.list (roots.map (vD H))), some (.ref pm), some (.ref pw), z'] ∧ Kpt S (put S' pw (.lst (ws'.map (vD H)))) ∧ put S' pw (.lst (ws'.map (vD H))) pm = some (.dct (metD ks)) ∧ put S' pw (.lst (ws'.map (vD H))) pw = some (.lst (ws.map (vD H))) ∧ RInv (ledV s hv) s.many roots ks ws ∧ m' = todo (ledV s hv) s.many ks ws := fun z hz => by
      have := todo_non (G := ledV s hv) (m := s.many) (ks := ks) (ws := ws') (v := v)
      exact ⟨todo (ledV s hv) s.many ks ws', by omega, ks, ws', z, by omega, rfl, kp2, e1', put_same, I.non hz, rfl⟩
    cases v with
    | no d =>
      have hv1 : NoTh d := hv1
      have pass := pass (some d) (fun n z => by cases z)
      show _
      rw [show vD H (.no d) = d from rfl]
      cases hv1 with
      | non => walk_at "dl"; exact pass
      | int i => walk_at "dl"; exact pass
      | str z hz => walk_at "dl"; exact pass
      | bl b => walk_at "dl"; exact pass
    | th n =>
      have hb2 : 1 ≤ n ∧ n ≤ s.many := hv1
      have R2 := (Kpt.tr R kp2).rep
      have ht := hrep_t R2 hb2.1 hb2.2
      rw [show vD H (.th n) = .ref (H.a (.t n)) from rfl]
      walk_at "dl"
      rw [x_own ht]
      walk_at "dl"
      refine fldOf ht th_number ?_
      walk_at "dl"
      refine dninOf e1' rfl ?_
      rw [met_in]
      walk_at "dl"
      by_cases hk : n ∈ ks
      · rw [decide_eq_true hk]
        walk_at "dl"
        exact pass _ (fun j z => by cases z; exact hk)
      · rw [decide_eq_false hk]
        walk_at "dl"
        refine fldOf ht th_number ?_
        walk_at "dl"
        have hlen := perm_len I.nd I.okk
        refine dputOf e1' rfl (by unfold metD; rw [List.length_map]; have := W.most; omega) ?_
        rw [met_put hk]
        have e2'' : put (put S' pw (.lst (ws'.map (vD H)))) pm (.dct (metD (ks ++ [n]))) pw = some (.lst (ws'.map (vD H))) := (put_ne (Ne.symm nmw)).trans put_same
        have e1'' : put (put S' pw (.lst (ws'.map (vD H)))) pm (.dct (metD (ks ++ [n]))) pm = some (.dct (metD (ks ++ [n]))) := put_same
        have kp3 : Kpt S (put (put S' pw (.lst (ws'.map (vD H)))) pm (.dct (metD (ks ++ [n])))) := kp2.put hpm _
        generalize put (put S' pw (.lst (ws'.map (vD H)))) pm (.dct (metD (ks ++ [n]))) = S3 at e2'' e1'' kp3
        walk_at "dl"
        refine needOf (isLOf e2'') ?_
        walk_at "dl"
        have td := todo_met (G := ledV s hv) (ws := ws') hb2.1 hb2.2 hk
        have tl := todo_len (G := ledV s hv) (m := s.many) (ks := ks ++ [n]) (ws := ws' ++ ledV s hv n)
        rw [List.length_append] at tl
        refine ⟨H, s, n, hv, rfl, (Kpt.tr R kp3).rep, W, hb2.1, hb2.2, (ho n hb2.1 hb2.2).kpt kp3, by omega, fun S4 kp4 => ?_⟩
        have e24 := kp4.at e2''
        have e14 := kp4.at e1''
        have kp5 := kp3.trans kp4
        walk_at "dl"
        refine extOf e24 (by rw [List.length_map, List.length_map]; omega) ?_
        walk_at "dl"
        exact ⟨todo (ledV s hv) s.many (ks ++ [n]) (ws' ++ ledV s hv n), by omega, ks ++ [n], ws' ++ ledV s hv n, _, by omega, rfl, kp5.put npm _, (put_ne nmw).trans e14, by rw [put_same, List.map_append], I.met hk (ok_led n hb2.1 hb2.2), rfl⟩
  · have hne : ws = [] := by
      cases ws with
      | nil => rfl
      | cons a l => exact absurd hb (by simp)
    subst hne
    walk_at "dl"
    have hlen := perm_len I.nd I.okk
    refine ⟨metD ks, ks.map fun n : Nat => (n : Int), e1, by unfold metD; rw [List.map_map, List.map_map]; rfl, by rw [List.length_map]; have := W.most; omega, fun ys p pm' pw' hp => ?_⟩
    have hnd : (ks.map fun n : Nat => (n : Int)).Nodup := List.pairwise_map.mpr (I.nd.imp fun h e => h (Int.ofNat.inj e))
    refine h ys p _ (kp.put (by cases e : S p with | none => rfl | some o => rw [kp p (nn e), e] at hp; cases hp) _) (by cases e : S p with | none => rfl | some o => rw [kp p (nn e), e] at hp; cases hp) put_same ⟨?_, fun j => ?_⟩
    · exact (pw'.and (pm'.nodup_iff.mpr hnd)).imp fun ⟨a, b⟩ => by omega
    · rw [pm'.mem_iff, List.mem_map]
      exact ⟨fun ⟨n, h1, h2⟩ => ⟨n, h2.symm, (I.done n).mp h1⟩, fun ⟨n, h1, h2⟩ => ⟨n, (I.done n).mpr h2, h1.symm⟩⟩
end
end K

set_option Elab.async false
set_option linter.all false
set_option maxRecDepth 100000
/-! ### what the law finds to be near, by rounds (no program in sight) -/
namespace HM
open PySem L2 DL
def wG (ways : Nat → List Nat) (n : Nat) : List Vl := (ways n).map Vl.th
theorem mem_wG {ways : Nat → List Nat} {n j : Nat} : Vl.th j ∈ wG ways n ↔ j ∈ ways n := by
  unfold wG
  rw [List.mem_map]
  exact ⟨fun ⟨a, h1, h2⟩ => by cases h2; exact h1, fun h => ⟨j, h, rfl⟩⟩
theorem mem_ths {l : List Nat} {j : Nat} : Vl.th j ∈ l.map Vl.th ↔ j ∈ l := mem_wG (ways := fun _ => l) (n := 0)
/-- what is reached depends on things alone -/
theorem Rch.imp {G G' : Nat → List Vl} {r r' : List Vl} {m : Nat} (hr : ∀ n, Vl.th n ∈ r → Vl.th n ∈ r' ∧ 1 ≤ n ∧ n ≤ m) (hg : ∀ k, 1 ≤ k → k ≤ m → ∀ n, Vl.th n ∈ G k → Vl.th n ∈ G' k ∧ 1 ≤ n ∧ n ≤ m) {n : Nat} (h : Rch G r n) : Rch G' r' n ∧ 1 ≤ n ∧ n ≤ m := by
  induction h with
  | root h => exact ⟨.root (hr _ h).1, (hr _ h).2⟩
  | step _ h ih => exact ⟨.step ih.1 (hg _ ih.2.1 ih.2.2 _ h).1, (hg _ ih.2.1 ih.2.2 _ h).2⟩
structure NInv (ways : Nat → List Nat) (m : Nat) (bs near : List Nat) : Prop where
  bsub : ∀ j ∈ bs, j ∈ near
  snd : ∀ j ∈ near, Rch (wG ways) (bs.map Vl.th) j
  rng : ∀ j ∈ near, 1 ≤ j ∧ j ≤ m
  cnt : ∀ j, near.count j ≤ 8
structure MInv (ways : Nat → List Nat) (m : Nat) (bs near : List Nat) (i : Nat) (more : List Nat) : Prop where
  snd : ∀ j ∈ more, Rch (wG ways) (bs.map Vl.th) j
  rng : ∀ j ∈ more, 1 ≤ j ∧ j ≤ m
  cnt : ∀ j, more.count j ≤ 8
  out : ∀ j ∈ more, j ∉ near
  cov : ∀ n ∈ near.take i, ∀ j ∈ ways n, j ∈ near ∨ j ∈ more
def newIn (ways : Nat → List Nat) (near more : List Nat) (n : Nat) : List Nat := (ways n).filter fun j => decide (j ∉ near) && decide (j ∉ more)
theorem count_len : ∀ (m c : Nat) (l : List Nat), (∀ j ∈ l, 1 ≤ j ∧ j ≤ m) → (∀ j, l.count j ≤ c) → l.length ≤ c * m
  | 0, c, l, h, _ => by
    cases l with
    | nil => exact Nat.zero_le _
    | cons a l => have := h a (List.mem_cons_self ..); omega
  | m + 1, c, l, h, hc => by
    have h1 := count_len m c (l.filter fun j => decide (j ≠ m + 1)) (fun j hj => by
      obtain ⟨h1, h2⟩ := List.mem_filter.mp hj
      have := h j h1
      have := of_decide_eq_true h2
      omega) fun j => Nat.le_trans (List.Sublist.count_le _ List.filter_sublist) (hc j)
    have h2 : l.length = (l.filter fun j => decide (j ≠ m + 1)).length + l.count (m + 1) := by
      clear h h1 hc
      induction l with
      | nil => rfl
      | cons a l ih =>
        rw [List.filter_cons, List.count_cons, List.length_cons]
        by_cases z : a = m + 1
        · rw [if_neg (by simpa using z), if_pos (by simpa using z), ih]; omega
        · rw [if_pos (by simpa using z), if_neg (by simpa using z), List.length_cons, ih]; omega
    have := hc (m + 1)
    rw [Nat.mul_add]
    omega
section
variable {ways : Nat → List Nat} {m : Nat} {bs near more : List Nat} {i n : Nat}
theorem MInv.begin : MInv ways m bs near 0 [] := ⟨fun _ h => (by cases h), fun _ h => (by cases h), fun _ => Nat.zero_le _, fun _ h => (by cases h), fun _ h => (by cases h)⟩
theorem MInv.step (N : NInv ways m bs near) (I : MInv ways m bs near i more) (hn : near[i]? = some n) (hw : ∀ j ∈ ways n, 1 ≤ j ∧ j ≤ m) (h8 : (ways n).length ≤ 8) : MInv ways m bs near (i + 1) (more ++ newIn ways near more n) := by
  have hm : ∀ j ∈ newIn ways near more n, j ∈ ways n ∧ j ∉ near ∧ j ∉ more := fun j hj => by
    obtain ⟨h1, h2⟩ := List.mem_filter.mp hj
    simp only [Bool.and_eq_true, decide_eq_true_eq] at h2
    exact ⟨h1, h2⟩
  have hnm := List.mem_of_getElem? hn
  refine ⟨fun j hj => ?_, fun j hj => ?_, fun j => ?_, fun j hj => ?_, fun k hk j hj => ?_⟩
  · rcases List.mem_append.mp hj with hj | hj
    · exact I.snd j hj
    · exact .step (N.snd n hnm) (mem_wG.mpr (hm j hj).1)
  · rcases List.mem_append.mp hj with hj | hj
    · exact I.rng j hj
    · exact hw j (hm j hj).1
  · rw [List.count_append]
    by_cases z : j ∈ more
    · have : (newIn ways near more n).count j = 0 := List.count_eq_zero.mpr fun h => (hm j h).2.2 z
      have := I.cnt j
      omega
    · rw [List.count_eq_zero.mpr z, Nat.zero_add]
      exact Nat.le_trans List.count_le_length (Nat.le_trans (List.length_filter_le _ _) h8)
  · rcases List.mem_append.mp hj with hj | hj
    · exact I.out j hj
    · exact (hm j hj).2.1
  · rw [List.take_add_one, hn] at hk
    rcases List.mem_append.mp hk with hk | hk
    · rcases I.cov k hk j hj with h | h
      · exact .inl h
      · exact .inr (List.mem_append_left _ h)
    · have hk : k = n := by simpa using hk
      subst hk
      by_cases z : j ∈ near
      · exact .inl z
      · by_cases z2 : j ∈ more
        · exact .inr (List.mem_append_left _ z2)
        · exact .inr (List.mem_append_right _ (List.mem_filter.mpr ⟨hj, by simp [z, z2]⟩))
theorem NInv.grown (N : NInv ways m bs near) (I : MInv ways m bs near near.length more) : NInv ways m bs (near ++ more) := by
  refine ⟨fun j hj => List.mem_append_left _ (N.bsub j hj), fun j hj => ?_, fun j hj => ?_, fun j => ?_⟩
  · rcases List.mem_append.mp hj with hj | hj
    · exact N.snd j hj
    · exact I.snd j hj
  · rcases List.mem_append.mp hj with hj | hj
    · exact N.rng j hj
    · exact I.rng j hj
  · rw [List.count_append]
    by_cases z : j ∈ more
    · rw [List.count_eq_zero.mpr (I.out j z), Nat.zero_add]
      exact I.cnt j
    · rw [List.count_eq_zero.mpr z, Nat.add_zero]
      exact N.cnt j
theorem NInv.full (N : NInv ways m bs near) (I : MInv ways m bs near near.length []) (j : Nat) : j ∈ near ↔ Rch (wG ways) (bs.map Vl.th) j := by
  refine ⟨N.snd j, fun h => ?_⟩
  induction h with
  | root h => exact N.bsub _ (mem_ths.mp h)
  | step _ h ih =>
    rcases I.cov _ (by rw [List.take_length]; exact ih) _ (mem_wG.mp h) with h | h
    · exact h
    · cases h
def left (m : Nat) (near : List Nat) : Nat := msum (fun j => if j ∈ near then 0 else 1) m
theorem msum_le {f g : Nat → Nat} : ∀ {m : Nat}, (∀ i, f i ≤ g i) → msum f m ≤ msum g m
  | 0, _ => Nat.le_refl _
  | m + 1, h => Nat.add_le_add (msum_le h) (h _)
theorem left_lt (I : MInv ways m bs near i more) (h : more ≠ []) : left m (near ++ more) < left m near := by
  obtain ⟨j, l, rfl⟩ := List.exists_cons_of_ne_nil h
  have hj : j ∈ j :: l := List.mem_cons_self ..
  have h1 := I.rng j hj
  have h2 := I.out j hj
  unfold left
  have e := msum_dec (f := fun k => if k ∈ near then 0 else 1) (g := fun k => if k = j then 0 else if k ∈ near then 0 else 1) (d := 1) h1.1 h1.2 (by simp [h2]) fun k hk => by simp [hk]
  have e2 : msum (fun k => if k ∈ near ++ j :: l then 0 else 1) m ≤ msum (fun k => if k = j then 0 else if k ∈ near then 0 else 1) m := msum_le fun k => by
    by_cases z : k = j
    · subst z
      rw [if_pos (List.mem_append_right _ hj)]
      exact Nat.zero_le _
    · by_cases z2 : k ∈ near
      · rw [if_pos (List.mem_append_left _ z2)]
        exact Nat.zero_le _
      · rw [if_neg z, if_neg z2]
        split
        · exact Nat.zero_le _
        · exact Nat.le_refl _
  omega
end
theorem nodup_len {m : Nat} {l : List Int} (nd : l.Nodup) (h : ∀ j ∈ l, ∃ n : Nat, j = (n : Int) ∧ 1 ≤ n ∧ n ≤ m) : l.length ≤ m := by
  have := perm_len (m := m) (ks := l.map Int.toNat) (List.pairwise_map.mpr (nd.imp_of_mem fun {a b} ha hb e z => e (by
    obtain ⟨x, rfl, _⟩ := h a ha
    obtain ⟨y, rfl, _⟩ := h b hb
    have : x = y := by simpa using z
    rw [this]))) fun n hn => by
    obtain ⟨j, hj, rfl⟩ := List.mem_map.mp hn
    obtain ⟨x, rfl, h1, h2⟩ := h j hj
    simpa using ⟨h1, h2⟩
  rw [List.length_map] at this
  exact this
end HM

set_option Elab.async false
set_option linter.all false
set_option maxRecDepth 100000
namespace K
open PySem L2 Evl EX DL HM
abbrev s__law_due : Stmt := top 13
abbrev N__law_due : List Str := ["_law_ways", "_law_begins", "_law_near", "_law_grown", "_law_more", "_law_n", "_law_other"]
theorem sc__law_due : FnScope N__law_due ["_law_ways", "_law_begins"] (defScope s__law_due) := ⟨rfl, rfl, rfl, by decide +kernel, rfl, by decide +kernel, by decide +kernel⟩
def wayD (wa : Nat → Addr) (m : Nat) : List (Key × D) := (List.range m).map fun i : Nat => ((.inl ((i + 1 : Nat) : Int), .ref (wa (i + 1))) : Key × D)
def wayO (l : List Nat) : O := .lst (l.map fun j : Nat => .int (j : Int))
theorem wayD_get {wa : Nat → Addr} {m n : Nat} (h1 : 1 ≤ n) (h2 : n ≤ m) : gval (wayD wa m) (.inl (n : Int)) = some (.ref (wa n)) := by
  have nd : ((wayD wa m).map (·.1)).Nodup := by
    unfold wayD
    rw [List.map_map]
    refine List.pairwise_map.mpr (List.nodup_range.imp fun {a b} h e => h ?_)
    have := Sum.inl.inj e
    omega
  have hm : ((.inl (n : Int), .ref (wa n)) : Key × D) ∈ wayD wa m := by
    refine List.mem_map.mpr ⟨n - 1, List.mem_range.mpr (by omega), ?_⟩
    rw [show n - 1 + 1 = n by omega]
  exact gval_nodup nd hm
theorem inD_nats {j : Nat} : ∀ {l : List Nat}, inD (.int (j : Int)) (l.map fun j : Nat => D.int (j : Int)) = decide (j ∈ l)
  | [] => by rfl
  | a :: l => by
    rw [List.map_cons, x_inII, inD_nats]
    by_cases z : j = a
    · subst z; simp
    · have : ¬ (j : Int) = (a : Int) := fun e => z (by omega)
      simp [z, this]
theorem res_lst {S : Sto} {a : Addr} {ds : List D} (h : S a = some (.lst ds)) : res S (.ref a) = .list ds := by
  unfold res
  simp only [h]
theorem anyL_nats : ∀ {l : List Nat}, anyL (l.map fun j : Nat => D.int (j : Int)) = true
  | [] => rfl
  | a :: l => by rw [List.map_cons, anyL, anyL_nats]; rfl
theorem any_nats {l : List Nat} : (D.list (l.map fun j : Nat => D.int (j : Int))).any = true := by rw [D.any, anyL_nats]
theorem flat_nats : ∀ {l : List Nat}, (l.map fun j : Nat => D.int (j : Int)).all flatD = true
  | [] => rfl
  | a :: l => by rw [List.map_cons, List.all_cons, flat_nats]; rfl
section
variable {P : Program} {w : World} {K : PySem.W.Frag} {mg : Str → Option Value} {base : Heap} {CT CH CD : Addr} {en : D}
local macro_rules | `(tactic| walk_at "dl") => `(tactic| try simp only [↓x_lcN, ↓x_lcSN, ↓x_catM, ↓x_neV, ↓x_sortSet, ↓x_sortDLN, ↓x_lrg, ↓x_neg, ↓x_lcS, ↓x_lockE, ↓x_eqA, ↓x_dictD, ↓x_disp, ↓x_pNil, ↓x_pCons, ↓x_forS, ↓x_diSL, ↓x_diKeys, ↓x_lock, ↓x_dictP, ↓x_fld, ↓x_fldS, ↓x_fldA, ↓x_meth, ↓x_make, ↓x_dget, ↓x_din, ↓x_dget1, ↓x_dget2, ↓x_dpop, ↓x_dput, ↓x_listD, ↓x_sortDI, ↓x_lenD, ↓x_isiC, x_icS, x_icI, x_icB, x_icN, x_ioS, x_ioI, x_ioB, x_ioN, ↓x_gSub, ↓x_sortDL, ↓x_eqO, ↓x_ninA, x_catN, x_isBB, x_isBN, x_isBI, x_isBS, x_isBR, ↓x_seq, ↓x_nx, ↓x_pass, ↓x_brk, ↓x_cnt, ↓x_drop, ↓x_ret, ↓x_retN, ↓x_ifS, ↓x_set, ↓x_asg, ↓x_gN, ↓x_gT, ↓x_gsC, ↓x_gsN, ↓x_var, x_rdv, ↓x_c, ↓x_op, ↓x_test, x_tst, ↓x_and, ↓x_or, ↓x_not, ↓x_andV, ↓x_orV, ↓x_notV, x_tstV, ↓x_ifE, x_true, x_false, ↓x_nil, ↓x_cons, ↓x_tup, ↓x_lst, ↓x_new, ↓x_newD, ↓x_call, ↓x_cb, x_oI, x_oIc, x_oS, x_addS, x_isN, x_notN, x_eqI, x_eqS, x_eqIS, x_eqSI, x_eqNS, x_neI, x_neS, x_neB, x_eqB, x_few, x_need, ↓x_ix, x_lenS, x_ixL0, x_ixT0, x_ixT1, x_ixT2, x_ixT3, x_ixT4, x_lenL, x_lenT, x_lenC, x_listL, x_listT, x_tupL, x_tupT, x_strI, x_strS, x_int1, x_intB, x_I1, x_I2, x_cat, x_catT, ↓x_split, ↓x_for, ↓x_cut, ↓x_lc, ↓x_whl, ↓x_diL, ↓x_diT, ↓x_diS, x_itL, x_itC, x_itT, x_itS, ↓x_diR1, ↓x_diR2, ↓x_diE, x_enmL, x_enmC, ↓x_gcN, ↓x_gcT, ↓x_yes, ↓x_ml, ↓x_ms, x_strq, x_ss, x_ssc, x_ssi, ↓x_join, ↓x_aug, x_st2I, ↓x_sl, ↓x_noP, ↓x_part, x_intq, x_slL, x_slC, x_slS, ↓x_in, x_inT, x_inL, x_ninT, x_ninL, x_inN, x_inSS, x_inSI, x_inIS, x_inII, ↓x_sg, x_sgS, x_nsgS, ↓x_eqD, ↓x_inDD, x_mulS, ↓x_isi, x_isiS, x_isiI, x_isiB, x_isiN, x_isiL, x_isiT, ↓x_isTT, x_itI, x_itStr, x_itN, x_itB, x_itLst, x_itTup, ↓x_any, ↓x_all, ↓x_sum, ↓x_srtI, ↓x_srtS, ↓x_intS, ↓x_lenRf, ↓x_tupRf, ↓x_frz', x_flS, x_flI, x_flN, x_flB, x_cs_bool, x_isB_NoneType_bool, x_isB_bool_bool, x_isB_int_bool, x_isB_str_bool, x_isB_list_bool, x_isB_tuple_bool, x_isB_dict_bool, x_cs_int, x_isB_NoneType_int, x_isB_bool_int, x_isB_int_int, x_isB_str_int, x_isB_list_int, x_isB_tuple_int, x_isB_dict_int, x_cs_str, x_isB_NoneType_str, x_isB_bool_str, x_isB_int_str, x_isB_str_str, x_isB_list_str, x_isB_tuple_str, x_isB_dict_str, x_cs_list, x_isB_NoneType_list, x_isB_bool_list, x_isB_int_list, x_isB_str_list, x_isB_list_list, x_isB_tuple_list, x_isB_dict_list, x_cs_tuple, x_isB_NoneType_tuple, x_isB_bool_tuple, x_isB_int_tuple, x_isB_str_tuple, x_isB_list_tuple, x_isB_tuple_tuple, x_isB_dict_tuple, x_cs_dict, x_isB_NoneType_dict, x_isB_bool_dict, x_isB_int_dict, x_isB_str_dict, x_isB_list_dict, x_isB_tuple_dict, x_isB_dict_dict, List.all_cons, List.all_nil, Bool.and_self, Bool.or_false, Bool.or_true, Bool.false_or, Bool.true_or, wipeD, setD, DL.isNon, List.set_cons_zero, List.set_cons_succ, List.getElem?_cons_zero, List.getElem?_cons_succ, List.length_cons, List.length_nil, Nat.zero_add, List.cons_append, List.nil_append, decide_true, decide_false, Bool.not_true, Bool.not_false, true_and, and_true, startD, List.map_cons, List.map_nil, Nat.reduceSub, Nat.reduceLeDiff, Nat.zero_le, Int.reduceLT, Int.reduceLE, and_self, Nat.reduceAdd, List.replicate])
def dDue28 : SpD := fun ds S k _ => ∃ (wd : Addr) (wa : Nat → Addr) (m : Nat) (ways : Nat → List Nat) (bs : List Nat) (x : D), ds = [.ref wd, x] ∧ SeqD S x (bs.map fun j : Nat => .int (j : Int)) ∧ S wd = some (.dct (wayD wa m)) ∧ (∀ n, 1 ≤ n → n ≤ m → S (wa n) = some (wayO (ways n)) ∧ (∀ j ∈ ways n, 1 ≤ j ∧ j ≤ m) ∧ (ways n).length ≤ 8) ∧
  (∀ j ∈ bs, 1 ≤ j ∧ j ≤ m) ∧ bs.length ≤ 8 ∧ m ≤ 20 ∧ ∀ (ys : List Int) S', Kpt S S' → ys.Pairwise (· < ·) → (∀ j : Int, j ∈ ys ↔ ∃ n : Nat, j = (n : Int) ∧ Rch (wG ways) (bs.map Vl.th) n) → k (.list (ys.map D.int)) S'
theorem ok_due {fa : Addr} {fd : FuncData} (F : Fun K "_law_due" "_law_due" s__law_due fa fd) (T : TxW K mg CT CH CD) : FnOk P w K mg base CX0 1 fa fd ["_law_ways", "_law_begins"] (lSp K dDue28) := by
  refine dok F sc__law_due (fun ds S q qx ⟨wd, wa, m, ways, bs, x, h, _⟩ => by rw [h]; rfl) ⟨_, fun cdv A outer s H E hr => dss_cons (ds_set (i := 2) sc__law_due.nd rfl (Or.inr rfl) (de_callTy (clList (K := K)) si_list (by rfl) T.list (by decide +kernel) (da_cons (de_var 1) da_nil)))
      (dss_cons (ds_set (i := 3) sc__law_due.nd rfl (Or.inl rfl) (de_bl))
      (dss_cons (ds_while PassesOwn.never (dt_val (de_var 3))
        (dss_cons (ds_set (i := 4) sc__law_due.nd rfl (Or.inr rfl) (de_new (da_nil)))
        (dss_cons (ds_for PassesOwn.never rfl (di_list (K := K) (de_var 2)) (dg_name (i := 5) sc__law_due.nd rfl (Or.inl rfl))
          (dss_one (ds_expr (de_ml PySem.F.slot_list_extend PySem.F.type_list_extend mt_extend si_ext (de_var 4) (da_cons (de_lcS (own := [("_law_other", 6)]) (gc_name (j := 6) (by decide)) rfl sc__law_due.nd (di_stl (K := K) (de_dget (hu_of hr) (de_var 0) (de_var 5) (fun _ _ => rfl))) (blkOk_by (N := N__law_due) (sc := defScope s__law_due) (by decide +kernel)) (fun _ _ _ _ _ => pg_name (i := 6) sc__law_due.nd rfl (Or.inl rfl)) (fun _ _ _ _ _ => dts_one (PW.pt (dw_and (dt_cmp (opNin (K := K)) (si_in true) (de_var 6) (de_var 2) (by rfl)) (dw_and1 (dt_cmp (opNin (K := K)) (si_in true) (de_var 6) (de_var 4) (by rfl)))))) (fun _ _ _ _ _ => de_var 6)) da_nil)))))
        (dss_cons (ds_set (i := 2) sc__law_due.nd rfl (Or.inr rfl) (de_op op_cat si_catM (de_var 2) (de_var 4)))
        (dss_one (ds_set (i := 3) sc__law_due.nd rfl (Or.inl rfl) (de_cmp (op_neM (K := K) hr.units) (si_eqA true) (de_var 4) (de_lst (da_nil)) (nomark _))))))))
      (dss_one (ds_ret (de_sortSet (K := K) rfl (by rfl) T.sorted (by rfl) T.set (de_var 2)))))), fun ds S q qx ⟨wd, wa, m, ways, bs, x, hd, hx, hwd, hwa, hbs, hb8, hm, h⟩ => ?_⟩
  subst hd
  walk_at "dl"
  refine ⟨_, hx, ?_⟩
  walk_at "dl"
  have i8 : NInv ways m bs bs := ⟨fun _ hj => hj, fun j hj => .root (mem_ths.mpr hj), hbs, fun j => Nat.le_trans List.count_le_length hb8⟩
  refine whlOf (fun μ δ S' => ∃ near flag z4 z5 z6, δ = [some (.ref wd), some x, some (.list (near.map fun j : Nat => .int (j : Int))), some (.bl flag), z4, z5, z6] ∧ Kpt S S' ∧ NInv ways m bs near ∧ (flag = false → ∀ j, j ∈ near ↔ Rch (wG ways) (bs.map Vl.th) j) ∧ μ = if flag = true then HM.left m near + 1 else 0)
    _ ⟨bs, true, _, _, _, rfl, Kpt.refl, i8, (by intro z; cases z), rfl⟩ ?_
  rintro μ δ S' ⟨near, flag, z4, z5, z6, rfl, kp, N, hfl, rfl⟩
  have hnl := count_len m 8 near N.rng N.cnt
  walk_at "dl"
  refine br (fun hb => ?_) (fun hb => ?_)
  · subst hb
    walk_at "dl"
    refine freshOf fun pm hpm => ?_
    have hpm0 : S pm = none := by cases e : S pm with | none => rfl | some o => rw [kp pm (nn e), e] at hpm; cases hpm
    walk_at "dl"
    refine forOf (fun i δ S2 => ∃ more z5 z6, δ = [some (.ref wd), some x, some (.list (near.map fun j : Nat => .int (j : Int))), some (.bl true), some (.ref pm), z5, z6] ∧ Kpt S S2 ∧ S2 pm = some (wayO more) ∧ MInv ways m bs near i more) ⟨[], _, _, rfl, kp.put hpm0 _, put_same, MInv.begin⟩ ?_ ?_
    · rintro i d δ S2 hi ⟨more, z5, z6, rfl, kp2, hmo, I⟩
      rw [List.getElem?_map] at hi
      obtain ⟨n, hn, rfl⟩ := Option.map_eq_some_iff.mp hi
      have hnr := N.rng n (List.mem_of_getElem? hn)
      obtain ⟨w1, w2, w3⟩ := hwa n hnr.1 hnr.2
      walk_at "dl"
      refine needOf (isLOf hmo) ?_
      walk_at "dl"
      refine dgetOf (kp2.at hwd) rfl (wayD_get hnr.1 hnr.2) ?_
      walk_at "dl"
      refine slOf (kp2.at w1) ?_
      have w1' := kp2.at w1
      have fm : (List.map (fun j : Nat => D.int (j : Int)) (ways n)).filterMap (fun d => if inD d (near.map fun j : Nat => D.int (j : Int)) = false ∧ inD d (more.map fun j : Nat => D.int (j : Int)) = false then some d else none) = (newIn ways near more n).map fun j : Nat => D.int (j : Int) := by
        unfold newIn
        induction ways n with
        | nil => rfl
        | cons a l ih =>
          rw [List.map_cons, List.filterMap_cons, List.filter_cons, inD_nats, inD_nats]
          by_cases z : a ∈ near
          · simp only [z, decide_true, not_true, decide_false, Bool.false_and]
            simpa using ih
          · by_cases z2 : a ∈ more
            · simp only [z, z2, decide_true, not_true, decide_false, Bool.and_false]
              simpa using ih
            · simp only [z, z2, decide_false, not_false_iff, decide_true, Bool.and_true, and_self, if_true, List.map_cons]
              rw [← ih]
      refine lcSFM (fun d => if inD d (near.map fun j : Nat => D.int (j : Int)) = false ∧ inD d (more.map fun j : Nat => D.int (j : Int)) = false then some d else none) (by rw [List.length_map]; omega) (fun p acc hp => by rw [put_ne (sto_ne w1' hp)]; exact w1') ?_ ?_
      · intro p acc d k1 k0 hp hd h1 h0
        obtain ⟨j, hj, rfl⟩ := List.mem_map.mp hd
        simp only [inD_nats] at h1 h0
        walk_at "dl"
        rw [x_ninL rfl flat_nats, inD_nats]
        walk_at "dl"
        by_cases z : j ∈ near
        · rw [decide_eq_true z] at h0 ⊢
          walk_at "dl"
          exact h0 (by simp)
        · rw [decide_eq_false z] at h0 h1 ⊢
          walk_at "dl"
          rw [x_ninR ((put_ne (sto_ne hmo hp)).trans hmo) rfl flat_nats, inD_nats]
          walk_at "dl"
          by_cases z2 : j ∈ more
          · rw [decide_eq_true z2] at h0 ⊢
            walk_at "dl"
            exact h0 (by simp)
          · rw [decide_eq_false z2] at h1 ⊢
            walk_at "dl"
            exact h1 _ (by simp)
      · rw [fm]
        have I2 := I.step N hn w2 w3
        have h1 := count_len m 8 _ I2.rng I2.cnt
        walk_at "dl"
        refine extOf hmo (by rw [List.length_append] at h1; rw [List.length_map, List.length_map]; omega) ?_
        walk_at "dl"
        exact ⟨_, _, _, rfl, kp2.put hpm0 _, by rw [put_same, ← List.map_append]; rfl, I2⟩
    · rintro δ S2 ⟨more, z5, z6, rfl, kp2, hmo, I⟩
      rw [List.length_map] at I
      have h1 := count_len m 8 _ I.rng I.cnt
      walk_at "dl"
      refine ⟨near.map fun j : Nat => .int (j : Int), more.map fun j : Nat => .int (j : Int), .inl rfl, .inr ⟨_, rfl, hmo⟩, by rw [List.length_map, List.length_map]; omega, ?_⟩
      rw [← List.map_append]
      walk_at "dl"
      have N2 := N.grown I
      by_cases z : more = []
      · subst z
        refine neASame (p' := .list []) (res_lst hmo) rfl rfl (by decide) ?_
        walk_at "dl"
        refine ⟨0, by simp, near ++ [], false, _, _, _, rfl, kp2, N2, fun _ j => ?_, rfl⟩
        rw [List.append_nil]
        exact N.full I j
      · refine neAOf (b := false) (res_lst hmo) rfl any_nats rfl (Nat.le_trans (Nat.min_le_right _ _) (show (D.list []).deep ≤ 64 by decide)) (by cases more with | nil => exact absurd rfl z | cons a l => rfl) ?_
        walk_at "dl"
        have hlt := left_lt I z
        exact ⟨HM.left m (near ++ more) + 1, by simp only [if_true]; omega, near ++ more, true, _, _, _, rfl, kp2, N2, fun z => (by cases z), rfl⟩
  · subst hb
    walk_at "dl"
    refine ⟨near.map fun j : Nat => (j : Int), by rw [List.map_map]; rfl, by rw [List.length_map]; omega, fun l hl hm' => ?_, fun ds => nofun, fun ys hys hmem => ?_⟩
    · have := nodup_len (m := m) hl fun j hj => by
        obtain ⟨n, hn, rfl⟩ := List.mem_map.mp (hm' j hj)
        exact ⟨n, rfl, N.rng n hn⟩
      omega
    · refine h ys _ kp hys fun j => (hmem j).trans ?_
      rw [List.mem_map]
      exact ⟨fun ⟨n, h1, h2⟩ => ⟨n, h2.symm, (hfl rfl n).mp h1⟩, fun ⟨n, h1, h2⟩ => ⟨n, (hfl rfl n).mpr h2, h1.symm⟩⟩
end
end K

set_option Elab.async false
set_option linter.all false
set_option maxRecDepth 100000
namespace DL
open PySem L2 Evl EX
section
variable {L : Type} {A A' : L → Addr} {C C' : L → Option O} {S S' : Sto}
/-- more stands, what stood stays -/
theorem Rep.grow (R : Rep A C S) (hA : ∀ l, C l ≠ none → A' l = A l) (old : ∀ l o, C l ≠ none → C' l = some o → S' (A l) = some o) (new : ∀ l o, C l = none → C' l = some o → (∀ l', C l' ≠ none → A' l ≠ A l') ∧ S' (A' l) = some o) (inj : ∀ l l', C l = none → C' l ≠ none → C l' = none → C' l' ≠ none → A' l = A' l' → l = l') : Rep A' C' S' := by
  refine ⟨fun {l o} e => ?_, fun {l l'} h h' z => ?_⟩
  · by_cases hl : C l = none
    · exact (new l o hl e).2
    · rw [hA l hl]
      exact old l o hl e
  · by_cases hl : C l = none
    · by_cases hl' : C l' = none
      · exact inj l l' hl h hl' h' z
      · obtain ⟨o, e⟩ := Option.ne_none_iff_exists'.mp h
        rw [hA l' hl'] at z
        exact absurd z ((new l o hl e).1 l' hl')
    · by_cases hl' : C l' = none
      · obtain ⟨o, e⟩ := Option.ne_none_iff_exists'.mp h'
        rw [hA l hl] at z
        exact absurd z.symm ((new l' o hl' e).1 l hl)
      · rw [hA l hl, hA l' hl'] at z
        exact R.inj hl hl' z
theorem lcNOf {δ : Dst} {k : DK} {de : DE} {gc : DGc} {t : DT} {ds : List D} {vs : List Nat} (P : Nat → List D → Prop) (hl : ds.length < 100000) (h0 : P 0 [])
    (hs : ∀ p, S p = none → ∀ n d acc, ds[n]? = some d → P n acc → gc d (wipeD δ vs) fun δ2 => t δ2 (put S p (.lst acc)) fun b S2 => branch b (de δ2 S2 (fun y S3 => LcO S p acc (P (n + 1) (acc ++ [y])) S3)) (LcO S p acc (P (n + 1) acc) S2) ⟨⟩) (hd : ∀ acc p, S p = none → P ds.length acc → k (.ref p) (put S p (.lst acc))) :
    lcNC ds gc t de vs δ S k ⟨⟩ := by
  refine ⟨hl, fun p hp => ⟨fun n acc S' => S' = S ∧ P n acc, ⟨rfl, h0⟩, ?_, ?_⟩⟩
  · rintro n d acc S' hd' _ ⟨rfl, hP⟩
    exact hs p hp n d acc hd' hP
  · rintro acc S' _ ⟨rfl, hP⟩
    exact hd acc p hp hP
theorem Rep.keep (R : Rep A C S) (h : ∀ l, C l ≠ none → S' (A l) = S (A l)) : Rep A C S' := ⟨fun {l o} e => by rw [h l (nn e)]; exact R.at_ e, R.inj⟩
end
end DL
namespace K
open PySem L2 Evl EX DL HM
abbrev s__law_things : Stmt := top 12
abbrev N__law_things : List Str := ["_law_well_here", "_law_hall", "_law_ways", "_law_things_here", "_law_many", "_law_k", "_law_own", "_law_near", "_law_j", "_law_other"]
theorem sc__law_things : FnScope N__law_things ["_law_well_here", "_law_hall", "_law_ways"] (defScope s__law_things) := ⟨rfl, rfl, rfl, by decide +kernel, rfl, by decide +kernel, by decide +kernel⟩
inductive OL where
  | wd | wl (n : Nat) | hi (n : Nat) | hl (n : Nat)
  deriving DecidableEq
def heldO (CD : Addr) (dx : Addr) (B : OL → Addr) (n : Nat) : O := .ins CD dx (heFs (.ref (B (.hl n))))
def oC (CD : Addr) (H : HA) (B : OL → Addr) (hx : Nat → Addr) (m : Nat) (ways : Nat → List Nat) (hv : Nat → Option (List Vl)) : OL → Option O
  | .wd => some (.dct (wayD (fun n => B (.wl n)) m))
  | .wl n => if 1 ≤ n ∧ n ≤ m then some (wayO (ways n)) else none
  | .hi n => (hv n).map fun _ => heldO CD (hx n) B n
  | .hl n => (hv n).map fun vs => .lst (vs.map (vD H))
/-- the hall, its holders' and the law's own beside one another -/
structure Lk (CT CH CD : Addr) (H : HA) (s : Hs) (B : OL → Addr) (hx : Nat → Addr) (m : Nat) (ways : Nat → List Nat) (hv : Nat → Option (List Vl)) (w : Addr) (S : Sto) : Prop where
  h : HRep CT CH .non H s S
  W : Wf s
  o : Rep B (oC CD H B hx m ways hv) S
  ap : Apart H.a (hC CT CH .non H s) B (oC CD H B hx m ways hv)
  wl : Well S w
  wh : ∀ l, hC CT CH .non H s l ≠ none → w ≠ H.a l
  wo : ∀ l, oC CD H B hx m ways hv l ≠ none → w ≠ B l
  own : ∀ n, 1 ≤ n → n ≤ s.many → match hv n with | none => NoTh (s.own n) | some _ => s.own n = .ref (B (.hi n))
  hvo : ∀ n vs, hv n = some vs → ∀ v ∈ vs, VOk s.many v
section
variable {CT CH CD : Addr} {H H' : HA} {s s' : Hs} {B : OL → Addr} {hx : Nat → Addr} {m : Nat} {ways : Nat → List Nat} {hv : Nat → Option (List Vl)} {w : Addr} {S S' : Sto}
theorem Well.live (h : Well S w) : S w ≠ none := by obtain ⟨_, _, _, _, _, g, _⟩ := h; rw [g]; exact nofun
theorem Well.at (h : Well S w) (e : S' w = S w) : Well S' w := by
  obtain ⟨a, b, c, d, cs, g, r⟩ := h
  exact ⟨a, b, c, d, cs, by rw [e]; exact g, r⟩
theorem well_lc {S3 : Sto} {p : Addr} {acc : List D} (hp : S p = none) (hw : Well S w) (hw3 : Well S3 w) (f : ∀ y, y ≠ w → S3 y = DL.put S p (.lst acc) y) : ∃ S4, S4 p = none ∧ S3 = DL.put S4 p (.lst acc) ∧ Well S4 w ∧ ∀ y, y ≠ w → S4 y = S y := by
  have npw : p ≠ w := fun z => hw.live (by rw [← z]; exact hp)
  refine ⟨del S3 p, if_pos rfl, funext fun y => ?_, hw3.at (if_neg (Ne.symm npw)), fun y hy => ?_⟩
  · by_cases z : y = p
    · subst z
      rw [put_same, f _ npw, put_same]
    · rw [put_ne z]
      exact (if_neg z).symm
  · by_cases z : y = p
    · subst z
      rw [hp]
      exact if_pos rfl
    · show (if y = p then none else S3 y) = S y
      rw [if_neg z, f y hy, put_ne z]
/-- a draw -/
theorem Lk.well (L : Lk CT CH CD H s B hx m ways hv w S) (hw : Well S' w) (f : ∀ y, y ≠ w → S' y = S y) : Lk CT CH CD H s B hx m ways hv w S' :=
  ⟨L.h.keep fun l hl => f _ (Ne.symm (L.wh l hl)), L.W, L.o.keep fun l hl => f _ (Ne.symm (L.wo l hl)), L.ap, hw, L.wh, L.wo, L.own, L.hvo⟩
/-- something more elsewhere -/
theorem Lk.kpt (L : Lk CT CH CD H s B hx m ways hv w S) (k : Kpt S S') : Lk CT CH CD H s B hx m ways hv w S' :=
  ⟨L.h.keep fun l hl => k _ (L.h.live hl), L.W, L.o.keep fun l hl => k _ (L.o.live hl), L.ap, L.wl.at (k _ L.wl.live), L.wh, L.wo, L.own, L.hvo⟩
theorem oC_congr (h : ∀ n vs, hv n = some vs → ∀ v ∈ vs, vD H' v = vD H v) : oC CD H' B hx m ways hv = oC CD H B hx m ways hv := by
  funext l
  cases l with
  | hl n =>
    show (hv n).map _ = (hv n).map _
    cases e : hv n with
    | none => rfl
    | some vs =>
      show some (O.lst (vs.map (vD H'))) = some (O.lst (vs.map (vD H)))
      rw [List.map_congr_left (h n vs e)]
  | _ => rfl
theorem vD_keep {en : D} (T : HTr CT CH en H s S H' s' S') {v : Vl} (hv : VOk s.many v) : vD H' v = vD H v := by
  cases v with
  | no d => rfl
  | th n =>
    have hv : 1 ≤ n ∧ n ≤ s.many := hv
    show D.ref _ = D.ref _
    rw [T.t hv.1 hv.2]
theorem hbes {en : D} {b : Addr} (T : HTr CT CH en H s S H' s' S') (hb : S b ≠ none) (h : ∀ l, hC CT CH en H s l ≠ none → b ≠ H.a l) : S' b = S b ∧ ∀ l, hC CT CH en H' s' l ≠ none → b ≠ H'.a l := ⟨T.tr.fr b hb h, fun l hl z => by
  rcases T.tr.ext l hl with ⟨h1, h2⟩ | h1
  · exact h l h1 (z.trans h2)
  · rw [← z] at h1; exact hb h1⟩
/-- the hall goes on -/
theorem Lk.hall (L : Lk CT CH CD H s B hx m ways hv w S) (T : HTr CT CH .non H s S H' s' S') (W : Wf s') (hm : s'.many = s.many) (ho : s'.own = s.own) : Lk CT CH CD H' s' B hx m ways hv w S' := by
  have ec : oC CD H' B hx m ways hv = oC CD H B hx m ways hv := oC_congr fun n vs e v hv' => vD_keep T (L.hvo n vs e v hv')
  obtain ⟨oR, ap⟩ := T.tr.keepR L.o L.ap
  have hw := hbes T L.wl.live L.wh
  exact ⟨T.rep, W, by rw [ec]; exact oR, by rw [ec]; exact ap, L.wl.at hw.1, hw.2, by rw [ec]; exact L.wo, fun n h1 h2 => by rw [ho]; exact L.own n h1 (by omega), fun n vs e v hv' => by rw [hm]; exact L.hvo n vs e v hv'⟩
/-- an address of none of these -/
def Out (CT CH CD : Addr) (H : HA) (s : Hs) (B : OL → Addr) (hx : Nat → Addr) (m : Nat) (ways : Nat → List Nat) (hv : Nat → Option (List Vl)) (w b : Addr) : Prop :=
  b ≠ w ∧ (∀ l, hC CT CH .non H s l ≠ none → b ≠ H.a l) ∧ ∀ l, oC CD H B hx m ways hv l ≠ none → b ≠ B l
theorem Lk.out (L : Lk CT CH CD H s B hx m ways hv w S) {b : Addr} (hb : S b = none) : Out CT CH CD H s B hx m ways hv w b :=
  ⟨fun z => L.wl.live (by rw [← z]; exact hb), fun l hl z => L.h.live hl (by rw [← z]; exact hb), fun l hl z => L.o.live hl (by rw [← z]; exact hb)⟩
theorem Lk.at_out (L : Lk CT CH CD H s B hx m ways hv w S) {b : Addr} (hb : Out CT CH CD H s B hx m ways hv w b) (o : O) : Lk CT CH CD H s B hx m ways hv w (DL.put S b o) :=
  ⟨L.h.keep fun l hl => put_ne (Ne.symm (hb.2.1 l hl)), L.W, L.o.keep fun l hl => put_ne (Ne.symm (hb.2.2 l hl)), L.ap, L.wl.at (put_ne (Ne.symm hb.1)), L.wh, L.wo, L.own, L.hvo⟩
theorem Out.hall (L : Lk CT CH CD H s B hx m ways hv w S) (T : HTr CT CH .non H s S H' s' S') {b : Addr} (hb : Out CT CH CD H s B hx m ways hv w b) (hl : S b ≠ none) : Out CT CH CD H' s' B hx m ways hv w b ∧ S' b = S b := by
  have ec : oC CD H' B hx m ways hv = oC CD H B hx m ways hv := oC_congr fun n vs e v hv' => vD_keep T (L.hvo n vs e v hv')
  have h1 := hbes T hl hb.2.1
  exact ⟨⟨hb.1, h1.2, by rw [ec]; exact hb.2.2⟩, h1.1⟩
theorem Lk.del_out (L : Lk CT CH CD H s B hx m ways hv w S) {b : Addr} (hb : Out CT CH CD H s B hx m ways hv w b) : Lk CT CH CD H s B hx m ways hv w (del S b) :=
  ⟨L.h.keep fun l hl => if_neg (Ne.symm (hb.2.1 l hl)), L.W, L.o.keep fun l hl => if_neg (Ne.symm (hb.2.2 l hl)), L.ap, L.wl.at (if_neg (Ne.symm hb.1)), L.wh, L.wo, L.own, L.hvo⟩
theorem Out.make0 (L : Lk CT CH CD H s B hx m ways hv w S) (T : HTr CT CH .non H s S H' s' S') {b : Addr} (hb : Out CT CH CD H s B hx m ways hv w b) (hl : S b ≠ none) : Out CT CH CD H' s' B hx m ways hv w b ∧ S' b = S b := Out.hall L T hb hl
/-- a thing more, nothing held by its own -/
theorem Lk.make0 (L : Lk CT CH CD H s B hx m ways hv w S) {form own : D} (T : HTr CT CH .non H s S H' (s.made form own) S') (hm : s.many < 5000) (ho : NoTh own) (hz : hv (s.many + 1) = none) : Lk CT CH CD H' (s.made form own) B hx m ways hv w S' := by
  have ec : oC CD H' B hx m ways hv = oC CD H B hx m ways hv := oC_congr fun n vs e v hv' => vD_keep T (L.hvo n vs e v hv')
  obtain ⟨oR, ap⟩ := T.tr.keepR L.o L.ap
  have hw := hbes T L.wl.live L.wh
  refine ⟨T.rep, L.W.made hm _ _, by rw [ec]; exact oR, by rw [ec]; exact ap, L.wl.at hw.1, hw.2, by rw [ec]; exact L.wo, fun n h1 h2 => ?_, fun n vs e v hv' => ?_⟩
  · show match hv n with | none => NoTh (fset s.own (s.many + 1) own n) | some _ => fset s.own (s.many + 1) own n = _
    by_cases z : n = s.many + 1
    · subst z
      rw [hz, fset_same]
      exact ho
    · rw [fset_ne z]
      exact L.own n h1 (by have : n ≤ s.many + 1 := h2; omega)
  · have := L.hvo n vs e v hv'
    cases v with
    | no d => exact this
    | th j => have := (show 1 ≤ j ∧ j ≤ s.many from this); exact (show 1 ≤ j ∧ j ≤ s.many + 1 by omega)
def grB (B : OL → Addr) (k : Nat) (h l : Addr) : OL → Addr
  | .hi n => if n = k then h else B (.hi n)
  | .hl n => if n = k then l else B (.hl n)
  | .wd => B .wd
  | .wl n => B (.wl n)
/-- a thing more, its own a holder -/
theorem Lk.make1 (L : Lk CT CH CD H s B hx m ways hv w S) {form : D} {h dx l : Addr} {vs : List Vl} (T : HTr CT CH .non H s S H' (s.made form (.ref h)) S') (hm : s.many < 5000) (hz : hv (s.many + 1) = none)
    (e1 : S h = some (.ins CD dx (heFs (.ref l)))) (e2 : S l = some (.lst (vs.map (vD H)))) (o1 : Out CT CH CD H s B hx m ways hv w h) (o2 : Out CT CH CD H s B hx m ways hv w l) (hvs : ∀ v ∈ vs, VOk s.many v) :
    Lk CT CH CD H' (s.made form (.ref h)) (grB B (s.many + 1) h l) (fset hx (s.many + 1) dx) m ways (fset hv (s.many + 1) (some vs)) w S' ∧
    ∀ b, S b ≠ none → b ≠ h → b ≠ l → Out CT CH CD H s B hx m ways hv w b → Out CT CH CD H' (s.made form (.ref h)) (grB B (s.many + 1) h l) (fset hx (s.many + 1) dx) m ways (fset hv (s.many + 1) (some vs)) w b ∧ S' b = S b := by
  have hnl : h ≠ l := fun z => by rw [z, e2] at e1; cases e1
  obtain ⟨oR, ap⟩ := T.tr.keepR L.o L.ap
  have hw := hbes T L.wl.live L.wh
  have hh := hbes T (nn e1) o1.2.1
  have hl := hbes T (nn e2) o2.2.1
  have vk : ∀ vs' : List Vl, (∀ v ∈ vs', VOk s.many v) → vs'.map (vD H') = vs'.map (vD H) := fun vs' h' => List.map_congr_left fun v hv' => vD_keep T (h' v hv')
  -- what is asked of a place
  have lab : ∀ x, oC CD H' (grB B (s.many + 1) h l) (fset hx (s.many + 1) dx) m ways (fset hv (s.many + 1) (some vs)) x = if x = .hi (s.many + 1) then some (.ins CD dx (heFs (.ref l))) else if x = .hl (s.many + 1) then some (.lst (vs.map (vD H))) else oC CD H B hx m ways hv x := fun x => by
    cases x with
    | wd => rfl
    | wl n => rfl
    | hi n =>
      by_cases z : n = s.many + 1
      · subst z
        rw [if_pos rfl]
        show (fset hv (s.many + 1) (some vs) (s.many + 1)).map (fun _ => heldO CD (fset hx (s.many + 1) dx (s.many + 1)) (grB B (s.many + 1) h l) (s.many + 1)) = _
        rw [fset_same, fset_same]
        show some (heldO CD dx (grB B (s.many + 1) h l) (s.many + 1)) = _
        unfold heldO
        rw [show grB B (s.many + 1) h l (.hl (s.many + 1)) = l from if_pos rfl]
      · rw [if_neg (fun e => z (by injection e)), if_neg nofun]
        show (fset hv (s.many + 1) (some vs) n).map (fun _ => heldO CD (fset hx (s.many + 1) dx n) (grB B (s.many + 1) h l) n) = (hv n).map (fun _ => heldO CD (hx n) B n)
        rw [fset_ne z, fset_ne z]
        have : heldO CD (hx n) (grB B (s.many + 1) h l) n = heldO CD (hx n) B n := by
          unfold heldO
          rw [show grB B (s.many + 1) h l (.hl n) = B (.hl n) from if_neg z]
        rw [this]
    | hl n =>
      by_cases z : n = s.many + 1
      · subst z
        rw [if_neg nofun, if_pos rfl]
        show (fset hv (s.many + 1) (some vs) (s.many + 1)).map _ = _
        rw [fset_same]
        show some (O.lst (vs.map (vD H'))) = _
        rw [vk vs hvs]
      · rw [if_neg nofun, if_neg (fun e => z (by injection e))]
        show (fset hv (s.many + 1) (some vs) n).map _ = (hv n).map _
        rw [fset_ne z]
        cases e : hv n with
        | none => rfl
        | some us =>
          show some (O.lst (us.map (vD H'))) = some (O.lst (us.map (vD H)))
          rw [vk us (L.hvo n us e)]
  have d1 : oC CD H B hx m ways hv (.hi (s.many + 1)) = none := by show (hv (s.many + 1)).map _ = none; rw [hz]; rfl
  have d2 : oC CD H B hx m ways hv (.hl (s.many + 1)) = none := by show (hv (s.many + 1)).map _ = none; rw [hz]; rfl
  have a1 : grB B (s.many + 1) h l (.hi (s.many + 1)) = h := if_pos rfl
  have a2 : grB B (s.many + 1) h l (.hl (s.many + 1)) = l := if_pos rfl
  have ae : ∀ x, x ≠ .hi (s.many + 1) → x ≠ .hl (s.many + 1) → grB B (s.many + 1) h l x = B x := fun x h1 h2 => by
    cases x with
    | wd => rfl
    | wl n => rfl
    | hi n => exact if_neg fun z => h1 (by rw [z])
    | hl n => exact if_neg fun z => h2 (by rw [z])
  have only : ∀ x, oC CD H B hx m ways hv x = none → oC CD H' (grB B (s.many + 1) h l) (fset hx (s.many + 1) dx) m ways (fset hv (s.many + 1) (some vs)) x ≠ none → x = .hi (s.many + 1) ∨ x = .hl (s.many + 1) := fun x h1 h2 => by
    rw [lab x] at h2
    by_cases z1 : x = .hi (s.many + 1)
    · exact .inl z1
    · by_cases z2 : x = .hl (s.many + 1)
      · exact .inr z2
      · rw [if_neg z1, if_neg z2] at h2; exact absurd h1 h2
  have oldne : ∀ x, oC CD H B hx m ways hv x ≠ none → x ≠ .hi (s.many + 1) ∧ x ≠ .hl (s.many + 1) := fun x hx' => ⟨fun z => hx' (by rw [z]; exact d1), fun z => hx' (by rw [z]; exact d2)⟩
  have oR' : Rep (grB B (s.many + 1) h l) (oC CD H' (grB B (s.many + 1) h l) (fset hx (s.many + 1) dx) m ways (fset hv (s.many + 1) (some vs))) S' := by
    refine oR.grow (fun x hx' => ae x (oldne x hx').1 (oldne x hx').2) (fun x o hx' e => ?_) (fun x o hx' e => ?_) (fun x y h1 h2 h3 h4 z => ?_)
    · rw [lab x, if_neg (oldne x hx').1, if_neg (oldne x hx').2] at e
      exact oR.at_ e
    · rcases only x hx' (nn e) with rfl | rfl
      · rw [lab, if_pos rfl] at e
        cases e
        rw [a1]
        exact ⟨o1.2.2, by rw [hh.1]; exact e1⟩
      · rw [lab, if_neg nofun, if_pos rfl] at e
        cases e
        rw [a2]
        exact ⟨o2.2.2, by rw [hl.1]; exact e2⟩
    · rcases only x h1 h2 with rfl | rfl <;> rcases only y h3 h4 with rfl | rfl
      · rfl
      · rw [a1, a2] at z; exact absurd z hnl
      · rw [a1, a2] at z; exact absurd z.symm hnl
      · rfl
  have apart : ∀ (b : Addr), b ≠ h → b ≠ l → (∀ x, oC CD H B hx m ways hv x ≠ none → b ≠ B x) → ∀ x, oC CD H' (grB B (s.many + 1) h l) (fset hx (s.many + 1) dx) m ways (fset hv (s.many + 1) (some vs)) x ≠ none → b ≠ grB B (s.many + 1) h l x := fun b n1 n2 hb x hx' => by
    by_cases z : oC CD H B hx m ways hv x = none
    · rcases only x z hx' with rfl | rfl
      · rw [a1]; exact n1
      · rw [a2]; exact n2
    · rw [ae x (oldne x z).1 (oldne x z).2]
      exact hb x z
  refine ⟨⟨T.rep, L.W.made hm _ _, oR', fun x y hx' hy => apart _ (fun z => hh.2 x hx' z.symm) (fun z => hl.2 x hx' z.symm) (fun y' hy' => ap x y' hx' hy') y hy, L.wl.at hw.1, hw.2, apart w (Ne.symm o1.1) (Ne.symm o2.1) L.wo, fun n h1 h2 => ?_, fun n us e v hv' => ?_⟩, fun b hb n1 n2 ob => ?_⟩
  · show match fset hv (s.many + 1) (some vs) n with | none => NoTh (fset s.own (s.many + 1) (.ref h) n) | some _ => fset s.own (s.many + 1) (.ref h) n = _
    by_cases z : n = s.many + 1
    · subst z
      rw [fset_same, fset_same]
      show D.ref h = .ref _
      rw [a1]
    · rw [fset_ne z, fset_ne z]
      have := L.own n h1 (by have : n ≤ s.many + 1 := h2; omega)
      rw [ae (.hi n) (fun e => z (by injection e)) nofun]
      exact this
  · have : ∀ v ∈ us, VOk s.many v := by
      by_cases z : n = s.many + 1
      · subst z
        rw [fset_same] at e
        cases e
        exact hvs
      · rw [fset_ne z] at e
        exact L.hvo n us e
    have := this v hv'
    cases v with
    | no d => exact this
    | th j => have := (show 1 ≤ j ∧ j ≤ s.many from this); exact (show 1 ≤ j ∧ j ≤ s.many + 1 by omega)
  · have h1 := hbes T hb ob.2.1
    exact ⟨⟨ob.1, h1.2, apart b n1 n2 ob.2.2⟩, h1.1⟩
theorem wayD_succ {wa : Nat → Addr} {m : Nat} : wayD wa (m + 1) = wayD wa m ++ [((.inl ((m + 1 : Nat) : Int), .ref (wa (m + 1))) : Key × D)] := by
  unfold wayD
  rw [List.range_succ, List.map_append]
  rfl
theorem wayD_congr {wa wb : Nat → Addr} {m : Nat} (h : ∀ n, 1 ≤ n → n ≤ m → wa n = wb n) : wayD wa m = wayD wb m := by
  unfold wayD
  refine List.map_congr_left fun i hi => ?_
  rw [h (i + 1) (by omega) (by have := List.mem_range.mp hi; omega)]
def wlB (B : OL → Addr) (k : Nat) (p : Addr) : OL → Addr := fun x => if x = .wl k then p else B x
/-- ways of one more -/
theorem Lk.way (L : Lk CT CH CD H s B hx m ways hv w S) {p : Addr} (hp : S p = none) (l : List Nat) :
    Lk CT CH CD H s (wlB B (m + 1) p) hx (m + 1) (fset ways (m + 1) l) hv w (DL.put (DL.put S p (wayO l)) (B .wd) (.dct (wayD (fun n => B (.wl n)) m ++ [((.inl ((m + 1 : Nat) : Int), .ref p) : Key × D)]))) ∧
    ∀ b, S b ≠ none → Out CT CH CD H s B hx m ways hv w b → Out CT CH CD H s (wlB B (m + 1) p) hx (m + 1) (fset ways (m + 1) l) hv w b ∧ (DL.put (DL.put S p (wayO l)) (B .wd) (.dct (wayD (fun n => B (.wl n)) m ++ [((.inl ((m + 1 : Nat) : Int), .ref p) : Key × D)]))) b = S b := by
  have lab : ∀ x, x ≠ .wd → x ≠ .wl (m + 1) → oC CD H (wlB B (m + 1) p) hx (m + 1) (fset ways (m + 1) l) hv x = oC CD H B hx m ways hv x := fun x h0 h1 => by
    cases x with
    | wd => exact absurd rfl h0
    | wl n =>
      have z : n ≠ m + 1 := fun z => h1 (by rw [z])
      show (if 1 ≤ n ∧ n ≤ m + 1 then some (wayO (fset ways (m + 1) l n)) else none) = if 1 ≤ n ∧ n ≤ m then some (wayO (ways n)) else none
      rw [fset_ne z]
      by_cases h2 : 1 ≤ n ∧ n ≤ m
      · rw [if_pos h2, if_pos (by omega)]
      · rw [if_neg h2, if_neg (by omega)]
    | hi n =>
      show (hv n).map _ = (hv n).map _
      have : heldO CD (hx n) (wlB B (m + 1) p) n = heldO CD (hx n) B n := rfl
      rw [this]
    | hl n => rfl
  have dead : oC CD H B hx m ways hv (.wl (m + 1)) = none := if_neg (by omega)
  have cw : oC CD H (wlB B (m + 1) p) hx (m + 1) (fset ways (m + 1) l) hv (.wl (m + 1)) = some (wayO l) := by
    show (if 1 ≤ m + 1 ∧ m + 1 ≤ m + 1 then some (wayO (fset ways (m + 1) l (m + 1))) else none) = _
    rw [if_pos (by omega), fset_same]
  have cd : oC CD H (wlB B (m + 1) p) hx (m + 1) (fset ways (m + 1) l) hv .wd = some (.dct (wayD (fun n => B (.wl n)) m ++ [((.inl ((m + 1 : Nat) : Int), .ref p) : Key × D)])) := by
    show some (O.dct (wayD _ (m + 1))) = _
    rw [wayD_succ, wayD_congr (wa := fun n => wlB B (m + 1) p (.wl n)) (wb := fun n => B (.wl n)) fun n h1 h2 => if_neg (fun e => by injection e with e; omega)]
    show some (O.dct (_ ++ [(_, D.ref (if OL.wl (m + 1) = OL.wl (m + 1) then p else B (.wl (m + 1))))])) = _
    rw [if_pos rfl]
  have hwd : oC CD H B hx m ways hv .wd ≠ none := nofun
  have npd : p ≠ B .wd := fun z => L.o.live hwd (by rw [← z]; exact hp)
  have ne : ∀ x, oC CD H B hx m ways hv x ≠ none → x ≠ .wl (m + 1) := fun x hx' z => hx' (by rw [z]; exact dead)
  have nep : ∀ x, oC CD H B hx m ways hv x ≠ none → p ≠ B x := fun x hx' z => L.o.live hx' (by rw [← z]; exact hp)
  have bx : ∀ x, x ≠ .wl (m + 1) → wlB B (m + 1) p x = B x := fun x h => if_neg h
  have bp : wlB B (m + 1) p (.wl (m + 1)) = p := if_pos rfl
  have lives : ∀ x, oC CD H (wlB B (m + 1) p) hx (m + 1) (fset ways (m + 1) l) hv x ≠ none → oC CD H B hx m ways hv x ≠ none ∨ x = .wl (m + 1) := fun x hx' => by
    by_cases z : x = .wl (m + 1)
    · exact .inr z
    · by_cases z2 : x = .wd
      · rw [z2]; exact .inl hwd
      · rw [lab x z2 z] at hx'; exact .inl hx'
  have oR' : Rep (wlB B (m + 1) p) (oC CD H (wlB B (m + 1) p) hx (m + 1) (fset ways (m + 1) l) hv) (DL.put (DL.put S p (wayO l)) (B .wd) (.dct (wayD (fun n => B (.wl n)) m ++ [((.inl ((m + 1 : Nat) : Int), .ref p) : Key × D)]))) := by
    refine L.o.grow (fun x hx' => bx x (ne x hx')) (fun x o hx' e => ?_) (fun x o hx' e => ?_) (fun x y h1 h2 h3 h4 _ => ?_)
    · by_cases z : x = .wd
      · subst z
        rw [cd] at e
        cases e
        exact put_same
      · rw [lab x z (ne x hx')] at e
        rw [put_ne (L.o.ne hx' hwd z), put_ne (Ne.symm (nep x hx'))]
        exact L.o.at_ e
    · rcases lives x (nn e) with h1 | rfl
      · exact absurd hx' h1
      · rw [cw] at e
        cases e
        rw [bp]
        exact ⟨nep, by rw [put_ne npd]; exact put_same⟩
    · rcases lives x h2 with h | rfl
      · exact absurd h1 h
      · rcases lives y h4 with h | rfl
        · exact absurd h3 h
        · rfl
  have apart : ∀ b : Addr, b ≠ p → (∀ x, oC CD H B hx m ways hv x ≠ none → b ≠ B x) → ∀ x, oC CD H (wlB B (m + 1) p) hx (m + 1) (fset ways (m + 1) l) hv x ≠ none → b ≠ wlB B (m + 1) p x := fun b n1 hb x hx' => by
    rcases lives x hx' with h | rfl
    · rw [bx x (ne x h)]; exact hb x h
    · rw [bp]; exact n1
  have np : ∀ b, S b ≠ none → b ≠ p := fun b hb z => hb (by rw [z]; exact hp)
  refine ⟨⟨L.h.keep fun x hx' => by rw [put_ne (L.ap x .wd hx' hwd), put_ne (np _ (L.h.live hx'))], L.W, oR', fun x y hx' hy => apart _ (np _ (L.h.live hx')) (fun y' hy' => L.ap x y' hx' hy') y hy, L.wl.at (by rw [put_ne (L.wo .wd hwd), put_ne (np _ L.wl.live)]), L.wh, apart w (np _ L.wl.live) L.wo, fun n h1 h2 => ?_, L.hvo⟩, fun b hb ob => ⟨⟨ob.1, ob.2.1, apart b (np b hb) ob.2.2⟩, by rw [put_ne (ob.2.2 .wd hwd), put_ne (np b hb)]⟩⟩
  exact L.own n h1 h2
/-- a way more of one that has some -/
theorem Lk.way1 (L : Lk CT CH CD H s B hx m ways hv w S) {n : Nat} (h1 : 1 ≤ n) (h2 : n ≤ m) (l : List Nat) : Lk CT CH CD H s B hx m (fset ways n l) hv w (DL.put S (B (.wl n)) (wayO l)) := by
  have c0 : oC CD H B hx m ways hv (.wl n) = some (wayO (ways n)) := if_pos ⟨h1, h2⟩
  have c1 : oC CD H B hx m (fset ways n l) hv (.wl n) = some (wayO l) := by
    show (if 1 ≤ n ∧ n ≤ m then some (wayO (fset ways n l n)) else none) = _
    rw [if_pos ⟨h1, h2⟩, fset_same]
  have lab : ∀ x, x ≠ .wl n → oC CD H B hx m (fset ways n l) hv x = oC CD H B hx m ways hv x := fun x hx' => by
    cases x with
    | wl i =>
      have z : i ≠ n := fun z => hx' (by rw [z])
      show (if 1 ≤ i ∧ i ≤ m then some (wayO (fset ways n l i)) else none) = if 1 ≤ i ∧ i ≤ m then some (wayO (ways i)) else none
      rw [fset_ne z]
    | _ => rfl
  have lv := live_of c0 c1 lab
  have T := L.o.set (pin := fun _ => True) c0 c1 lab
  refine ⟨L.h.keep fun x hx' => put_ne (L.ap x (.wl n) hx' (nn c0)), L.W, T.rep, fun x y hx' hy => L.ap x y hx' ((lv y).mp hy), L.wl.at (put_ne (L.wo (.wl n) (nn c0))), L.wh, fun x hx' => L.wo x ((lv x).mp hx'), L.own, L.hvo⟩
theorem Out.way1 {b : Addr} {n : Nat} {l : List Nat} (h1 : 1 ≤ n) (h2 : n ≤ m) (ob : Out CT CH CD H s B hx m ways hv w b) : Out CT CH CD H s B hx m (fset ways n l) hv w b := by
  refine ⟨ob.1, ob.2.1, fun x hx' => ob.2.2 x ?_⟩
  cases x with
  | wl i =>
    have : (if 1 ≤ i ∧ i ≤ m then some (wayO (fset ways n l i)) else none) ≠ none := hx'
    show (if 1 ≤ i ∧ i ≤ m then some (wayO (ways i)) else none) ≠ none
    split at this
    · rename_i z; rw [if_pos z]; exact nofun
    · exact absurd rfl this
  | _ => exact hx'
end
section
variable {P : Program} {w : World} {K : PySem.W.Frag} {mg : Str → Option Value} {base : Heap} {CT CH CD : Addr} {en : D}
local macro_rules | `(tactic| walk_at "dl") => `(tactic| try simp only [↓x_lcN, ↓x_lcSN, ↓x_catM, ↓x_neV, ↓x_sortSet, ↓x_sortDLN, ↓x_lrg, ↓x_neg, ↓x_lcS, ↓x_lockE, ↓x_eqA, ↓x_dictD, ↓x_disp, ↓x_pNil, ↓x_pCons, ↓x_forS, ↓x_diSL, ↓x_diKeys, ↓x_lock, ↓x_dictP, ↓x_fld, ↓x_fldS, ↓x_fldA, ↓x_meth, ↓x_make, ↓x_dget, ↓x_din, ↓x_dget1, ↓x_dget2, ↓x_dpop, ↓x_dput, ↓x_listD, ↓x_sortDI, ↓x_lenD, ↓x_isiC, x_icS, x_icI, x_icB, x_icN, x_ioS, x_ioI, x_ioB, x_ioN, ↓x_gSub, ↓x_sortDL, ↓x_eqO, ↓x_ninA, x_catN, x_isBB, x_isBN, x_isBI, x_isBS, x_isBR, ↓x_seq, ↓x_nx, ↓x_pass, ↓x_brk, ↓x_cnt, ↓x_drop, ↓x_ret, ↓x_retN, ↓x_ifS, ↓x_set, ↓x_asg, ↓x_gN, ↓x_gT, ↓x_gsC, ↓x_gsN, ↓x_var, x_rdv, ↓x_c, ↓x_op, ↓x_test, x_tst, ↓x_and, ↓x_or, ↓x_not, ↓x_andV, ↓x_orV, ↓x_notV, x_tstV, ↓x_ifE, x_true, x_false, ↓x_nil, ↓x_cons, ↓x_tup, ↓x_lst, ↓x_new, ↓x_newD, ↓x_call, ↓x_cb, x_oI, x_oIc, x_oS, x_addS, x_isN, x_notN, x_eqI, x_eqS, x_eqIS, x_eqSI, x_eqNS, x_neI, x_neS, x_neB, x_eqB, x_few, x_need, ↓x_ix, x_lenS, x_ixL0, x_ixT0, x_ixT1, x_ixT2, x_ixT3, x_ixT4, x_lenL, x_lenT, x_lenC, x_listL, x_listT, x_tupL, x_tupT, x_strI, x_strS, x_int1, x_intB, x_I1, x_I2, x_cat, x_catT, ↓x_split, ↓x_for, ↓x_cut, ↓x_lc, ↓x_whl, ↓x_diL, ↓x_diT, ↓x_diS, x_itL, x_itC, x_itT, x_itS, ↓x_diR1, ↓x_diR2, ↓x_diE, x_enmL, x_enmC, ↓x_gcN, ↓x_gcT, ↓x_yes, ↓x_ml, ↓x_ms, x_strq, x_ss, x_ssc, x_ssi, ↓x_join, ↓x_aug, x_st2I, ↓x_sl, ↓x_noP, ↓x_part, x_intq, x_slL, x_slC, x_slS, ↓x_in, x_inT, x_inL, x_ninT, x_ninL, x_inN, x_inSS, x_inSI, x_inIS, x_inII, ↓x_sg, x_sgS, x_nsgS, ↓x_eqD, ↓x_inDD, x_mulS, ↓x_isi, x_isiS, x_isiI, x_isiB, x_isiN, x_isiL, x_isiT, ↓x_isTT, x_itI, x_itStr, x_itN, x_itB, x_itLst, x_itTup, ↓x_any, ↓x_all, ↓x_sum, ↓x_srtI, ↓x_srtS, ↓x_intS, ↓x_lenRf, ↓x_tupRf, ↓x_frz', x_flS, x_flI, x_flN, x_flB, x_cs_bool, x_isB_NoneType_bool, x_isB_bool_bool, x_isB_int_bool, x_isB_str_bool, x_isB_list_bool, x_isB_tuple_bool, x_isB_dict_bool, x_cs_int, x_isB_NoneType_int, x_isB_bool_int, x_isB_int_int, x_isB_str_int, x_isB_list_int, x_isB_tuple_int, x_isB_dict_int, x_cs_str, x_isB_NoneType_str, x_isB_bool_str, x_isB_int_str, x_isB_str_str, x_isB_list_str, x_isB_tuple_str, x_isB_dict_str, x_cs_list, x_isB_NoneType_list, x_isB_bool_list, x_isB_int_list, x_isB_str_list, x_isB_list_list, x_isB_tuple_list, x_isB_dict_list, x_cs_tuple, x_isB_NoneType_tuple, x_isB_bool_tuple, x_isB_int_tuple, x_isB_str_tuple, x_isB_list_tuple, x_isB_tuple_tuple, x_isB_dict_tuple, x_cs_dict, x_isB_NoneType_dict, x_isB_bool_dict, x_isB_int_dict, x_isB_str_dict, x_isB_list_dict, x_isB_tuple_dict, x_isB_dict_dict, List.all_cons, List.all_nil, Bool.and_self, Bool.or_false, Bool.or_true, Bool.false_or, Bool.true_or, wipeD, setD, DL.isNon, List.set_cons_zero, List.set_cons_succ, List.getElem?_cons_zero, List.getElem?_cons_succ, List.length_cons, List.length_nil, Nat.zero_add, List.cons_append, List.nil_append, decide_true, decide_false, Bool.not_true, Bool.not_false, true_and, and_true, startD, List.map_cons, List.map_nil, Nat.reduceSub, Nat.reduceLeDiff, Nat.zero_le, Int.reduceLT, Int.reduceLE, and_self, Nat.reduceAdd, List.replicate])
structure Pt (s : Hs) (ways : Nat → List Nat) (hv : Nat → Option (List Vl)) (m : Nat) : Prop where
  many : s.many = m
  row : s.row = none
  there : s.there = (List.range m).map (· + 1)
  left : s.left = []
  hvo : ∀ n vs, hv n = some vs → 1 ≤ n ∧ n ≤ m ∧ vs.length ≤ 6
  ed : ∀ n, 1 ≤ n → n ≤ m → ∀ j, Vl.th j ∈ ledV s hv n ↔ j ∈ ways n
  wb : ∀ n, 1 ≤ n → n ≤ m → ∀ j ∈ ways n, 1 ≤ j ∧ j ≤ m
  wlen : ∀ n, 1 ≤ n → n ≤ m → (ways n).length ≤ 3 + (s.parts n).length
  plen : ∀ n, (s.parts n).length ≤ 4
theorem wayD_none {wa : Nat → Addr} {m : Nat} {k : Int} (h : (m : Int) < k) : gval (wayD wa m) (.inl k) = none := by
  unfold gval
  rw [Option.map_eq_none_iff, List.find?_eq_none]
  intro x hx
  obtain ⟨n, hn, rfl⟩ := List.mem_map.mp hx
  have := List.mem_range.mp hn
  rw [decide_eq_true_iff]
  intro z
  have := Sum.inl.inj z
  omega
def refsT (H : HA) (m : Nat) : List D := (List.range m).map fun i => .ref (H.a (.t (i + 1)))
def heldVs (i : Nat) (near : List Nat) : List Vl := near.map (fun j => .th (j + 1)) ++ [.no (.int (i : Int)), .no (.str (Str.ofString "text"))]
theorem th_heldVs {i : Nat} {near : List Nat} {j : Nat} : Vl.th j ∈ heldVs i near ↔ j ∈ near.map (· + 1) := by
  unfold heldVs
  rw [List.mem_append, List.mem_map, List.mem_map]
  constructor
  · rintro (⟨a, h1, h2⟩ | h)
    · cases h2; exact ⟨a, h1, rfl⟩
    · simp at h
  · rintro ⟨a, h1, h2⟩
    exact .inl ⟨a, h1, by rw [← h2]⟩
theorem Pt.putno {s : Hs} {ways : Nat → List Nat} {hv : Nat → Option (List Vl)} {m n : Nat} {k : Key} {d : D} (Q : Pt s ways hv m) (hn : n ≤ m) (g : gval (s.parts n) k = none) (hl : (s.parts n).length ≤ 3) : Pt (s.putP n k (.no d)) ways hv m := by
  have pp : (s.putP n k (.no d)).parts = fset s.parts n (s.parts n ++ [(k, .no d)]) := by
    show fset s.parts n (gput (s.parts n) k (.no d)) = _
    rw [gput_new g]
  have lv : ∀ i j, Vl.th j ∈ ledV (s.putP n k (.no d)) hv i ↔ Vl.th j ∈ ledV s hv i := fun i j => by
    unfold ledV
    rw [pp]
    by_cases z : i = n
    · subst z
      rw [fset_same]
      simp
    · rw [fset_ne z]
  refine ⟨Q.many, Q.row, Q.there, Q.left, Q.hvo, fun i h1 h2 j => (lv i j).trans (Q.ed i h1 h2 j), Q.wb, fun i h1 h2 => ?_, fun i => ?_⟩
  · rw [pp]
    have := Q.wlen i h1 h2
    by_cases z : i = n
    · subst z
      rw [fset_same, List.length_append]
      show _ ≤ 3 + (_ + 1)
      omega
    · rw [fset_ne z]; exact this
  · rw [pp]
    by_cases z : i = n
    · subst z
      rw [fset_same, List.length_append]
      show _ + 1 ≤ 4
      omega
    · rw [fset_ne z]; exact Q.plen i
theorem Pt.putth {s : Hs} {ways : Nat → List Nat} {hv : Nat → Option (List Vl)} {m n : Nat} {k : Key} {o : Nat} (Q : Pt s ways hv m) (h1 : 1 ≤ n) (hn : n ≤ m) (g : gval (s.parts n) k = none) (hl : (s.parts n).length ≤ 3) (ho : VOk s.many (.th o)) : Pt (s.putP n k (.th o)) (fset ways n (ways n ++ [o])) hv m := by
  have ho : 1 ≤ o ∧ o ≤ s.many := ho
  have pp : (s.putP n k (.th o)).parts = fset s.parts n (s.parts n ++ [(k, .th o)]) := by
    show fset s.parts n (gput (s.parts n) k (.th o)) = _
    rw [gput_new g]
  refine ⟨Q.many, Q.row, Q.there, Q.left, Q.hvo, fun i h1 h2 j => ?_, fun i h1 h2 j hj => ?_, fun i h1 h2 => ?_, fun i => ?_⟩
  · have := Q.ed i h1 h2 j
    unfold ledV at this ⊢
    rw [pp]
    by_cases z : i = n
    · subst z
      rw [fset_same, fset_same, List.map_append, List.mem_append, List.mem_append, List.mem_append, ← this, List.mem_append]
      simp only [List.map_cons, List.map_nil, List.mem_singleton, Vl.th.injEq]
      constructor
      · rintro ((h | h) | h)
        · exact .inl (.inl h)
        · exact .inr h
        · exact .inl (.inr h)
      · rintro ((h | h) | h)
        · exact .inl (.inl h)
        · exact .inr h
        · exact .inl (.inr h)
    · rw [fset_ne z, fset_ne z]
      exact this
  · by_cases z : i = n
    · subst z
      rw [fset_same] at hj
      rcases List.mem_append.mp hj with hj | hj
      · exact Q.wb i h1 h2 j hj
      · rw [List.mem_singleton.mp hj, ← Q.many]; exact ho
    · rw [fset_ne z] at hj
      exact Q.wb i h1 h2 j hj
  · rw [pp]
    have := Q.wlen i h1 h2
    by_cases z : i = n
    · subst z
      rw [fset_same, fset_same, List.length_append, List.length_append]
      show _ + 1 ≤ 3 + (_ + 1)
      omega
    · rw [fset_ne z, fset_ne z]; exact this
  · rw [pp]
    by_cases z : i = n
    · subst z
      rw [fset_same, List.length_append]
      show _ + 1 ≤ 4
      omega
    · rw [fset_ne z]; exact Q.plen i
theorem Pt.made {s : Hs} {ways : Nat → List Nat} {hv : Nat → Option (List Vl)} {i : Nat} (Q : Pt s ways hv i) (pz : ∀ n, s.parts n = []) {near : List Nat} (hlt : ∀ j ∈ near, j < i) (hnl : near.length ≤ 3) {ov : Option (List Vl)} (hov : (ov = none ∧ near = []) ∨ ov = some (heldVs i near)) {form own : D} :
    Pt (s.made form own) (fset ways (i + 1) (near.map (· + 1))) (fset hv (i + 1) ov) (i + 1) := by
  have hlv : ∀ n, ledV (s.made form own) (fset hv (i + 1) ov) n = (fset hv (i + 1) ov n).getD [] := fun n => by
    show (s.parts n).map (·.2) ++ _ = _
    rw [pz n]
    rfl
  refine ⟨by show s.many + 1 = _; rw [Q.many], Q.row, by show s.there ++ [s.many + 1] = _; rw [Q.there, Q.many, List.range_succ, List.map_append]; rfl, Q.left, fun n vs e => ?_, fun n h1 h2 j => ?_, fun n h1 h2 j hj => ?_, fun n h1 h2 => ?_, Q.plen⟩
  · by_cases z : n = i + 1
    · subst z
      rw [fset_same] at e
      rcases hov with ⟨rfl, _⟩ | rfl
      · cases e
      · cases e
        refine ⟨by omega, Nat.le_refl _, ?_⟩
        unfold heldVs
        rw [List.length_append, List.length_map]
        show near.length + 2 ≤ 6
        omega
    · rw [fset_ne z] at e
      have := Q.hvo n vs e
      exact ⟨this.1, by omega, this.2.2⟩
  · rw [hlv]
    by_cases z : n = i + 1
    · subst z
      rw [fset_same, fset_same]
      rcases hov with ⟨rfl, rfl⟩ | rfl
      · simp
      · exact th_heldVs
    · rw [fset_ne z, fset_ne z]
      have := Q.ed n h1 (by omega) j
      unfold ledV at this
      rw [pz n] at this
      exact this
  · by_cases z : n = i + 1
    · subst z
      rw [fset_same] at hj
      obtain ⟨a, h3, h4⟩ := List.mem_map.mp hj
      have := hlt a h3
      omega
    · rw [fset_ne z] at hj
      have := Q.wb n h1 (by omega) j hj
      omega
  · by_cases z : n = i + 1
    · subst z
      rw [fset_same, List.length_map]
      exact Nat.le_trans hnl (Nat.le_add_right _ _)
    · rw [fset_ne z]
      exact Q.wlen n h1 (by omega)
def dThings28 (CT CH CD : Addr) : SpD := fun ds S k _ => ∃ (H : HA) (s : Hs) (B : OL → Addr) (hx : Nat → Addr) (w : Addr), ds = [.ref w, .ref (H.a .hall), .ref (B .wd)] ∧ Lk CT CH CD H s B hx 0 (fun _ => []) (fun _ => none) w S ∧ Pt s (fun _ => []) (fun _ => none) 0 ∧ (∀ n, s.parts n = []) ∧
  ∀ m H' s' B' hx' ways hv S', 1 ≤ m → m ≤ 20 → Lk CT CH CD H' s' B' hx' m ways hv w S' → Pt s' ways hv m → H'.a .hall = H.a .hall → B' .wd = B .wd → k (.list (refsT H' m)) S'
theorem ok_things28 {fa : Addr} {fd : FuncData} (F : Fun K "_law_things" "_law_things" s__law_things fa fd) (T : TxW K mg CT CH CD) (G__law_dig : DefD P w K mg base 2 "_law_dig" ["_law_well_here", "_law_most"] dDig) (G_mk_Held : MkDef P w K mg base 1 "Held" CD ["self", "values"] (lSp K (dHeInit CD)))
    (G_Hall_make : MDef P w K mg base 3 CH "make" ["self", "form", "own"] (lSp K (dMake CT CH .non))) (G_Hall_put : MDef P w K mg base 8 CH "put" ["self", "thing", "key", "value"] (lSp K (dPut CT CH .non askNo))) :
    FnOk P w K mg base CX0 9 fa fd ["_law_well_here", "_law_hall", "_law_ways"] (lSp K (dThings28 CT CH CD)) := by
  refine dok F sc__law_things (fun ds S q qx ⟨H, s, B, hx, w, h, _⟩ => by rw [h]; rfl) ⟨_, fun cdv A outer s H E hr => dss_cons (ds_set (i := 3) sc__law_things.nd rfl (Or.inr rfl) (de_new (da_nil)))
      (dss_cons (ds_set (i := 4) sc__law_things.nd rfl (Or.inl rfl) (de_op op_add si_add (de_int) (de_call G__law_dig (hr.mono (by decide)) (by rfl) (da_cons (de_var 0) (da_cons (de_int) da_nil)))))
      (dss_cons (ds_for PassesOwn.never rfl (di_range1 (by rfl) T.range (da_cons (de_var 4) da_nil)) (dg_name (i := 5) sc__law_things.nd rfl (Or.inr rfl))
        (dss_cons (ds_set (i := 6) sc__law_things.nd rfl (Or.inl rfl) (de_ix ix_seq (si_ix rfl) (de_lst (da_cons (de_non) (da_cons (de_var 5) (da_cons (de_str) da_nil)))) (de_call G__law_dig (hr.mono (by decide)) (by rfl) (da_cons (de_var 0) (da_cons (de_int) da_nil))) (fun _ _ => rfl)))
        (dss_cons (ds_set (i := 7) sc__law_things.nd rfl (Or.inl rfl) (de_lst (da_nil)))
        (dss_cut (ds_if (PW.pt (dw_and (dt_cmp op_gt si_gt (de_var 5) (de_int) (nomark _)) (dw_and1 (dt_cmp op_eq si_eq (de_call G__law_dig (hr.mono (by decide)) (by rfl) (da_cons (de_var 0) (da_cons (de_int) da_nil))) (de_int) (nomark _)))))
          (dss_cons (ds_setLc (i := 7) (own := [("_law_j", 8)]) (gc_name (j := 8) (by decide)) rfl sc__law_things.nd rfl rfl (sw_true rfl rfl rfl (by decide +kernel)) (di_range1 (by rfl) T.range (da_cons (de_op op_add si_add (de_int) (de_call G__law_dig (hr.mono (by decide)) (by rfl) (da_cons (de_var 0) (da_cons (de_int) da_nil)))) da_nil)) (blkOk_by (N := N__law_things) (sc := defScope s__law_things) (by decide +kernel)) (fun _ _ _ _ _ => pg_name (i := 8) sc__law_things.nd rfl (Or.inl rfl)) (fun _ _ _ _ _ => dts_nil) (fun _ _ _ _ _ => de_call G__law_dig (hr.mono (by decide)) (by rfl) (da_cons (de_var 0) (da_cons (de_var 5) da_nil))))
          (dss_one (ds_set (i := 6) sc__law_things.nd rfl (Or.inl rfl) (de_make G_mk_Held (hr.mono (by decide)) (by rfl) (da_cons (de_op op_cat si_cat (de_lc (own := [("_law_j", 8)]) (gc_name (j := 8) (by decide)) rfl sc__law_things.nd (di_list (K := K) (de_var 7)) (blkOk_by (N := N__law_things) (sc := defScope s__law_things) (by decide +kernel)) (fun _ _ _ _ _ => pg_name (i := 8) sc__law_things.nd rfl (Or.inl rfl)) (fun _ _ _ _ _ => dts_nil) (fun _ _ _ _ _ => de_ix ix_seq (si_ix rfl) (de_var 3) (de_var 8) (fun _ _ => rfl))) (de_lst (da_cons (de_var 5) (da_cons (de_str) da_nil)))) da_nil)))))
          (dss_nil))
        (dss_cons (ds_expr (de_ml PySem.F.slot_list_append PySem.F.type_list_append mt_append si_app (de_var 3) (da_cons (de_meth T.Hall_ G_Hall_make (hr.mono (by decide)) (de_var 1) (da_cons (de_str) (da_cons (de_var 6) da_nil))) da_nil)))
        (dss_one (ds_dput (hu_of hr) (de_var 2) (de_op op_add si_add (de_var 5) (de_int)) (de_lcN (own := [("_law_j", 8)]) (gc_name (j := 8) (by decide)) rfl sc__law_things.nd (di_list (K := K) (de_var 7)) (blkOk_by (N := N__law_things) (sc := defScope s__law_things) (by decide +kernel)) (fun _ _ _ _ _ => pg_name (i := 8) sc__law_things.nd rfl (Or.inl rfl)) (fun _ _ _ _ _ => dts_nil) (fun _ _ _ _ _ => de_op op_add si_add (de_var 8) (de_int))))))))))
      (dss_cons (ds_for PassesOwn.never rfl (di_range1 (by rfl) T.range (da_cons (de_var 4) da_nil)) (dg_name (i := 5) sc__law_things.nd rfl (Or.inr rfl))
        (dss_one (ds_for PassesOwn.never rfl (di_range1 (by rfl) T.range (da_cons (de_call G__law_dig (hr.mono (by decide)) (by rfl) (da_cons (de_var 0) (da_cons (de_int) da_nil))) da_nil)) (dg_name (i := 8) sc__law_things.nd rfl (Or.inl rfl))
          (dss_one (ds_if (dt_cmp op_eq si_eq (de_call G__law_dig (hr.mono (by decide)) (by rfl) (da_cons (de_var 0) (da_cons (de_int) da_nil))) (de_int) (nomark _))
            (dss_one (ds_expr (de_meth T.Hall_ G_Hall_put (hr.mono (by decide)) (de_var 1) (da_cons (de_ix ix_seq (si_ix rfl) (de_var 3) (de_var 5) (fun _ _ => rfl)) (da_cons (de_var 8) (da_cons (de_ix ix_seq (si_ix rfl) (de_lst (da_cons (de_call G__law_dig (hr.mono (by decide)) (by rfl) (da_cons (de_var 0) (da_cons (de_int) da_nil))) (da_cons (de_str) (da_cons (de_bl) (da_cons (de_non) da_nil))))) (de_call G__law_dig (hr.mono (by decide)) (by rfl) (da_cons (de_var 0) (da_cons (de_int) da_nil))) (fun _ _ => rfl)) da_nil))))))
            (dss_cons (ds_set (i := 9) sc__law_things.nd rfl (Or.inl rfl) (de_call G__law_dig (hr.mono (by decide)) (by rfl) (da_cons (de_var 0) (da_cons (de_var 4) da_nil))))
            (dss_cons (ds_expr (de_meth T.Hall_ G_Hall_put (hr.mono (by decide)) (de_var 1) (da_cons (de_ix ix_seq (si_ix rfl) (de_var 3) (de_var 5) (fun _ _ => rfl)) (da_cons (de_var 8) (da_cons (de_ix ix_seq (si_ix rfl) (de_var 3) (de_var 9) (fun _ _ => rfl)) da_nil)))))
            (dss_one (ds_expr (de_ml PySem.F.slot_list_append PySem.F.type_list_append mt_append si_app (de_dget (hu_of hr) (de_var 2) (de_op op_add si_add (de_var 5) (de_int)) (fun _ _ => rfl)) (da_cons (de_op op_add si_add (de_var 9) (de_int)) da_nil)))))))))))
      (dss_one (ds_ret (de_frz 3)))))), fun ds S q qx ⟨H, s, B, hx, w, hd, L, Pp, pz0, h⟩ => ?_⟩
  subst hd
  walk_at "dl"
  refine freshOf fun p hp => ?_
  have op := L.out hp
  have L1 := L.at_out op (.lst [])
  walk_at "dl"
  refine ⟨w, 20, rfl, L1.wl, by decide, by decide, fun r S1 hr hw1 f1 => ?_⟩
  have L2 := L1.well hw1 f1
  have e1 : S1 p = some (.lst []) := (f1 p op.1).trans put_same
  walk_at "dl"
  rw [show (1 : Int) + (r : Int) = ((r + 1 : Nat) : Int) by omega]
  refine rngOf (by omega) (by omega) ?_
  rw [Int.toNat_natCast]
  refine forOf (fun i δ S' => ∃ H' s' B' hx' ways hv z5 z6 z7 z8 z9, δ = [some (.ref w), some (.ref (H.a .hall)), some (.ref (B .wd)), some (.ref p), some (.int ((r + 1 : Nat) : Int)), z5, z6, z7, z8, z9] ∧ Lk CT CH CD H' s' B' hx' i ways hv w S' ∧ Pt s' ways hv i ∧ Out CT CH CD H' s' B' hx' i ways hv w p ∧ S' p = some (.lst (refsT H' i)) ∧ H'.a .hall = H.a .hall ∧ B' .wd = B .wd ∧ ∀ n, s'.parts n = [])
    ⟨H, s, B, hx, _, _, _, _, _, _, _, rfl, L2, Pp, op, e1, rfl, rfl, pz0⟩ ?_ ?_
  · rintro i d δ S' hi ⟨H', s', B', hx', ways, hv, z5, z6, z7, z8, z9, rfl, L, Q, op, ep, eh, ew, pz⟩
    obtain ⟨hd, hir⟩ := rngD_get hi
    rw [Int.zero_add] at hd
    subst hd
    walk_at "dl"
    refine ⟨w, 3, rfl, L.wl, by decide, by decide, fun r3 S2 hr3 hw2 f2 => ?_⟩
    have L := L.well hw2 f2
    have ep : S2 p = some (.lst (refsT H' i)) := (f2 p op.1).trans ep
    obtain ⟨own0, hown, no0⟩ : ∃ o, [D.non, .int (i : Int), .str (Str.ofString "own")][r3]? = some o ∧ NoTh o := by
      rcases r3 with _ | _ | _ | r3
      · exact ⟨_, rfl, .non⟩
      · exact ⟨_, rfl, .int _⟩
      · exact ⟨_, rfl, .str _ (by decide +kernel)⟩
      · omega
    walk_at "dl"
    refine ixAt (.inl rfl) hown ?_
    walk_at "dl"
    refine cutOf (fun δ S' => ∃ own near z8, δ = [some (.ref w), some (.ref (H.a .hall)), some (.ref (B .wd)), some (.ref p), some (.int ((r + 1 : Nat) : Int)), some (.int (i : Int)), some own, some (.list (near.map fun j : Nat => .int (j : Int))), z8, z9] ∧ Lk CT CH CD H' s' B' hx' i ways hv w S' ∧ S' p = some (.lst (refsT H' i)) ∧ (∀ j ∈ near, j < i) ∧ near.length ≤ 3 ∧
      ((near = [] ∧ NoTh own) ∨ ∃ h dx l, own = .ref h ∧ S' h = some (.ins CD dx (heFs (.ref l))) ∧ S' l = some (.lst ((heldVs i near).map (vD H'))) ∧ Out CT CH CD H' s' B' hx' i ways hv w h ∧ Out CT CH CD H' s' B' hx' i ways hv w l ∧ h ≠ p ∧ l ≠ p)) ?_ ?_
    · have plain : ∀ {S3 : Sto} {z8 : Option D}, Lk CT CH CD H' s' B' hx' i ways hv w S3 → S3 p = some (.lst (refsT H' i)) → ∃ own near z8', ([some (.ref w), some (.ref (H.a .hall)), some (.ref (B .wd)), some (.ref p), some (.int ((r + 1 : Nat) : Int)), some (.int (i : Int)), some own0, some (.list []), z8, z9] : Dst) = [some (.ref w), some (.ref (H.a .hall)), some (.ref (B .wd)), some (.ref p), some (.int ((r + 1 : Nat) : Int)), some (.int (i : Int)), some own, some (.list (near.map fun j : Nat => .int (j : Int))), z8', z9] ∧ Lk CT CH CD H' s' B' hx' i ways hv w S3 ∧ S3 p = some (.lst (refsT H' i)) ∧ (∀ j ∈ near, j < i) ∧ near.length ≤ 3 ∧
          ((near = [] ∧ NoTh own) ∨ ∃ h dx l, own = .ref h ∧ S3 h = some (.ins CD dx (heFs (.ref l))) ∧ S3 l = some (.lst ((heldVs i near).map (vD H'))) ∧ Out CT CH CD H' s' B' hx' i ways hv w h ∧ Out CT CH CD H' s' B' hx' i ways hv w l ∧ h ≠ p ∧ l ≠ p) :=
        fun L e => ⟨own0, [], _, rfl, L, e, fun _ h => (by cases h), Nat.zero_le _, .inl ⟨rfl, no0⟩⟩
      walk_at "dl"
      refine br (fun h0 => ?_) (fun _ => ?_)
      · have h0 : 0 < i := by have := of_decide_eq_true h0; omega
        walk_at "dl"
        refine ⟨w, 3, rfl, L.wl, by decide, by decide, fun r4 S3 hr4 hw3 f3 => ?_⟩
        have L := L.well hw3 f3
        have ep : S3 p = some (.lst (refsT H' i)) := (f3 p op.1).trans ep
        walk_at "dl"
        refine br (fun _ => ?_) (fun _ => ?_)
        · walk_at "dl"
          refine ⟨w, 3, rfl, L.wl, by decide, by decide, fun r5 S4 hr5 hw4 f4 => ?_⟩
          have L := L.well hw4 f4
          have ep : S4 p = some (.lst (refsT H' i)) := (f4 p op.1).trans ep
          walk_at "dl"
          rw [show (1 : Int) + (r5 : Int) = ((r5 + 1 : Nat) : Int) by omega]
          refine rngOf (by omega) (by omega) ?_
          rw [Int.toNat_natCast]
          refine lcOfS (fun n acc S' => ∃ near : List Nat, acc = (near.map fun j : Nat => .int (j : Int)) ∧ near.length = n ∧ (∀ j ∈ near, j < i) ∧ Lk CT CH CD H' s' B' hx' i ways hv w S' ∧ S' p = some (.lst (refsT H' i))) (by rw [rngD_len]; omega) ⟨[], rfl, rfl, fun _ h => (by cases h), L, ep⟩ ?_ ?_
          · rintro pl hpl n d acc S5 _ hpl5 ⟨near, rfl, hn, hlt, L, ep⟩
            have npw : pl ≠ w := fun z => L.wl.live (by rw [← z]; exact hpl5)
            walk_at "dl"
            refine ⟨w, (i : Int), rfl, L.wl.at (put_ne (Ne.symm npw)), by omega, by omega, fun j S6 hj hw6 f6 => ?_⟩
            obtain ⟨S7, g1, g2, g3, g4⟩ := well_lc hpl5 L.wl hw6 f6
            refine ⟨S7, g1, g2, near ++ [j], by rw [List.map_append]; rfl, by rw [List.length_append, hn]; rfl, fun k hk => ?_, L.well g3 g4, (g4 p op.1).trans ep⟩
            rcases List.mem_append.mp hk with hk | hk
            · exact hlt k hk
            · rw [List.mem_singleton.mp hk]; omega
          · rintro acc S5 ⟨near, rfl, hn, hlt, L, ep⟩
            rw [rngD_len] at hn
            walk_at "dl"
            refine lcOf (fun n acc => acc = (near.take n).map fun j => .ref (H'.a (.t (j + 1)))) (by rw [List.length_map]; omega) rfl ?_ ?_
            · rintro pl hpl n d acc hi rfl
              rw [List.getElem?_map] at hi
              obtain ⟨j, hj, rfl⟩ := Option.map_eq_some_iff.mp hi
              have hji := hlt j (List.mem_of_getElem? hj)
              walk_at "dl"
              refine ixSeq (ds := refsT H' i) ((put_ne (sto_ne ep hpl)).trans ep) (by unfold refsT; rw [List.getElem?_map, List.getElem?_range hji]; rfl) ?_
              refine LcO.of hpl ?_
              rw [List.take_add_one, hj, List.map_append]
              rfl
            · rintro acc rfl
              rw [List.length_map, List.take_length]
              walk_at "dl"
              refine fewOf (by rw [List.length_map]; show near.length + 2 ≤ _; omega) ?_
              walk_at "dl"
              refine freshOf fun h hh dx => ?_
              have evs : (near.map fun j => D.ref (H'.a (.t (j + 1)))) ++ [.int (i : Int), .str (Str.ofString "text")] = (heldVs i near).map (vD H') := by
                unfold heldVs
                rw [List.map_append, List.map_map]
                rfl
              refine ⟨h, dx, (heldVs i near).map (vD H'), by rw [← evs], by rw [List.length_map]; unfold heldVs; rw [List.length_append, List.length_map]; show near.length + 2 ≤ _; omega, put_same, fun l hl => ⟨rfl, ?_⟩⟩
              have hhl : h ≠ l := sto_ne put_same hl
              rw [put_ne (Ne.symm hhl)] at hl
              have kp : Kpt S5 (put (put (put S5 h (.ins CD dx [])) l (.lst ((heldVs i near).map (vD H')))) h (.ins CD dx (heFs (.ref l)))) := ((Kpt.refl.put hh _).put hl _).put hh _
              walk_at "dl"
              exact ⟨.ref h, near, _, rfl, L.kpt kp, kp.at ep, hlt, by omega, .inr ⟨h, dx, l, rfl, put_same, by rw [put_ne (Ne.symm hhl)]; exact put_same, L.out hh, L.out hl, (fun z => by rw [z, ep] at hh; cases hh), (fun z => by rw [z, ep] at hl; cases hl)⟩⟩
        · walk_at "dl"
          exact plain L ep
      · walk_at "dl"
        exact plain L ep
    · rintro δ S3 ⟨own, near, z8, rfl, L, ep, hlt, hnl, pend⟩
      have hmi := Q.many
      have hz : hv (s'.many + 1) = none := by
        cases e : hv (s'.many + 1) with
        | none => rfl
        | some vs => have := (Q.hvo _ vs e).2.1; omega
      walk_at "dl"
      refine needOf (isLOf ep) ?_
      walk_at "dl"
      refine needOf (methOf (x := .non) (by rw [← eh]; exact hrep_hall L.h) rfl) ?_
      walk_at "dl"
      refine ⟨H', s', Str.ofString "loop", own, by rw [eh], L.h, L.W, fun H2 S4 T => ?_⟩
      have both : ∃ B2 hx2 ov, Lk CT CH CD H2 (s'.made (.str (Str.ofString "loop")) own) B2 hx2 i ways (fset hv (i + 1) ov) w S4 ∧ Out CT CH CD H2 (s'.made (.str (Str.ofString "loop")) own) B2 hx2 i ways (fset hv (i + 1) ov) w p ∧ S4 p = some (.lst (refsT H' i)) ∧ B2 .wd = B' .wd ∧ ((ov = none ∧ near = []) ∨ ov = some (heldVs i near)) := by
        rcases pend with ⟨rfl, no⟩ | ⟨h, dx, l, rfl, e1, e2, o1, o2, n1, n2⟩
        · have h1 := L.make0 T (by omega) no hz
          have h2 := Out.make0 L T op (nn ep)
          have e : fset hv (i + 1) none = hv := by
            rw [← hmi] at *
            rw [← hz, fset_id]
          exact ⟨B', hx', none, by rw [e]; exact h1, by rw [e]; exact h2.1, h2.2.trans ep, rfl, .inl ⟨rfl, rfl⟩⟩
        · have h1 := L.make1 T (by omega) hz e1 e2 o1 o2 fun v hv' => by
            rcases List.mem_append.mp hv' with hv' | hv'
            · obtain ⟨j, hj, rfl⟩ := List.mem_map.mp hv'
              have := hlt j hj
              exact (show 1 ≤ j + 1 ∧ j + 1 ≤ s'.many by omega)
            · simp only [List.mem_cons, List.not_mem_nil, or_false] at hv'
              rcases hv' with rfl | rfl
              · exact NoTh.int _
              · exact NoTh.str _ (by decide +kernel)
          have h2 := h1.2 p (nn ep) (Ne.symm n1) (Ne.symm n2) op
          have h1 := h1.1
          rw [hmi] at h1 h2
          exact ⟨_, _, some (heldVs i near), h1, h2.1, h2.2.trans ep, rfl, .inr rfl⟩
      obtain ⟨B2, hx2, ov, L2, op2, ep2, ew2, hov⟩ := both
      have Q2 := Q.made pz hlt hnl hov (form := .str (Str.ofString "loop")) (own := own)
      have er : refsT H2 i ++ [.ref (H2.a (.t (s'.many + 1)))] = refsT H2 (i + 1) := by
        unfold refsT
        rw [List.range_succ, List.map_append, hmi]
        rfl
      have er2 : refsT H' i = refsT H2 i := by
        unfold refsT
        refine List.map_congr_left fun j hj => ?_
        rw [T.t (by omega) (by have := List.mem_range.mp hj; omega)]
      rw [er2] at ep2
      walk_at "dl"
      refine appOf ep2 (by unfold refsT; rw [List.length_map, List.length_range]; omega) ?_
      rw [er]
      have L3 := L2.at_out op2 (.lst (refsT H2 (i + 1)))
      have ep3 : put S4 p (.lst (refsT H2 (i + 1))) p = some (.lst (refsT H2 (i + 1))) := put_same
      generalize put S4 p (.lst (refsT H2 (i + 1))) = S5 at L3 ep3
      walk_at "dl"
      refine lcNOf (fun n acc => acc = (near.take n).map fun j : Nat => .int ((j : Int) + 1)) (by rw [List.length_map]; omega) rfl ?_ ?_
      · rintro pl hpl n d acc hi rfl
        rw [List.getElem?_map] at hi
        obtain ⟨j, hj, rfl⟩ := Option.map_eq_some_iff.mp hi
        walk_at "dl"
        refine LcO.of hpl ?_
        rw [List.take_add_one, hj, List.map_append]
        rfl
      · rintro acc pw hpw rfl
        rw [List.length_map, List.take_length]
        have hL4 := L3.way hpw (near.map (· + 1))
        have h4 := hL4.2 p (nn ep3) op2
        have hL4 := hL4.1
        have ewo : (wayO (near.map (· + 1))) = O.lst (near.map fun j : Nat => .int ((j : Int) + 1)) := by
          unfold wayO
          rw [List.map_map]
          rfl
        rw [ewo] at hL4 h4
        have hwd : put S5 pw (.lst (near.map fun j : Nat => .int ((j : Int) + 1))) (B .wd) = some (.dct (wayD (fun n => B2 (.wl n)) i)) := by
          rw [← ew, ← ew2, put_ne (Ne.symm (fun z => by have := L3.o.at_ (l := .wd) rfl; rw [← z, hpw] at this; cases this))]
          exact L3.o.at_ rfl
        walk_at "dl"
        refine dputOf hwd rfl (by unfold wayD; rw [List.length_map, List.length_range]; omega) ?_
        rw [gput_new (wayD_none (by omega)), show ((i : Int) + 1) = ((i + 1 : Nat) : Int) by omega, ← ew, ← ew2]
        exact ⟨H2, _, _, _, _, _, _, _, _, _, _, rfl, hL4, Q2, h4.1, h4.2.trans ep3, (T.hall).trans eh, (if_neg nofun : wlB B2 (i + 1) pw .wd = B2 .wd), fun n => pz n⟩
  · rintro δ S' ⟨H', s', B', hx', ways, hv, z5, z6, z7, z8, z9, rfl, L, Q, op, ep, eh, ew, pz⟩
    rw [rngD_len] at L Q op ep
    walk_at "dl"
    refine rngOf (by omega) (by omega) ?_
    rw [Int.toNat_natCast]
    refine forOf (fun i δ S' => ∃ H' s' B' hx' ways hv z5 z6 z7 z8 z9, δ = [some (.ref w), some (.ref (H.a .hall)), some (.ref (B .wd)), some (.ref p), some (.int ((r + 1 : Nat) : Int)), z5, z6, z7, z8, z9] ∧ Lk CT CH CD H' s' B' hx' (r + 1) ways hv w S' ∧ Pt s' ways hv (r + 1) ∧ Out CT CH CD H' s' B' hx' (r + 1) ways hv w p ∧ S' p = some (.lst (refsT H' (r + 1))) ∧ H'.a .hall = H.a .hall ∧ B' .wd = B .wd ∧ ∀ n, i < n → s'.parts n = [])
      ⟨H', s', B', hx', ways, hv, z5, z6, z7, z8, z9, rfl, L, Q, op, ep, eh, ew, fun n _ => pz n⟩ ?_ ?_
    · rintro i d δ S1 hi ⟨H', s', B', hx', ways, hv, z5, z6, z7, z8, z9, rfl, L, Q, op, ep, eh, ew, pz⟩
      obtain ⟨hd, hir⟩ := rngD_get hi
      rw [Int.zero_add] at hd
      subst hd
      walk_at "dl"
      refine ⟨w, 5, rfl, L.wl, by decide, by decide, fun r6 S2 hr6 hw2 f2 => ?_⟩
      have L := L.well hw2 f2
      have ep : S2 p = some (.lst (refsT H' (r + 1))) := (f2 p op.1).trans ep
      walk_at "dl"
      refine rngOf (by omega) (by omega) ?_
      rw [Int.toNat_natCast]
      refine forOf (fun j δ S' => ∃ H' s' B' hx' ways hv z6 z7 z8 z9, δ = [some (.ref w), some (.ref (H.a .hall)), some (.ref (B .wd)), some (.ref p), some (.int ((r + 1 : Nat) : Int)), some (.int (i : Int)), z6, z7, z8, z9] ∧ Lk CT CH CD H' s' B' hx' (r + 1) ways hv w S' ∧ Pt s' ways hv (r + 1) ∧ Out CT CH CD H' s' B' hx' (r + 1) ways hv w p ∧ S' p = some (.lst (refsT H' (r + 1))) ∧ H'.a .hall = H.a .hall ∧ B' .wd = B .wd ∧ (∀ n, i + 1 < n → s'.parts n = []) ∧ (s'.parts (i + 1)).length ≤ j ∧ ∀ kv ∈ s'.parts (i + 1), ∃ a : Nat, a < j ∧ kv.1 = .inl (a : Int))
        ⟨H', s', B', hx', ways, hv, _, _, _, _, rfl, L, Q, op, ep, eh, ew, fun n hn => pz n (by omega), by rw [pz _ (by omega)]; exact Nat.zero_le _, fun kv hkv => by rw [pz _ (by omega)] at hkv; cases hkv⟩ ?_ ?_
      · rintro j d δ S3 hj ⟨H', s', B', hx', ways, hv, z6, z7, z8, z9, rfl, L, Q, op, ep, eh, ew, pz, pl, pk⟩
        obtain ⟨hd, hjr⟩ := rngD_get hj
        rw [Int.zero_add] at hd
        subst hd
        have hmi := Q.many
        have gvn : gval (s'.parts (i + 1)) (.inl (j : Int)) = none := by
          unfold gval
          rw [Option.map_eq_none_iff, List.find?_eq_none]
          intro kv hkv
          obtain ⟨a, h1, h2⟩ := pk kv hkv
          rw [decide_eq_true_iff, h2]
          intro z
          have := Sum.inl.inj z
          omega
        have old : oldP s' (i + 1) (.inl (j : Int)) = .no .non := by
          unfold oldP
          rw [gvn]
          rfl
        have pput : ∀ v, (s'.putP (i + 1) (.inl (j : Int)) v).parts = fset s'.parts (i + 1) (s'.parts (i + 1) ++ [(.inl (j : Int), v)]) := fun v => by
          show fset s'.parts (i + 1) (gput (s'.parts (i + 1)) (.inl (j : Int)) v) = _
          rw [gput_new gvn]
        have nxt : ∀ v, (∀ n, i + 1 < n → (s'.putP (i + 1) (.inl (j : Int)) v).parts n = []) ∧ ((s'.putP (i + 1) (.inl (j : Int)) v).parts (i + 1)).length ≤ j + 1 ∧ ∀ kv ∈ (s'.putP (i + 1) (.inl (j : Int)) v).parts (i + 1), ∃ a : Nat, a < j + 1 ∧ kv.1 = .inl (a : Int) := fun v => by
          rw [pput, fset_same]
          refine ⟨fun n hn => by rw [fset_ne (by omega)]; exact pz n hn, by rw [List.length_append]; exact Nat.succ_le_succ pl, fun kv hkv => ?_⟩
          rcases List.mem_append.mp hkv with hkv | hkv
          · obtain ⟨a, h1, h2⟩ := pk kv hkv
            exact ⟨a, by omega, h2⟩
          · rw [List.mem_singleton.mp hkv]
            exact ⟨j, by omega, rfl⟩
        walk_at "dl"
        refine ⟨w, 4, rfl, L.wl, by decide, by decide, fun r7 S4 hr7 hw4 f4 => ?_⟩
        have L := L.well hw4 f4
        have ep : S4 p = some (.lst (refsT H' (r + 1))) := (f4 p op.1).trans ep
        have gi : ∀ {a : Nat}, a < r + 1 → (refsT H' (r + 1))[a]? = some (.ref (H'.a (.t (a + 1)))) := fun {a} ha => by
          unfold refsT
          rw [List.getElem?_map, List.getElem?_range ha]
          rfl
        walk_at "dl"
        refine br (fun _ => ?_) (fun _ => ?_)
        · walk_at "dl"
          refine needOf (methOf (x := .non) (by rw [← eh]; exact hrep_hall L.h) rfl) ?_
          walk_at "dl"
          refine ixSeq (ds := refsT H' (r + 1)) ep (gi hir) ?_
          walk_at "dl"
          refine ⟨w, 5, rfl, L.wl, by decide, by decide, fun r8 S5 hr8 hw5 f5 => ?_⟩
          have L := L.well hw5 f5
          have ep : S5 p = some (.lst (refsT H' (r + 1))) := (f5 p op.1).trans ep
          walk_at "dl"
          refine ⟨w, 4, rfl, L.wl, by decide, by decide, fun r9 S6 hr9 hw6 f6 => ?_⟩
          have L := L.well hw6 f6
          have ep : S6 p = some (.lst (refsT H' (r + 1))) := (f6 p op.1).trans ep
          obtain ⟨v0, hv0, nv0⟩ : ∃ o, [D.int (r8 : Int), .str (Str.ofString "text"), .bl true, .non][r9]? = some o ∧ NoTh o := by
            rcases r9 with _ | _ | _ | _ | r9
            · exact ⟨_, rfl, .int _⟩
            · exact ⟨_, rfl, .str _ (by decide +kernel)⟩
            · exact ⟨_, rfl, .bl _⟩
            · exact ⟨_, rfl, .non⟩
            · omega
          walk_at "dl"
          refine ixAt (.inl rfl) hv0 ?_
          walk_at "dl"
          have W2 := L.W.putP (n := i + 1) (k := .inl (j : Int)) (v := .no v0) (by omega) nv0 rfl (by omega)
          refine ⟨H', s', i + 1, .int (j : Int), .inl (j : Int), .no v0, _, by rw [eh]; rfl, L.h, L.W, by omega, by omega, rfl, rfl, nv0, by omega, by rw [old]; exact .no, fun H2 S7 T => ?_⟩
          have L2 := L.hall T W2 rfl rfl
          have o2 := Out.hall L T op (nn ep)
          have er2 : refsT H2 (r + 1) = refsT H' (r + 1) := by
            unfold refsT
            refine List.map_congr_left fun a ha => ?_
            rw [T.t (by omega) (by have := List.mem_range.mp ha; omega)]
          walk_at "dl"
          exact ⟨H2, _, B', hx', ways, hv, _, _, _, _, rfl, L2, Q.putno (by omega) gvn (by omega), o2.1, by rw [er2]; exact o2.2.trans ep, (T.hall).trans eh, ew, nxt _⟩
        · walk_at "dl"
          refine ⟨w, ((r + 1 : Nat) : Int), rfl, L.wl, by omega, by omega, fun ro S5 hro hw5 f5 => ?_⟩
          have L := L.well hw5 f5
          have ep : S5 p = some (.lst (refsT H' (r + 1))) := (f5 p op.1).trans ep
          walk_at "dl"
          refine needOf (methOf (x := .non) (by rw [← eh]; exact hrep_hall L.h) rfl) ?_
          walk_at "dl"
          refine ixSeq (ds := refsT H' (r + 1)) ep (gi hir) ?_
          walk_at "dl"
          refine ixSeq (ds := refsT H' (r + 1)) ep (gi (a := ro) (by omega)) ?_
          walk_at "dl"
          have hvo : VOk s'.many (.th (ro + 1)) := (show 1 ≤ ro + 1 ∧ ro + 1 ≤ s'.many by omega)
          have W2 := L.W.putP (n := i + 1) (k := .inl (j : Int)) (v := .th (ro + 1)) (by omega) hvo rfl (by omega)
          refine ⟨H', s', i + 1, .int (j : Int), .inl (j : Int), .th (ro + 1), _, by rw [eh]; rfl, L.h, L.W, by omega, by omega, rfl, rfl, hvo, by omega, by rw [old]; exact .no, fun H2 S7 T => ?_⟩
          have L2 := L.hall T W2 rfl rfl
          have o2 := Out.hall L T op (nn ep)
          have er2 : refsT H2 (r + 1) = refsT H' (r + 1) := by
            unfold refsT
            refine List.map_congr_left fun a ha => ?_
            rw [T.t (by omega) (by have := List.mem_range.mp ha; omega)]
          have hway := L2.o.at_ (l := .wl (i + 1)) (if_pos ⟨by omega, by omega⟩)
          have hwl := Q.wlen (i + 1) (by omega) (by omega)
          walk_at "dl"
          refine dgetOf (key := .inl ((i + 1 : Nat) : Int)) (by rw [← ew]; exact L2.o.at_ (l := .wd) rfl) rfl (wayD_get (by omega) (by omega)) ?_
          walk_at "dl"
          refine needOf (isLOf hway) ?_
          walk_at "dl"
          refine appOf hway (by rw [List.length_map]; omega) ?_
          have L3 := L2.way1 (n := i + 1) (by omega) (by omega) (ways (i + 1) ++ [ro + 1])
          have ewo : wayO (ways (i + 1) ++ [ro + 1]) = O.lst ((ways (i + 1)).map (fun j : Nat => D.int (j : Int)) ++ [.int ((ro : Int) + 1)]) := by
            unfold wayO
            rw [List.map_append]
            rfl
          rw [ewo] at L3
          walk_at "dl"
          refine ⟨H2, _, B', hx', _, hv, _, _, _, _, rfl, L3, Q.putth (by omega) (by omega) gvn (by omega) hvo, o2.1.way1 (by omega) (by omega), ?_, (T.hall).trans eh, ew, nxt _⟩
          rw [put_ne (o2.1.2.2 (.wl (i + 1)) (by rw [show oC CD H2 B' hx' (r + 1) ways hv (.wl (i + 1)) = _ from if_pos ⟨by omega, by omega⟩]; exact nofun)), er2]
          exact o2.2.trans ep
      · rintro δ S3 ⟨H', s', B', hx', ways, hv, z6, z7, z8, z9, rfl, L, Q, op, ep, eh, ew, pz, pl, pk⟩
        exact ⟨H', s', B', hx', ways, hv, _, _, _, _, _, rfl, L, Q, op, ep, eh, ew, pz⟩
    · rintro δ S1 ⟨H', s', B', hx', ways, hv, z5, z6, z7, z8, z9, rfl, L, Q, op, ep, eh, ew, pz⟩
      rw [rngD_len] at pz
      walk_at "dl"
      refine frzOf ep ?_
      have L2 : Lk CT CH CD H' s' B' hx' (r + 1) ways hv w (del S1 p) := L.del_out op
      exact h (r + 1) H' s' B' hx' ways hv _ (by omega) (by omega) L2 Q eh ew
end
end K

set_option Elab.async false
set_option linter.all false
set_option maxRecDepth 100000
namespace K
open PySem L2 Evl EX DL HM
abbrev s__law_chain_right : Stmt := top 14
abbrev N__law_chain_right : List Str := ["_law_well_here", "_law_hall", "_law_many", "_law_things_here", "_law_k", "_law_first", "_law_due_here"]
theorem sc__law_chain_right : FnScope N__law_chain_right ["_law_well_here", "_law_hall"] (defScope s__law_chain_right) := ⟨rfl, rfl, rfl, by decide +kernel, rfl, by decide +kernel, by decide +kernel⟩
abbrev s_law : Stmt := top 15
abbrev N_law : List Str := ["_law_script", "_law_well_here", "_law_hall", "_law_ways", "_law_things_here", "_law_begins", "_law_values", "_law_k", "_law_n", "_law_due_here", "_law_counts", "_law_handed", "_law_turn", "_law_numbers", "_law_other", "_law_thing"]
theorem sc_law : FnScope N_law ["_law_script"] (defScope s_law) := ⟨rfl, rfl, rfl, by decide +kernel, rfl, by decide +kernel, by decide +kernel⟩
theorem sorted_uniq : ∀ {l m : List Int}, l.Pairwise (· < ·) → m.Pairwise (· < ·) → (∀ j, j ∈ l ↔ j ∈ m) → l = m
  | [], [], _, _, _ => rfl
  | [], b :: m, _, _, h => absurd ((h b).mpr (List.mem_cons_self ..)) (by simp)
  | a :: l, [], _, _, h => absurd ((h a).mp (List.mem_cons_self ..)) (by simp)
  | a :: l, b :: m, h1, h2, h => by
    rw [List.pairwise_cons] at h1 h2
    have e : a = b := by
      rcases List.mem_cons.mp ((h a).mp (List.mem_cons_self ..)) with e | e
      · exact e
      · rcases List.mem_cons.mp ((h b).mpr (List.mem_cons_self ..)) with e2 | e2
        · exact e2.symm
        · have := h2.1 a e
          have := h1.1 b e2
          omega
    subst e
    rw [sorted_uniq h1.2 h2.2 fun j => ?_]
    constructor
    · intro hj
      rcases List.mem_cons.mp ((h j).mp (List.mem_cons_of_mem _ hj)) with e | e
      · have := h1.1 j hj; omega
      · exact e
    · intro hj
      rcases List.mem_cons.mp ((h j).mpr (List.mem_cons_of_mem _ hj)) with e | e
      · have := h2.1 j hj; omega
      · exact e
theorem sorted_len {m : Nat} : ∀ {l : List Int} , l.Pairwise (· < ·) → (∀ j ∈ l, 1 ≤ j ∧ j ≤ m) → l.length ≤ m := by
  have key : ∀ (l : List Int) (lo : Int), lo ≤ m → l.Pairwise (· < ·) → (∀ j ∈ l, lo < j ∧ j ≤ m) → lo + l.length ≤ m := by
    intro l
    induction l with
    | nil => intro lo h _ _; simpa using h
    | cons a l ih =>
      intro lo h hp hb
      rw [List.pairwise_cons] at hp
      have h1 := hb a (List.mem_cons_self ..)
      have := ih a h1.2 hp.2 fun j hj => ⟨hp.1 j hj, (hb j (List.mem_cons_of_mem _ hj)).2⟩
      rw [List.length_cons]
      omega
  intro l hp hb
  have := key l 0 (by omega) hp fun j hj => ⟨by have := (hb j hj).1; omega, (hb j hj).2⟩
  omega
theorem anyL_ints : ∀ {l : List Int}, anyL (l.map D.int) = true
  | [] => rfl
  | a :: l => by rw [List.map_cons, anyL, anyL_ints]; rfl
theorem any_ints {l : List Int} : (D.list (l.map D.int)).any = true := by rw [D.any, anyL_ints]
theorem deep_ints {l : List Int} : (D.list (l.map D.int)).deep ≤ 64 := by
  have : deepL (l.map D.int) ≤ 1 := (deepL_le _).mpr fun d hd => by
    obtain ⟨j, _, rfl⟩ := List.mem_map.mp hd
    exact Nat.zero_le _
  rw [D.deep]
  omega
theorem rngD_ints' (i : Int) (n : Nat) : rngD i n = ((List.range n).map fun k : Nat => i + (k : Int)).map D.int := rngD_ints i n
theorem rg_sorted (i : Int) (n : Nat) : ((List.range n).map fun k : Nat => i + (k : Int)).Pairwise (· < ·) := List.pairwise_map.mpr (List.pairwise_lt_range.imp fun h => by omega)
theorem rg_mem {i j : Int} {n : Nat} : j ∈ ((List.range n).map fun k : Nat => i + (k : Int)) ↔ i ≤ j ∧ j < i + n := by
  rw [List.mem_map]
  constructor
  · rintro ⟨k, hk, rfl⟩
    have := List.mem_range.mp hk
    omega
  · rintro ⟨h1, h2⟩
    exact ⟨(j - i).toNat, List.mem_range.mpr (by omega), by omega⟩
/-- what a row of things leads to -/
theorem rch_row {G : Nat → List Vl} {m f : Nat} (h1 : 1 ≤ f) (h2 : f ≤ m) (hg : ∀ k, 1 ≤ k → k < m → ∀ n, Vl.th n ∈ G k ↔ n = k + 1) (hm : ∀ n, Vl.th n ∉ G m) (n : Nat) : Rch G [.th f] n ↔ f ≤ n ∧ n ≤ m := by
  constructor
  · intro h
    induction h with
    | root h => simp only [List.mem_singleton, Vl.th.injEq] at h; subst h; exact ⟨Nat.le_refl _, h2⟩
    | @step k n h h3 ih =>
      by_cases z : k = m
      · subst z; exact absurd h3 (hm _)
      · have := (hg k (by omega) (by omega) n).mp h3
        omega
  · rintro ⟨h3, h4⟩
    induction n with
    | zero => omega
    | succ n ih =>
      by_cases z : f = n + 1
      · exact .root (by rw [z]; exact List.mem_singleton.mpr rfl)
      · exact .step (ih (by omega) (by omega)) ((hg n (by omega) (by omega) (n + 1)).mpr rfl)
theorem rch_ring {G : Nat → List Vl} {m f : Nat} (h1 : 1 ≤ f) (h2 : f ≤ m) (hg : ∀ k, 1 ≤ k → k < m → ∀ n, Vl.th n ∈ G k ↔ n = k + 1) (hm : ∀ n, Vl.th n ∈ G m ↔ n = 1) (n : Nat) : Rch G [.th f] n ↔ 1 ≤ n ∧ n ≤ m := by
  constructor
  · intro h
    induction h with
    | root h => simp only [List.mem_singleton, Vl.th.injEq] at h; subst h; exact ⟨h1, h2⟩
    | @step k n h h3 ih =>
      by_cases z : k = m
      · subst z; have := (hm n).mp h3; omega
      · have := (hg k (by omega) (by omega) n).mp h3
        omega
  · rintro ⟨h3, h4⟩
    have up : ∀ n, f ≤ n → n ≤ m → Rch G [.th f] n := fun n => by
      induction n with
      | zero => intro h5 h6; omega
      | succ n ih =>
        intro h5 h6
        by_cases z : f = n + 1
        · exact .root (by rw [z]; exact List.mem_singleton.mpr rfl)
        · exact .step (ih (by omega) (by omega)) ((hg n (by omega) (by omega) (n + 1)).mpr rfl)
    induction n with
    | zero => omega
    | succ n ih =>
      by_cases z : n = 0
      · subst z; exact .step (up m h2 (Nat.le_refl _)) ((hm 1).mpr rfl)
      · exact .step (ih (by omega) (by omega)) ((hg n (by omega) (by omega) (n + 1)).mpr rfl)
theorem lc_hall {CT CH : Addr} {en : D} {H H2 : HA} {s s2 : Hs} {S S3 : Sto} {pl : Addr} {acc : List D} (R : HRep CT CH en H s S) (hpl : S pl = none) (T : HTr CT CH en H s (put S pl (.lst acc)) H2 s2 S3) :
    ∃ S4, S4 pl = none ∧ S3 = put S4 pl (.lst acc) ∧ HRep CT CH en H2 s2 S4 ∧ ∀ b, S b ≠ none → (∀ l, hC CT CH en H s l ≠ none → b ≠ H.a l) → S4 b = S b ∧ ∀ l, hC CT CH en H2 s2 l ≠ none → b ≠ H2.a l := by
  have np : ∀ l, hC CT CH en H s l ≠ none → pl ≠ H.a l := fun l hl z => R.live hl (by rw [← z]; exact hpl)
  have h1 := hbes T (b := pl) (by rw [put_same]; exact nofun) np
  refine ⟨del S3 pl, if_pos rfl, funext fun y => ?_, T.rep.keep fun l hl => if_neg (Ne.symm (h1.2 l hl)), fun b hb ho => ?_⟩
  · by_cases z : y = pl
    · subst z
      rw [put_same, h1.1, put_same]
    · rw [put_ne z]
      exact (if_neg z).symm
  · have nb : b ≠ pl := fun z => hb (by rw [z]; exact hpl)
    have h2 := hbes T (b := b) (by rw [put_ne nb]; exact hb) ho
    exact ⟨(if_neg nb).trans (h2.1.trans (put_ne nb)), h2.2⟩
section
variable {P : Program} {w : World} {K : PySem.W.Frag} {mg : Str → Option Value} {base : Heap} {CT CH CD : Addr} {en : D}
local macro_rules | `(tactic| walk_at "dl") => `(tactic| try simp only [↓x_lcN, ↓x_lcSN, ↓x_catM, ↓x_neV, ↓x_sortSet, ↓x_sortDLN, ↓x_lrg, ↓x_neg, ↓x_lcS, ↓x_lockE, ↓x_eqA, ↓x_dictD, ↓x_disp, ↓x_pNil, ↓x_pCons, ↓x_forS, ↓x_diSL, ↓x_diKeys, ↓x_lock, ↓x_dictP, ↓x_fld, ↓x_fldS, ↓x_fldA, ↓x_meth, ↓x_make, ↓x_dget, ↓x_din, ↓x_dget1, ↓x_dget2, ↓x_dpop, ↓x_dput, ↓x_listD, ↓x_sortDI, ↓x_lenD, ↓x_isiC, x_icS, x_icI, x_icB, x_icN, x_ioS, x_ioI, x_ioB, x_ioN, ↓x_gSub, ↓x_sortDL, ↓x_eqO, ↓x_ninA, x_catN, x_isBB, x_isBN, x_isBI, x_isBS, x_isBR, ↓x_seq, ↓x_nx, ↓x_pass, ↓x_brk, ↓x_cnt, ↓x_drop, ↓x_ret, ↓x_retN, ↓x_ifS, ↓x_set, ↓x_asg, ↓x_gN, ↓x_gT, ↓x_gsC, ↓x_gsN, ↓x_var, x_rdv, ↓x_c, ↓x_op, ↓x_test, x_tst, ↓x_and, ↓x_or, ↓x_not, ↓x_andV, ↓x_orV, ↓x_notV, x_tstV, ↓x_ifE, x_true, x_false, ↓x_nil, ↓x_cons, ↓x_tup, ↓x_lst, ↓x_new, ↓x_newD, ↓x_call, ↓x_cb, x_oI, x_oIc, x_oS, x_addS, x_isN, x_notN, x_eqI, x_eqS, x_eqIS, x_eqSI, x_eqNS, x_neI, x_neS, x_neB, x_eqB, x_few, x_need, ↓x_ix, x_lenS, x_ixL0, x_ixT0, x_ixT1, x_ixT2, x_ixT3, x_ixT4, x_lenL, x_lenT, x_lenC, x_listL, x_listT, x_tupL, x_tupT, x_strI, x_strS, x_int1, x_intB, x_I1, x_I2, x_cat, x_catT, ↓x_split, ↓x_for, ↓x_cut, ↓x_lc, ↓x_whl, ↓x_diL, ↓x_diT, ↓x_diS, x_itL, x_itC, x_itT, x_itS, ↓x_diR1, ↓x_diR2, ↓x_diE, x_enmL, x_enmC, ↓x_gcN, ↓x_gcT, ↓x_yes, ↓x_ml, ↓x_ms, x_strq, x_ss, x_ssc, x_ssi, ↓x_join, ↓x_aug, x_st2I, ↓x_sl, ↓x_noP, ↓x_part, x_intq, x_slL, x_slC, x_slS, ↓x_in, x_inT, x_inL, x_ninT, x_ninL, x_inN, x_inSS, x_inSI, x_inIS, x_inII, ↓x_sg, x_sgS, x_nsgS, ↓x_eqD, ↓x_inDD, x_mulS, ↓x_isi, x_isiS, x_isiI, x_isiB, x_isiN, x_isiL, x_isiT, ↓x_isTT, x_itI, x_itStr, x_itN, x_itB, x_itLst, x_itTup, ↓x_any, ↓x_all, ↓x_sum, ↓x_srtI, ↓x_srtS, ↓x_intS, ↓x_lenRf, ↓x_tupRf, ↓x_frz', x_flS, x_flI, x_flN, x_flB, x_cs_bool, x_isB_NoneType_bool, x_isB_bool_bool, x_isB_int_bool, x_isB_str_bool, x_isB_list_bool, x_isB_tuple_bool, x_isB_dict_bool, x_cs_int, x_isB_NoneType_int, x_isB_bool_int, x_isB_int_int, x_isB_str_int, x_isB_list_int, x_isB_tuple_int, x_isB_dict_int, x_cs_str, x_isB_NoneType_str, x_isB_bool_str, x_isB_int_str, x_isB_str_str, x_isB_list_str, x_isB_tuple_str, x_isB_dict_str, x_cs_list, x_isB_NoneType_list, x_isB_bool_list, x_isB_int_list, x_isB_str_list, x_isB_list_list, x_isB_tuple_list, x_isB_dict_list, x_cs_tuple, x_isB_NoneType_tuple, x_isB_bool_tuple, x_isB_int_tuple, x_isB_str_tuple, x_isB_list_tuple, x_isB_tuple_tuple, x_isB_dict_tuple, x_cs_dict, x_isB_NoneType_dict, x_isB_bool_dict, x_isB_int_dict, x_isB_str_dict, x_isB_list_dict, x_isB_tuple_dict, x_isB_dict_dict, List.all_cons, List.all_nil, Bool.and_self, Bool.or_false, Bool.or_true, Bool.false_or, Bool.true_or, wipeD, setD, DL.isNon, List.set_cons_zero, List.set_cons_succ, List.getElem?_cons_zero, List.getElem?_cons_succ, List.length_cons, List.length_nil, Nat.zero_add, List.cons_append, List.nil_append, decide_true, decide_false, Bool.not_true, Bool.not_false, true_and, and_true, startD, List.map_cons, List.map_nil, Nat.reduceSub, Nat.reduceLeDiff, Nat.zero_le, Int.reduceLT, Int.reduceLE, and_self, Nat.reduceAdd, List.replicate])
/-- a row of things without anything else -/
structure Cs (CT CH : Addr) (H : HA) (s : Hs) (w : Addr) (S : Sto) (m : Nat) : Prop where
  R : HRep CT CH .non H s S
  W : Wf s
  many : s.many = m
  own : ∀ n, 1 ≤ n → n ≤ m → NoTh (s.own n)
  hw : Well S w
  wh : ∀ l, hC CT CH .non H s l ≠ none → w ≠ H.a l
theorem Cs.well {H : HA} {s : Hs} {w : Addr} {S S' : Sto} {m : Nat} (C : Cs CT CH H s w S m) (hw : Well S' w) (f : ∀ y, y ≠ w → S' y = S y) : Cs CT CH H s w S' m :=
  ⟨C.R.keep fun l hl => f _ (Ne.symm (C.wh l hl)), C.W, C.many, C.own, hw, C.wh⟩
theorem Cs.put {H H2 : HA} {s : Hs} {w : Addr} {S S' : Sto} {m n : Nat} {k : Key} {v : Vl} (C : Cs CT CH H s w S m) (W : Wf (s.putP n k v)) (T : HTr CT CH .non H s S H2 (s.putP n k v) S') : Cs CT CH H2 (s.putP n k v) w S' m := by
  have h1 := hbes T C.hw.live C.wh
  have e1 : (s.putP n k v).many = s.many := by cases v <;> rfl
  have e2 : (s.putP n k v).own = s.own := by cases v <;> rfl
  exact ⟨T.rep, W, by rw [e1, C.many], by rw [e2]; exact C.own, C.hw.at h1.1, h1.2⟩
def dChain (CT CH CD : Addr) : SpD := fun ds S k _ => ∃ (H : HA) (s : Hs) (w : Addr), ds = [.ref w, .ref (H.a .hall)] ∧ HRep CT CH .non H s S ∧ Wf s ∧ s.many = 0 ∧ s.row = none ∧ (∀ n, s.parts n = []) ∧ Well S w ∧ (∀ l, hC CT CH .non H s l ≠ none → w ≠ H.a l) ∧ ∀ S', Well S' w → k (.bl true) S'
theorem ok_chain {fa : Addr} {fd : FuncData} (F : Fun K "_law_chain_right" "_law_chain_right" s__law_chain_right fa fd) (T : TxW K mg CT CH CD) (G__law_dig : DefD P w K mg base 2 "_law_dig" ["_law_well_here", "_law_most"] dDig)
    (G_Hall_make : MDef P w K mg base 3 CH "make" ["self", "form", "own"] (lSp K (dMake CT CH .non))) (G_Hall_put : MDef P w K mg base 8 CH "put" ["self", "thing", "key", "value"] (lSp K (dPut CT CH .non askNo))) (G_reached : DefD P w K mg base 3 "reached" ["hall", "roots"] (dReached CT CH CD .non)) :
    FnOk P w K mg base CX0 9 fa fd ["_law_well_here", "_law_hall"] (lSp K (dChain CT CH CD)) := by
  refine dok F sc__law_chain_right (fun ds S q qx ⟨H, s, w, h, _⟩ => by rw [h]; rfl) ⟨_, fun cdv A outer s H E hr => dss_cons (ds_set (i := 2) sc__law_chain_right.nd rfl (Or.inl rfl) (de_op op_add si_add (de_int) (de_call G__law_dig (hr.mono (by decide)) (by rfl) (da_cons (de_var 0) (da_cons (de_int) da_nil)))))
      (dss_cons (ds_setLc (i := 3) (own := [("_law_k", 4)]) (gc_name (j := 4) (by decide)) rfl sc__law_chain_right.nd rfl rfl (sw_true rfl rfl rfl (by decide +kernel)) (di_range1 (by rfl) T.range (da_cons (de_var 2) da_nil)) (blkOk_by (N := N__law_chain_right) (sc := defScope s__law_chain_right) (by decide +kernel)) (fun _ _ _ _ _ => pg_name (i := 4) sc__law_chain_right.nd rfl (Or.inl rfl)) (fun _ _ _ _ _ => dts_nil) (fun _ _ _ _ _ => de_meth T.Hall_ G_Hall_make (hr.mono (by decide)) (de_var 1) (da_cons (de_str) (da_cons (de_non) da_nil))))
      (dss_cons (ds_for PassesOwn.never rfl (di_range1 (by rfl) T.range (da_cons (de_op op_sub si_sub (de_var 2) (de_int)) da_nil)) (dg_name (i := 4) sc__law_chain_right.nd rfl (Or.inl rfl))
        (dss_one (ds_expr (de_meth T.Hall_ G_Hall_put (hr.mono (by decide)) (de_var 1) (da_cons (de_ix ix_seq (si_ix rfl) (de_var 3) (de_var 4) (fun _ _ => rfl)) (da_cons (de_int) (da_cons (de_ix ix_seq (si_ix rfl) (de_var 3) (de_op op_add si_add (de_var 4) (de_int)) (fun _ _ => rfl)) da_nil)))))))
      (dss_cons (ds_set (i := 5) sc__law_chain_right.nd rfl (Or.inl rfl) (de_call G__law_dig (hr.mono (by decide)) (by rfl) (da_cons (de_var 0) (da_cons (de_var 2) da_nil))))
      (dss_cons (ds_set (i := 6) sc__law_chain_right.nd rfl (Or.inl rfl) (de_listRg (K := K) rfl (by rfl) T.list (by rfl) T.range (de_op op_add si_add (de_var 5) (de_int)) (de_op op_add si_add (de_var 2) (de_int))))
      (dss_cons (ds_if (dt_cmp op_eq si_eq (de_call G__law_dig (hr.mono (by decide)) (by rfl) (da_cons (de_var 0) (da_cons (de_int) da_nil))) (de_int) (nomark _))
        (dss_cons (ds_expr (de_meth T.Hall_ G_Hall_put (hr.mono (by decide)) (de_var 1) (da_cons (de_ix ix_seq (si_ix rfl) (de_var 3) (de_op op_sub si_sub (de_var 2) (de_int)) (fun _ _ => rfl)) (da_cons (de_int) (da_cons (de_ix ix_seq (si_ix rfl) (de_var 3) (de_int) (fun _ _ => rfl)) da_nil)))))
        (dss_one (ds_set (i := 6) sc__law_chain_right.nd rfl (Or.inl rfl) (de_listRg (K := K) rfl (by rfl) T.list (by rfl) T.range (de_int) (de_op op_add si_add (de_var 2) (de_int))))))
        (dss_nil))
      (dss_one (ds_ret (de_cmp (op_eqM (K := K) hr.units) (si_eqA false) (de_call G_reached (hr.mono (by decide)) (by rfl) (da_cons (de_var 1) (da_cons (de_lst (da_cons (de_ix ix_seq (si_ix rfl) (de_var 3) (de_var 5) (fun _ _ => rfl)) da_nil)) da_nil))) (de_var 6) (nomark _))))))))), fun ds S q qx ⟨H, s, w, hd, R, W, hm, hrow, pz, hw, wh, h⟩ => ?_⟩
  subst hd
  walk_at "dl"
  refine ⟨w, 501, rfl, hw, by decide, by decide, fun r S1 hr hw1 f1 => ?_⟩
  have C0 : Cs CT CH H s w S1 0 := Cs.well ⟨R, W, hm, fun n h1 h2 => by omega, hw, wh⟩ hw1 f1
  walk_at "dl"
  obtain ⟨m, em⟩ : ∃ m : Nat, 1000 + (r : Int) = (m : Int) := ⟨1000 + r, by omega⟩
  rw [em]
  have hm1 : 1000 ≤ m ∧ m ≤ 1500 := by omega
  refine rngOf (by omega) (by omega) ?_
  rw [Int.toNat_natCast]
  refine lcOfS (fun n acc S' => ∃ H' s', acc = refsT H' n ∧ Cs CT CH H' s' w S' n ∧ (∀ i, s'.parts i = []) ∧ H'.a .hall = H.a .hall) (by rw [rngD_len]; omega) ⟨H, s, rfl, C0, pz, rfl⟩ ?_ ?_
  · rintro pl hpl n d acc S2 hi hpl2 ⟨H', s', rfl, C, pz, eh⟩
    have hn := (rngD_get hi).2
    have kp : Kpt S2 (put S2 pl (.lst (refsT H' n))) := Kpt.refl.put hpl2 _
    walk_at "dl"
    refine needOf (methOf (x := .non) (by rw [← eh]; exact hrep_hall (Kpt.tr C.R kp).rep) rfl) ?_
    walk_at "dl"
    refine ⟨H', s', Str.ofString "list", .non, by rw [eh], (Kpt.tr C.R kp).rep, C.W, fun H2 S3 T => ?_⟩
    obtain ⟨S4, g1, g2, g3, g4⟩ := lc_hall C.R hpl2 T
    have h4 := g4 w C.hw.live C.wh
    have er : refsT H' n ++ [.ref (H2.a (.t (s'.many + 1)))] = refsT H2 (n + 1) := by
      unfold refsT
      rw [List.range_succ, List.map_append, C.many]
      congr 1
      refine List.map_congr_left fun a ha => ?_
      rw [T.t (by omega) (by have := List.mem_range.mp ha; have := C.many; omega)]
    refine ⟨S4, g1, g2, H2, _, er, ⟨g3, C.W.made (by have := C.many; omega) _ _, by show s'.many + 1 = _; rw [C.many], fun i h1 h2 => ?_, C.hw.at h4.1, h4.2⟩, pz, (T.hall).trans eh⟩
    show NoTh (fset s'.own (s'.many + 1) .non i)
    by_cases z : i = s'.many + 1
    · subst z; rw [fset_same]; exact .non
    · rw [fset_ne z]; exact C.own i h1 (by have := C.many; omega)
  · rintro acc S2 ⟨H', s', rfl, C, pz, eh⟩
    rw [rngD_len] at C ⊢
    have gi : ∀ {H' : HA} {a : Nat}, a < m → (refsT H' m)[a]? = some (.ref (H'.a (.t (a + 1)))) := fun {H' a} ha => by
      unfold refsT
      rw [List.getElem?_map, List.getElem?_range ha]
      rfl
    generalize eT : refsT H' m = things
    have eth : ∀ H2, (∀ a, a < m → H2.a (.t (a + 1)) = H'.a (.t (a + 1))) → things = refsT H2 m := fun H2 h2 => by
      rw [← eT]
      unfold refsT
      exact List.map_congr_left fun a ha => by rw [h2 a (List.mem_range.mp ha)]
    walk_at "dl"
    rw [show (m : Int) - 1 = ((m - 1 : Nat) : Int) by omega]
    refine rngOf (by omega) (by omega) ?_
    rw [Int.toNat_natCast]
    refine forOf (fun i δ S' => ∃ H2 s2 z4, δ = [some (.ref w), some (.ref (H.a .hall)), some (.int (m : Int)), some (.list things), z4, none, none] ∧ Cs CT CH H2 s2 w S' m ∧ (∀ n, s2.parts n = if 1 ≤ n ∧ n ≤ i then [(.inl 0, .th (n + 1))] else []) ∧ H2.a .hall = H.a .hall ∧ things = refsT H2 m)
      ⟨H', s', _, rfl, C, fun n => by rw [pz, if_neg (by omega)], eh, eT.symm⟩ ?_ ?_
    · rintro i d δ S3 hi ⟨H2, s2, z4, rfl, C, pp, eh, et⟩
      obtain ⟨hd, hir⟩ := rngD_get hi
      rw [Int.zero_add] at hd
      subst hd
      have hcm := C.many
      walk_at "dl"
      refine needOf (methOf (x := .non) (by rw [← eh]; exact hrep_hall C.R) rfl) ?_
      walk_at "dl"
      refine ixAt (.inl rfl) (by rw [et]; exact gi (by omega)) ?_
      walk_at "dl"
      rw [show (i : Int) + 1 = ((i + 1 : Nat) : Int) by omega]
      refine ixAt (.inl rfl) (by rw [et]; exact gi (by omega)) ?_
      walk_at "dl"
      have p1 : s2.parts (i + 1) = [] := by rw [pp, if_neg (by omega)]
      have hvo : VOk s2.many (.th (i + 2)) := (show 1 ≤ i + 2 ∧ i + 2 ≤ s2.many by omega)
      have W2 := C.W.putP (n := i + 1) (k := .inl 0) (v := .th (i + 2)) (by omega) hvo rfl (by rw [p1]; decide)
      refine ⟨H2, s2, i + 1, .int 0, .inl 0, .th (i + 2), _, by rw [eh]; rfl, C.R, C.W, by omega, by omega, rfl, rfl, hvo, by rw [p1]; decide, by rw [show oldP s2 (i + 1) (.inl 0) = .no .non by unfold oldP; rw [p1]; rfl]; exact .no, fun H3 S4 T => ?_⟩
      have C3 := C.put W2 T
      walk_at "dl"
      refine ⟨H3, _, _, rfl, C3, fun n => ?_, (T.hall).trans eh, ?_⟩
      · show fset s2.parts (i + 1) (gput (s2.parts (i + 1)) (.inl 0) (.th (i + 2))) n = _
        by_cases z : n = i + 1
        · subst z
          rw [fset_same, p1, if_pos (by omega)]
          rfl
        · rw [fset_ne z, pp]
          by_cases z2 : 1 ≤ n ∧ n ≤ i
          · rw [if_pos z2, if_pos (by omega)]
          · rw [if_neg z2, if_neg (by omega)]
      · rw [et]
        unfold refsT
        exact List.map_congr_left fun a ha => by rw [T.t (by omega) (by have := List.mem_range.mp ha; omega)]
    · rintro δ S3 ⟨H2, s2, z4, rfl, C, pp, eh, et⟩
      rw [rngD_len] at pp
      have hcm := C.many
      walk_at "dl"
      refine ⟨w, (m : Int), rfl, C.hw, by omega, by omega, fun f S4 hf hw4 f4 => ?_⟩
      have C := C.well hw4 f4
      walk_at "dl"
      refine lrgOf (by unfold RgOk; omega) ?_
      walk_at "dl"
      refine ⟨w, 2, rfl, C.hw, by decide, by decide, fun f2 S5 hf2 hw5 f5 => ?_⟩
      have C := C.well hw5 f5
      have led : ∀ s3 : Hs, ∀ n, ledV s3 (fun _ => none) n = (s3.parts n).map (·.2) := fun s3 n => by unfold ledV; rw [Option.getD_none, List.append_nil]
      have fin : ∀ (H3 : HA) (s3 : Hs) (S6 : Sto) (lo : Int) (n : Nat), Cs CT CH H3 s3 w S6 m → H3.a .hall = H.a .hall → things = refsT H3 m → (∀ i, (s3.parts i).length ≤ 1) → (∀ j : Int, (lo ≤ j ∧ j < lo + n) ↔ ∃ i : Nat, j = (i : Int) ∧ Rch (ledV s3 (fun _ => none)) [.th (f + 1)] i) →
          DL.ask (dReached CT CH CD .non) [.ref (H.a .hall), .list [.ref (H3.a (.t (f + 1)))]] S6 (fun x S1 => st2 (oEqA false) x (.list (rngD lo n)) S1 q ⟨⟩) ⟨⟩ := fun H3 s3 S6 lo n C3 eh3 et3 pl hmem => by
        have hc3 := C3.many
        refine ⟨H3, s3, fun _ => none, [.th (f + 1)], by rw [eh3]; rfl, C3.R, C3.W, fun i h1 h2 => C3.own i h1 (by omega), fun v hv => ?_, fun _ _ e => (by cases e), ?_, fun ys p S7 kp hp hys hr => ?_⟩
        · rw [List.mem_singleton.mp hv]
          exact (show 1 ≤ f + 1 ∧ f + 1 ≤ s3.many by omega)
        · have : msum (fun n => (ledV s3 (fun _ => none) n).length + 1) s3.many ≤ msum (fun _ => 2) s3.many := msum_le fun i => by
            rw [led, List.length_map]
            have := pl i
            omega
          have e2 : ∀ a, msum (fun _ => 2) a = 2 * a := fun a => by
            induction a with
            | zero => rfl
            | succ a ih => unfold msum; rw [ih]; omega
          rw [e2] at this
          show 1 + _ ≤ _
          omega
        · have e : ys = (List.range n).map fun k : Nat => lo + (k : Int) := sorted_uniq hr.1 (rg_sorted lo n) fun j => (hr.2 j).trans ((hmem j).symm.trans rg_mem.symm)
          refine eqASame (p' := .list (ys.map D.int)) (res_lst hys) (by rw [e, rngD_ints']; rfl) any_ints deep_ints ?_
          exact h _ (C3.hw.at (kp _ C3.hw.live))
      have pl1 : ∀ i, (s2.parts i).length ≤ 1 := fun i => by rw [pp]; split <;> simp
      have hgc : ∀ k, 1 ≤ k → k < m → ∀ n, Vl.th n ∈ ledV s2 (fun _ => none) k ↔ n = k + 1 := fun k h1 h2 n => by
        rw [led, pp, if_pos (by omega)]
        simp
      have pm0 : s2.parts m = [] := by rw [pp, if_neg (by omega)]
      walk_at "dl"
      refine br (fun _ => ?_) (fun _ => ?_)
      · walk_at "dl"
        refine needOf (methOf (x := .non) (by rw [← eh]; exact hrep_hall C.R) rfl) ?_
        walk_at "dl"
        rw [show (m : Int) - 1 = ((m - 1 : Nat) : Int) by omega]
        refine ixAt (.inl rfl) (by rw [et]; exact gi (by omega)) ?_
        walk_at "dl"
        refine ixAt (j := 0) (.inl rfl) (by rw [et]; exact gi (by omega)) ?_
        walk_at "dl"
        have em1 : m - 1 + 1 = m := by omega
        rw [em1]
        have hvo : VOk s2.many (.th 1) := (show 1 ≤ 1 ∧ 1 ≤ s2.many by omega)
        have W2 := C.W.putP (n := m) (k := .inl 1) (v := .th 1) (by omega) hvo rfl (by rw [pm0]; decide)
        refine ⟨H2, s2, m, .int 1, .inl 1, .th 1, _, by rw [eh]; rfl, C.R, C.W, by omega, by omega, rfl, rfl, hvo, by rw [pm0]; decide, by rw [show oldP s2 m (.inl 1) = .no .non by unfold oldP; rw [pm0]; rfl]; exact .no, fun H3 S6 T => ?_⟩
        have C3 := C.put W2 T
        have pp3 : (s2.putP m (.inl 1) (.th 1)).parts = fset s2.parts m [(.inl 1, .th 1)] := by
          show fset s2.parts m (gput (s2.parts m) (.inl 1) (.th 1)) = _
          rw [pm0]
          rfl
        have et3 : things = refsT H3 m := by
          rw [et]
          unfold refsT
          exact List.map_congr_left fun a ha => by rw [T.t (by omega) (by have := List.mem_range.mp ha; omega)]
        walk_at "dl"
        refine lrgOf (by unfold RgOk; omega) ?_
        walk_at "dl"
        refine ixAt (.inl rfl) (by rw [et3]; exact gi (by omega)) ?_
        walk_at "dl"
        refine fin H3 _ S6 _ _ C3 ((T.hall).trans eh) et3 (fun i => ?_) (fun j => ?_)
        · rw [pp3]
          by_cases z : i = m
          · subst z; rw [fset_same]; exact Nat.le_refl _
          · rw [fset_ne z]; exact pl1 i
        · have hr := rch_ring (G := ledV (s2.putP m (.inl 1) (.th 1)) (fun _ => none)) (m := m) (f := f + 1) (by omega) (by omega) (fun k h1 h2 n => by rw [led, pp3, fset_ne (by omega), ← led]; exact hgc k h1 h2 n) (fun n => by rw [led, pp3, fset_same]; simp)
          constructor
          · intro hj
            exact ⟨j.toNat, by omega, (hr _).mpr (by omega)⟩
          · rintro ⟨i, rfl, h3⟩
            have := (hr i).mp h3
            omega
      · walk_at "dl"
        refine ixAt (.inl rfl) (by rw [et]; exact gi (by omega)) ?_
        walk_at "dl"
        refine fin H2 s2 S5 _ _ C eh et pl1 (fun j => ?_)
        have hr := rch_row (G := ledV s2 (fun _ => none)) (m := m) (f := f + 1) (by omega) (by omega) hgc (fun n => by rw [led, pm0]; simp)
        constructor
        · intro hj
          exact ⟨j.toNat, by omega, (hr _).mpr (by omega)⟩
        · rintro ⟨i, rfl, h3⟩
          have := (hr i).mp h3
          omega
/-- a hall at its beginning -/
def s00 : Hs := { many := 0, cnt := fun _ => 0, parts := fun _ => [], form := fun _ => .non, own := fun _ => .non, there := [], left := [], row := none, lasts := 0, waits := [], asked := [], rest := [], outer := [], mine := [], ends := [], told := [] }
theorem s00_wf : Wf s00 := ⟨by simp [s00], fun _ h => (by cases h), by simp [s00], by decide, fun _ => by simp [s00], fun _ => by simp [s00], fun _ _ h => (by cases h), by simp [s00], fun _ h => (by cases h), fun _ h => (by cases h), fun _ _ => rfl, fun _ h => (by cases h), fun _ _ h => (by cases h)⟩
def H00 (hl th lf dx : Addr) : HA := { a := fun l => match l with | .hall => hl | .th => th | .lf => lf | _ => hl, dx := dx, dt := fun _ => hl }
theorem hrep00 {hl th lf dx : Addr} {en : D} {S : Sto} (e1 : S hl = some (.ins CH dx (haFs en (.int 0) (.ref th) (.ref lf) .non (.int 0)))) (e2 : S th = some (.dct [])) (e3 : S lf = some (.lst [])) : HRep CT CH en (H00 hl th lf dx) s00 S := by
  have n1 : hl ≠ th := fun z => by rw [z, e2] at e1; cases e1
  have n2 : hl ≠ lf := fun z => by rw [z, e3] at e1; cases e1
  have n3 : th ≠ lf := fun z => by rw [z, e3] at e2; cases e2
  have dead : ∀ n, ¬ (1 ≤ n ∧ n ≤ s00.many) := fun n h => by have : s00.many = 0 := rfl; omega
  refine ⟨fun {l o} h => ?_, fun {l l'} h h' e => ?_⟩
  · cases l with
    | hall => cases h; exact e1
    | th => cases h; exact e2
    | lf => cases h; exact e3
    | row => cases h
    | t n => have h : (if 1 ≤ n ∧ n ≤ s00.many then some (thingO CT (H00 hl th lf dx) s00 n) else none) = some o := h; rw [if_neg (dead n)] at h; cases h
    | pd n => have h : (if 1 ≤ n ∧ n ≤ s00.many then some (partsO (H00 hl th lf dx) (s00.parts n)) else none) = some o := h; rw [if_neg (dead n)] at h; cases h
  · have lv : ∀ l, hC CT CH en (H00 hl th lf dx) s00 l ≠ none → l = .hall ∨ l = .th ∨ l = .lf := fun l h => by
      cases l with
      | hall => exact .inl rfl
      | th => exact .inr (.inl rfl)
      | lf => exact .inr (.inr rfl)
      | row => exact absurd rfl h
      | t n => exact absurd (if_neg (dead n)) h
      | pd n => exact absurd (if_neg (dead n)) h
    rcases lv l h with rfl | rfl | rfl <;> rcases lv l' h' with rfl | rfl | rfl
    · rfl
    · exact absurd e n1
    · exact absurd e n2
    · exact absurd e.symm n1
    · rfl
    · exact absurd e n3
    · exact absurd e.symm n2
    · exact absurd e.symm n3
    · rfl
section
variable {H : HA} {s : Hs} {B : OL → Addr} {hx : Nat → Addr} {m : Nat} {ways : Nat → List Nat} {hv : Nat → Option (List Vl)} {w : Addr} {S : Sto}
theorem Lk.ownH (L : Lk CT CH CD H s B hx m ways hv w S) {n : Nat} (h1 : 1 ≤ n) (h2 : n ≤ s.many) : OwnH CD H S (s.own n) (hv n) := by
  have := L.own n h1 h2
  cases e : hv n with
  | none => rw [e] at this; exact this
  | some vs =>
    rw [e] at this
    have h3 : oC CD H B hx m ways hv (.hi n) = some (heldO CD (hx n) B n) := by show (hv n).map _ = _; rw [e]; rfl
    have h4 : oC CD H B hx m ways hv (.hl n) = some (.lst (vs.map (vD H))) := by show (hv n).map _ = _; rw [e]; rfl
    exact ⟨_, _, _, this, L.o.at_ h3, L.o.at_ h4⟩
/-- a value more that a thing's own holds -/
theorem Lk.held1 (L : Lk CT CH CD H s B hx m ways hv w S) {n : Nat} {vs : List Vl} (e : hv n = some vs) {v : Vl} (hvo : VOk s.many v) : Lk CT CH CD H s B hx m ways (fset hv n (some (vs ++ [v]))) w (DL.put S (B (.hl n)) (.lst ((vs ++ [v]).map (vD H)))) := by
  have c0 : oC CD H B hx m ways hv (.hl n) = some (.lst (vs.map (vD H))) := by show (hv n).map _ = _; rw [e]; rfl
  have c1 : oC CD H B hx m ways (fset hv n (some (vs ++ [v]))) (.hl n) = some (.lst ((vs ++ [v]).map (vD H))) := by show (fset hv n (some (vs ++ [v])) n).map _ = _; rw [fset_same]; rfl
  have lab : ∀ x, x ≠ .hl n → oC CD H B hx m ways (fset hv n (some (vs ++ [v]))) x = oC CD H B hx m ways hv x := fun x hx' => by
    cases x with
    | hl i =>
      have z : i ≠ n := fun z => hx' (by rw [z])
      show (fset hv n (some (vs ++ [v])) i).map _ = (hv i).map _
      rw [fset_ne z]
    | hi i =>
      show (fset hv n (some (vs ++ [v])) i).map _ = (hv i).map _
      by_cases z : i = n
      · subst z; rw [fset_same, e]; rfl
      · rw [fset_ne z]
    | _ => rfl
  have lv := live_of c0 c1 lab
  have T := L.o.set (pin := fun _ => True) c0 c1 lab
  refine ⟨L.h.keep fun x hx' => put_ne (L.ap x (.hl n) hx' (nn c0)), L.W, T.rep, fun x y hx' hy => L.ap x y hx' ((lv y).mp hy), L.wl.at (put_ne (L.wo (.hl n) (nn c0))), L.wh, fun x hx' => L.wo x ((lv x).mp hx'), fun i h1 h2 => ?_, fun i us ei u hu => ?_⟩
  · have := L.own i h1 h2
    by_cases z : i = n
    · subst z; rw [e] at this; rw [fset_same]; exact this
    · rw [fset_ne z]; exact this
  · by_cases z : i = n
    · subst z
      rw [fset_same] at ei
      cases ei
      rcases List.mem_append.mp hu with hu | hu
      · exact L.hvo _ vs e u hu
      · rw [List.mem_singleton.mp hu]; exact hvo
    · rw [fset_ne z] at ei
      exact L.hvo i us ei u hu
theorem Out.held1 {b : Addr} {k : Nat} {vs us : List Vl} (e : hv k = some vs) (ob : Out CT CH CD H s B hx m ways hv w b) : Out CT CH CD H s B hx m ways (fset hv k (some us)) w b := by
  refine ⟨ob.1, ob.2.1, fun x hx' => ob.2.2 x ?_⟩
  cases x with
  | hl i =>
    have : (fset hv k (some us) i).map (fun vs => O.lst (vs.map (vD H))) ≠ none := hx'
    show (hv i).map _ ≠ none
    by_cases z : i = k
    · subst z; rw [e]; exact nofun
    · rw [fset_ne z] at this; exact this
  | hi i =>
    have : (fset hv k (some us) i).map (fun _ => heldO CD (hx i) B i) ≠ none := hx'
    show (hv i).map _ ≠ none
    by_cases z : i = k
    · subst z; rw [e]; exact nofun
    · rw [fset_ne z] at this; exact this
  | _ => exact hx'
end
theorem new_hall {w a th lf dx : Addr} {S S2 : Sto} (hw : Well S w) (n1 : S a = none) (t1 : put S a (.ins CH dx []) th = none) (t2 : put S a (.ins CH dx []) lf = none) (e1 : S2 a = some (.ins CH dx (haFs .non (.int 0) (.ref th) (.ref lf) .non (.int 0)))) (e2 : S2 th = some (.dct [])) (e3 : S2 lf = some (.lst []))
    (fr : ∀ b, b ≠ th → b ≠ lf → b ≠ a → S2 b = put S a (.ins CH dx []) b) : HRep CT CH .non (H00 a th lf dx) s00 S2 ∧ Kpt S S2 ∧ Well S2 w ∧ ∀ l, hC CT CH .non (H00 a th lf dx) s00 l ≠ none → w ≠ (H00 a th lf dx).a l := by
  have nth : th ≠ a := fun z => by rw [z, put_same] at t1; cases t1
  have nlf : lf ≠ a := fun z => by rw [z, put_same] at t2; cases t2
  rw [put_ne nth] at t1
  rw [put_ne nlf] at t2
  have kp : Kpt S S2 := fun b hb => by
    have h1 : b ≠ a := fun z => hb (by rw [z]; exact n1)
    rw [fr b (fun z => hb (by rw [z]; exact t1)) (fun z => hb (by rw [z]; exact t2)) h1, put_ne h1]
  refine ⟨hrep00 e1 e2 e3, kp, hw.at (kp _ hw.live), fun l hl z => ?_⟩
  cases l with
  | hall => exact hw.live (by rw [z]; exact n1)
  | th => exact hw.live (by rw [z]; exact t1)
  | lf => exact hw.live (by rw [z]; exact t2)
  | row => exact hl rfl
  | t n => exact hl (if_neg fun h => by have : s00.many = 0 := rfl; omega)
  | pd n => exact hl (if_neg fun h => by have : s00.many = 0 := rfl; omega)
def dLaw28 : SpD := fun ds S k _ => ∃ (ns : List Int), ds = [.scr (ns.map D.int)] ∧ ns.length ≤ 63 ∧ ∀ S', k (.bl true) S'
theorem ok_law {fa : Addr} {fd : FuncData} (F : Fun K "law" "law" s_law fa fd) (T : TxW K mg CT CH CD) (G_mk_Hall : MkDef P w K mg base 1 "Hall" CH ["self", "ender"] (lSp K (dHaInit CH))) (G__law_well : DefD P w K mg base 1 "_law_well" ["_law_script", "_law_first"] dWell) (G__law_dig : DefD P w K mg base 2 "_law_dig" ["_law_well_here", "_law_most"] dDig)
    (G__law_things : DefD P w K mg base 9 "_law_things" ["_law_well_here", "_law_hall", "_law_ways"] (dThings28 CT CH CD)) (G__law_due : DefD P w K mg base 1 "_law_due" ["_law_ways", "_law_begins"] dDue28) (G__law_chain_right : DefD P w K mg base 9 "_law_chain_right" ["_law_well_here", "_law_hall"] (dChain CT CH CD)) (G_reached : DefD P w K mg base 3 "reached" ["hall", "roots"] (dReached CT CH CD .non))
    (G_heldN : MDef P w K mg base 1 CD "held" ["self"] (lSp K (dHeldN CD))) (G_Hall_gone : MDef P w K mg base 1 CH "gone" ["self"] (lSp K (dGone CT CH .non))) (G_Hall_things : MDef P w K mg base 1 CH "things" ["self"] (lSp K (dThings CT CH .non))) :
    FnOk P w K mg base CX0 10 fa fd ["_law_script"] (lSp K dLaw28) := by
  refine dok F sc_law (fun ds S q qx ⟨ns, h, _⟩ => by rw [h]; rfl) ⟨_, fun cdv A outer s H E hr => dss_cons (ds_set (i := 1) sc_law.nd rfl (Or.inl rfl) (de_call G__law_well (hr.mono (by decide)) (by rfl) (da_cons (de_var 0) (da_cons (de_int) da_nil))))
      (dss_cut (ds_if (PW.pt (dw_and (dt_cmp op_eq si_eq (de_call G__law_dig (hr.mono (by decide)) (by rfl) (da_cons (de_var 1) (da_cons (de_int) da_nil))) (de_int) (nomark _)) (dw_and1 (dt_not (dt_val (de_call G__law_chain_right (hr.mono (by decide)) (by rfl) (da_cons (de_var 1) (da_cons (de_make G_mk_Hall (hr.mono (by decide)) (by rfl) (da_cons (de_non) da_nil)) da_nil))))))))
        (dss_one (ds_ret (de_bl)))
        (dss_nil))
      (dss_cons (ds_set (i := 2) sc_law.nd rfl (Or.inl rfl) (de_make G_mk_Hall (hr.mono (by decide)) (by rfl) (da_cons (de_non) da_nil)))
      (dss_cons (ds_set (i := 3) sc_law.nd rfl (Or.inl rfl) (de_newD))
      (dss_cons (ds_set (i := 4) sc_law.nd rfl (Or.inl rfl) (de_call G__law_things (hr.mono (by decide)) (by rfl) (da_cons (de_var 1) (da_cons (de_var 2) (da_cons (de_var 3) da_nil)))))
      (dss_cons (ds_set (i := 5) sc_law.nd rfl (Or.inl rfl) (de_new (da_nil)))
      (dss_cons (ds_set (i := 6) sc_law.nd rfl (Or.inl rfl) (de_new (da_nil)))
      (dss_cons (ds_for PassesOwn.never rfl (di_range1 (by rfl) T.range (da_cons (de_call G__law_dig (hr.mono (by decide)) (by rfl) (da_cons (de_var 1) (da_cons (de_int) da_nil))) da_nil)) (dg_name (i := 7) sc_law.nd rfl (Or.inl rfl))
        (dss_cons (ds_set (i := 8) sc_law.nd rfl (Or.inl rfl) (de_call G__law_dig (hr.mono (by decide)) (by rfl) (da_cons (de_var 1) (da_cons (de_callB call_len (si_len rfl) (by rfl) T.len (by decide +kernel) (da_cons (de_var 4) da_nil)) da_nil))))
        (dss_one (ds_if (dt_cmp op_eq si_eq (de_call G__law_dig (hr.mono (by decide)) (by rfl) (da_cons (de_var 1) (da_cons (de_int) da_nil))) (de_int) (nomark _))
          (dss_one (ds_expr (de_ml PySem.F.slot_list_append PySem.F.type_list_append mt_append si_app (de_var 6) (da_cons (de_ix ix_seq (si_ix rfl) (de_lst (da_cons (de_var 8) (da_cons (de_str) (da_cons (de_bl) (da_cons (de_non) da_nil))))) (de_call G__law_dig (hr.mono (by decide)) (by rfl) (da_cons (de_var 1) (da_cons (de_int) da_nil))) (fun _ _ => rfl)) da_nil))))
          (dss_cons (ds_expr (de_ml PySem.F.slot_list_append PySem.F.type_list_append mt_append si_app (de_var 6) (da_cons (de_ix ix_seq (si_ix rfl) (de_var 4) (de_var 8) (fun _ _ => rfl)) da_nil)))
          (dss_one (ds_expr (de_ml PySem.F.slot_list_append PySem.F.type_list_append mt_append si_app (de_var 5) (da_cons (de_op op_add si_add (de_var 8) (de_int)) da_nil)))))))))
      (dss_cons (ds_set (i := 9) sc_law.nd rfl (Or.inl rfl) (de_call G__law_due (hr.mono (by decide)) (by rfl) (da_cons (de_var 3) (da_cons (de_var 5) da_nil))))
      (dss_cons (ds_setLc (i := 10) (own := [("_law_thing", 15)]) (gc_name (j := 15) (by decide)) rfl sc_law.nd rfl rfl (sw_true rfl rfl rfl (by decide +kernel)) (di_list (K := K) (de_var 4)) (blkOk_by (N := N_law) (sc := defScope s_law) (by decide +kernel)) (fun _ _ _ _ _ => pg_name (i := 15) sc_law.nd rfl (Or.inl rfl)) (fun _ _ _ _ _ => dts_nil) (fun _ _ _ _ _ => de_fld T.Thing_ (by decide +kernel) (de_var 15)))
      (dss_cons (ds_set (i := 11) sc_law.nd rfl (Or.inl rfl) (de_callTy (clList (K := K)) si_list (by rfl) T.list (by decide +kernel) (da_cons (de_var 6) da_nil)))
      (dss_cons (ds_for PassesOwn.never rfl (di_range1 (by rfl) T.range (da_cons (de_int) da_nil)) (dg_name (i := 12) sc_law.nd rfl (Or.inl rfl))
        (dss_cons (ds_set (i := 13) sc_law.nd rfl (Or.inl rfl) (de_call G_reached (hr.mono (by decide)) (by rfl) (da_cons (de_var 2) (da_cons (de_var 11) da_nil))))
        (dss_cut (ds_if (PW.pt (dw_or (dt_not (dt_val (de_callB (clIsi' (K := K)) si_isi (by rfl) T.isinstance (by decide +kernel) (da_cons (de_var 13) (da_cons (de_blt (n := "list") (by rfl) T.list (by decide +kernel)) da_nil))))) (dw_or (dt_cmp (op_neM (K := K) hr.units) (si_eqA true) (de_var 13) (de_var 9) (nomark _)) (dw_or1 (dt_cmp (op_neV (K := K) (Nat.lt_of_succ_lt (hu_of hr))) si_neV (de_var 11) (de_var 6) (nomark _))))))
          (dss_one (ds_ret (de_bl)))
          (dss_nil))
        (dss_one (ds_expr (de_ml PySem.F.slot_list_append PySem.F.type_list_append mt_append si_app (de_var 13) (da_cons (de_neg (de_int)) da_nil)))))))
      (dss_cons (ds_for PassesOwn.never rfl (di_range1 (by rfl) T.range (da_cons (de_callB call_len (si_len rfl) (by rfl) T.len (by decide +kernel) (da_cons (de_var 4) da_nil)) da_nil)) (dg_name (i := 7) sc_law.nd rfl (Or.inl rfl))
        (dss_one (ds_if (PW.pt (dw_and (dt_val (de_callB (clIsi' (K := K)) (si_isiC T.HeldI) (by rfl) T.isinstance (by decide +kernel) (da_cons (de_fld T.Thing_ (by decide +kernel) (de_ix ix_seq (si_ix rfl) (de_var 4) (de_var 7) (fun _ _ => rfl))) (da_cons (de_gl (by rfl) T.Held) da_nil)))) (dw_and1 (dt_cmp op_eq si_eq (de_call G__law_dig (hr.mono (by decide)) (by rfl) (da_cons (de_var 1) (da_cons (de_int) da_nil))) (de_int) (nomark _)))))
          (dss_cons (ds_set (i := 14) sc_law.nd rfl (Or.inl rfl) (de_call G__law_dig (hr.mono (by decide)) (by rfl) (da_cons (de_var 1) (da_cons (de_callB call_len (si_len rfl) (by rfl) T.len (by decide +kernel) (da_cons (de_var 4) da_nil)) da_nil))))
          (dss_cons (ds_expr (de_ml PySem.F.slot_list_append PySem.F.type_list_append mt_append si_app (de_fld T.Held_ (by decide +kernel) (de_fld T.Thing_ (by decide +kernel) (de_ix ix_seq (si_ix rfl) (de_var 4) (de_var 7) (fun _ _ => rfl)))) (da_cons (de_ix ix_seq (si_ix rfl) (de_var 4) (de_var 14) (fun _ _ => rfl)) da_nil)))
          (dss_cons (ds_expr (de_ml PySem.F.slot_list_append PySem.F.type_list_append mt_append si_app (de_dget (hu_of hr) (de_var 3) (de_op op_add si_add (de_var 7) (de_int)) (fun _ _ => rfl)) (da_cons (de_op op_add si_add (de_var 14) (de_int)) da_nil)))
          (dss_one (ds_expr (de_ml0 PySem.F.slot_list_clear PySem.F.type_list_clear mt_clear si_clr (de_meth0 T.Held_ G_heldN (hr.mono (by decide)) (de_fld T.Thing_ (by decide +kernel) (de_ix ix_seq (si_ix rfl) (de_var 4) (de_var 7) (fun _ _ => rfl))))))))))
          (dss_nil))))
      (dss_cut (ds_if (dt_cmp (op_neM (K := K) hr.units) (si_eqA true) (de_call G_reached (hr.mono (by decide)) (by rfl) (da_cons (de_var 2) (da_cons (de_var 11) da_nil))) (de_call G__law_due (hr.mono (by decide)) (by rfl) (da_cons (de_var 3) (da_cons (de_var 5) da_nil))) (nomark _))
        (dss_one (ds_ret (de_bl)))
        (dss_nil))
      (dss_cut (ds_if (PW.pt (dw_or (dt_cmp (op_neM (K := K) hr.units) (si_eqA true) (de_meth0 T.Hall_ G_Hall_gone (hr.mono (by decide)) (de_var 2)) (de_lst (da_nil)) (nomark _)) (dw_or1 (dt_cmp (op_neM (K := K) hr.units) (si_eqA true) (de_lc (own := [("_law_thing", 15)]) (gc_name (j := 15) (by decide)) rfl sc_law.nd (di_list (K := K) (de_var 4)) (blkOk_by (N := N_law) (sc := defScope s_law) (by decide +kernel)) (fun _ _ _ _ _ => pg_name (i := 15) sc_law.nd rfl (Or.inl rfl)) (fun _ _ _ _ _ => dts_nil) (fun _ _ _ _ _ => de_fld T.Thing_ (by decide +kernel) (de_var 15))) (de_var 10) (nomark _)))))
        (dss_one (ds_ret (de_bl)))
        (dss_nil))
      (dss_one (ds_ret (de_cmp (op_eqM (K := K) hr.units) (si_eqA false) (de_meth0 T.Hall_ G_Hall_things (hr.mono (by decide)) (de_var 2)) (de_listRg (K := K) rfl (by rfl) T.list (by rfl) T.range (de_int) (de_op op_add si_add (de_callB call_len (si_len rfl) (by rfl) T.len (by decide +kernel) (da_cons (de_var 4) da_nil)) (de_int))) (nomark _)))))))))))))))))), fun ds S q qx ⟨ns, hd, hl, h⟩ => ?_⟩
  subst hd
  walk_at "dl"
  refine ⟨ns, 0, rfl, hl, fun w S1 _ hw1 f1 => ?_⟩
  walk_at "dl"
  refine cutOf (fun δ S' => δ = [some (.scr (ns.map D.int)), some (.ref w), none, none, none, none, none, none, none, none, none, none, none, none, none, none] ∧ Well S' w) ?_ ?_
  · walk_at "dl"
    refine ⟨w, 8, rfl, hw1, by decide, by decide, fun r S2 hr hw2 f2 => ?_⟩
    walk_at "dl"
    refine br (fun _ => ?_) (fun _ => ?_)
    · walk_at "dl"
      refine freshOf fun a n1 dx => ?_
      refine ⟨a, dx, .non, rfl, put_same, fun th lf S3 t1 t2 t3 e1 e2 e3 fr => ⟨rfl, ?_⟩⟩
      obtain ⟨R3, kp3, hw3, wh3⟩ := new_hall (CT := CT) hw2 n1 t1 t2 e1 e2 e3 fr
      walk_at "dl"
      refine ⟨H00 a th lf dx, s00, w, rfl, R3, s00_wf, rfl, rfl, fun _ => rfl, hw3, wh3, fun S4 hw4 => ?_⟩
      walk_at "dl"
      exact hw4
    · walk_at "dl"
      exact hw2
  · rintro δ S2 ⟨rfl, hw2⟩
    walk_at "dl"
    refine freshOf fun a n1 dx => ?_
    refine ⟨a, dx, .non, rfl, put_same, fun th lf S3 t1 t2 t3 e1 e2 e3 fr => ⟨rfl, ?_⟩⟩
    obtain ⟨R3, kp3, hw3, wh3⟩ := new_hall (CT := CT) hw2 n1 t1 t2 e1 e2 e3 fr
    walk_at "dl"
    refine freshOf fun wd hwd => ?_
    have kp4 : Kpt S3 (put S3 wd (.dct [])) := Kpt.refl.put hwd _
    have L0 : Lk CT CH CD (H00 a th lf dx) s00 (fun _ => wd) (fun _ => wd) 0 (fun _ => []) (fun _ => none) w (put S3 wd (.dct [])) := by
      have dead : ∀ l, oC CD (H00 a th lf dx) (fun _ => wd) (fun _ => wd) 0 (fun _ => []) (fun _ => none) l ≠ none → l = .wd := fun l hl => by
        cases l with
        | wd => rfl
        | wl n => exact absurd (if_neg (by omega)) hl
        | hi n => exact absurd rfl hl
        | hl n => exact absurd rfl hl
      refine ⟨(Kpt.tr R3 kp4).rep, s00_wf, ⟨fun {l o} e => ?_, fun {l l'} h h' _ => by rw [dead l h, dead l' h']⟩, fun x y hx hy z => R3.live hx (by rw [z]; exact hwd), hw3.at (kp4 _ hw3.live), wh3, fun l _ z => hw3.live (by rw [z]; exact hwd), fun n h1 h2 => (by have : n ≤ 0 := h2; omega), fun _ _ e => (by cases e)⟩
      have := dead l (nn e)
      subst this
      cases e
      exact put_same
    have Q0 : Pt s00 (fun _ => []) (fun _ => none) 0 := ⟨rfl, rfl, rfl, rfl, fun _ _ e => (by cases e), fun n h1 h2 => by omega, fun n h1 h2 => by omega, fun n h1 h2 => by omega, fun _ => Nat.zero_le _⟩
    walk_at "dl"
    refine ⟨H00 a th lf dx, s00, fun _ => wd, fun _ => wd, w, rfl, L0, Q0, fun _ => rfl, fun m H s B hx ways hv S4 hm1 hm20 L Q eh ew => ?_⟩
    have eh : H.a .hall = a := eh
    have ew : B .wd = wd := ew
    walk_at "dl"
    refine freshOf fun pb hpb => ?_
    have ob := L.out hpb
    have L := L.at_out ob (.lst [])
    walk_at "dl"
    refine freshOf fun pv hpv => ?_
    have ov := L.out hpv
    have nbv : pb ≠ pv := sto_ne put_same hpv
    have L := L.at_out ov (.lst [])
    have eb : put (put S4 pb (.lst [])) pv (.lst []) pb = some (.lst []) := (put_ne nbv).trans put_same
    have ev : put (put S4 pb (.lst [])) pv (.lst []) pv = some (.lst []) := put_same
    generalize put (put S4 pb (.lst [])) pv (.lst []) = S5 at L eb ev
    have hmi := Q.many
    have gi : ∀ {i : Nat}, i < m → (refsT H m)[i]? = some (.ref (H.a (.t (i + 1)))) := fun {i} hi => by
      unfold refsT
      rw [List.getElem?_map, List.getElem?_range hi]
      rfl
    have lenT : (refsT H m).length = m := by unfold refsT; rw [List.length_map, List.length_range]
    generalize eT : refsT H m = things at gi lenT
    walk_at "dl"
    refine ⟨w, 5, rfl, L.wl, by decide, by decide, fun r5 S6 hr5 hw6 f6 => ?_⟩
    have L := L.well hw6 f6
    have eb := (f6 pb ob.1).trans eb
    have ev := (f6 pv ov.1).trans ev
    walk_at "dl"
    refine rngOf (by omega) (by omega) ?_
    rw [Int.toNat_natCast]
    refine forOf (fun i δ S' => ∃ (bs : List Nat) (vs : List Vl) (z7 z8 : Option D), δ = [some (.scr (ns.map D.int)), some (.ref w), some (.ref a), some (.ref wd), some (.list things), some (.ref pb), some (.ref pv), z7, z8, none, none, none, none, none, none, none] ∧ Lk CT CH CD H s B hx m ways hv w S' ∧ S' pb = some (wayO bs) ∧ S' pv = some (.lst (vs.map (vD H))) ∧ bs.length ≤ i ∧ vs.length ≤ i ∧ (∀ j ∈ bs, 1 ≤ j ∧ j ≤ m) ∧ (∀ v ∈ vs, VOk s.many v) ∧ ∀ j, Vl.th j ∈ vs ↔ j ∈ bs)
      ⟨[], [], _, _, rfl, L, eb, ev, Nat.le_refl _, Nat.le_refl _, fun _ h => (by cases h), fun _ h => (by cases h), fun _ => by simp⟩ ?_ ?_
    · rintro i d δ S7 hi ⟨bs, vs, z7, z8, rfl, L, eb, ev, hbl, hvl, hb, hv1, hbv⟩
      obtain ⟨hd, hir⟩ := rngD_get hi
      walk_at "dl"
      rw [lenT]
      refine ⟨w, (m : Int), rfl, L.wl, by omega, by omega, fun n S8 hn hw8 f8 => ?_⟩
      have L := L.well hw8 f8
      have eb := (f8 pb ob.1).trans eb
      have ev := (f8 pv ov.1).trans ev
      walk_at "dl"
      refine ⟨w, 4, rfl, L.wl, by decide, by decide, fun r4 S9 hr4 hw9 f9 => ?_⟩
      have L := L.well hw9 f9
      have eb := (f9 pb ob.1).trans eb
      have ev := (f9 pv ov.1).trans ev
      walk_at "dl"
      refine br (fun _ => ?_) (fun _ => ?_)
      · walk_at "dl"
        refine needOf (isLOf ev) ?_
        walk_at "dl"
        refine ⟨w, 4, rfl, L.wl, by decide, by decide, fun r3 S10 hr3 hw10 f10 => ?_⟩
        have L := L.well hw10 f10
        have eb := (f10 pb ob.1).trans eb
        have ev := (f10 pv ov.1).trans ev
        obtain ⟨v0, hv0, nv0⟩ : ∃ o, [D.int (n : Int), .str (Str.ofString "text"), .bl false, .non][r3]? = some o ∧ NoTh o := by
          rcases r3 with _ | _ | _ | _ | r3
          · exact ⟨_, rfl, .int _⟩
          · exact ⟨_, rfl, .str _ (by decide +kernel)⟩
          · exact ⟨_, rfl, .bl _⟩
          · exact ⟨_, rfl, .non⟩
          · omega
        walk_at "dl"
        refine ixAt (.inl rfl) hv0 ?_
        walk_at "dl"
        refine appOf ev (by rw [List.length_map]; omega) ?_
        walk_at "dl"
        refine ⟨bs, vs ++ [.no v0], _, _, rfl, L.at_out ov _, (put_ne nbv).trans eb, by rw [put_same, List.map_append]; rfl, by omega, by rw [List.length_append]; exact Nat.succ_le_succ hvl, hb, fun v hv' => ?_, fun j => ?_⟩
        · rcases List.mem_append.mp hv' with hv' | hv'
          · exact hv1 v hv'
          · rw [List.mem_singleton.mp hv']; exact nv0
        · rw [List.mem_append]
          simp [hbv]
      · walk_at "dl"
        refine needOf (isLOf ev) ?_
        walk_at "dl"
        refine ixAt (.inl rfl) (gi (i := n) (by omega)) ?_
        walk_at "dl"
        refine appOf ev (by rw [List.length_map]; omega) ?_
        have eb2 : put S9 pv (.lst (vs.map (vD H) ++ [.ref (H.a (.t (n + 1)))])) pb = some (wayO bs) := (put_ne nbv).trans eb
        have ev2 : put S9 pv (.lst (vs.map (vD H) ++ [.ref (H.a (.t (n + 1)))])) pv = some (.lst (vs.map (vD H) ++ [.ref (H.a (.t (n + 1)))])) := put_same
        have L := L.at_out ov (.lst (vs.map (vD H) ++ [.ref (H.a (.t (n + 1)))]))
        generalize put S9 pv (.lst (vs.map (vD H) ++ [.ref (H.a (.t (n + 1)))])) = S10 at L eb2 ev2
        walk_at "dl"
        refine needOf (isLOf eb2) ?_
        walk_at "dl"
        refine appOf eb2 (by rw [List.length_map]; omega) ?_
        walk_at "dl"
        refine ⟨bs ++ [n + 1], vs ++ [.th (n + 1)], _, _, rfl, L.at_out ob _, ?_, by rw [put_ne (Ne.symm nbv), ev2, List.map_append]; rfl, by rw [List.length_append]; exact Nat.succ_le_succ hbl, by rw [List.length_append]; exact Nat.succ_le_succ hvl, fun j hj => ?_, fun v hv' => ?_, fun j => ?_⟩
        · rw [put_same]
          unfold wayO
          rw [List.map_append]
          rfl
        · rcases List.mem_append.mp hj with hj | hj
          · exact hb j hj
          · rw [List.mem_singleton.mp hj]; omega
        · rcases List.mem_append.mp hv' with hv' | hv'
          · exact hv1 v hv'
          · rw [List.mem_singleton.mp hv']; exact (show 1 ≤ n + 1 ∧ n + 1 ≤ s.many by omega)
        · rw [List.mem_append, List.mem_append, hbv]
          simp
    · rintro δ S7 ⟨bs, vs, z7, z8, rfl, L, eb, ev, hbl, hvl, hb, hv1, hbv⟩
      rw [rngD_len] at hbl hvl
      have rch : ∀ {ways : Nat → List Nat} {hv : Nat → Option (List Vl)}, (∀ n, 1 ≤ n → n ≤ m → ∀ j, Vl.th j ∈ ledV s hv n ↔ j ∈ ways n) → (∀ n, 1 ≤ n → n ≤ m → ∀ j ∈ ways n, 1 ≤ j ∧ j ≤ m) → ∀ n, Rch (ledV s hv) vs n ↔ Rch (wG ways) (bs.map Vl.th) n := fun ed wb n =>
        ⟨fun h => (h.imp (fun j hj => ⟨mem_ths.mpr ((hbv j).mp hj), hb j ((hbv j).mp hj)⟩) (fun k h1 h2 j hj => ⟨mem_wG.mpr ((ed k h1 h2 j).mp hj), wb k h1 h2 j ((ed k h1 h2 j).mp hj)⟩)).1,
         fun h => (h.imp (m := m) (fun j hj => ⟨(hbv j).mpr (mem_ths.mp hj), hb j (mem_ths.mp hj)⟩) (fun k h1 h2 j hj => ⟨(ed k h1 h2 j).mpr (mem_wG.mp hj), wb k h1 h2 j (mem_wG.mp hj)⟩)).1⟩
      have rchm : ∀ {ways : Nat → List Nat} {hv : Nat → Option (List Vl)}, (∀ n, 1 ≤ n → n ≤ m → ∀ j, Vl.th j ∈ ledV s hv n ↔ j ∈ ways n) → (∀ n, 1 ≤ n → n ≤ m → ∀ j ∈ ways n, 1 ≤ j ∧ j ≤ m) → ∀ n, Rch (ledV s hv) vs n → 1 ≤ n ∧ n ≤ m := fun ed wb n h =>
        (h.imp (fun j hj => ⟨mem_ths.mpr ((hbv j).mp hj), hb j ((hbv j).mp hj)⟩) (fun k h1 h2 j hj => ⟨mem_wG.mpr ((ed k h1 h2 j).mp hj), wb k h1 h2 j ((ed k h1 h2 j).mp hj)⟩)).2
      have bnd : ∀ {hv : Nat → Option (List Vl)}, (∀ n us, hv n = some us → us.length ≤ 7) → vs.length + msum (fun n => (ledV s hv n).length + 1) s.many ≤ 90000 := fun {hv} hlv => by
        have h1 : msum (fun n => (ledV s hv n).length + 1) s.many ≤ msum (fun _ => 12) s.many := msum_le fun n => by
          unfold ledV
          rw [List.length_append, List.length_map]
          have := Q.plen n
          cases e : hv n with
          | none => show _ + 0 + 1 ≤ _; omega
          | some us => have := hlv n us e; show _ + us.length + 1 ≤ _; omega
        have e2 : ∀ a, msum (fun _ => 12) a = 12 * a := fun a => by
          induction a with
          | zero => rfl
          | succ a ih => unfold msum; rw [ih]; omega
        rw [e2] at h1
        omega
      walk_at "dl"
      refine ⟨wd, fun n => B (.wl n), m, ways, bs, .ref pb, rfl, eb, (by rw [← ew]; exact L.o.at_ (l := .wd) rfl), fun n h1 h2 => ⟨L.o.at_ (l := .wl n) (if_pos ⟨h1, h2⟩), Q.wb n h1 h2, by have := Q.wlen n h1 h2; have := Q.plen n; omega⟩, hb, by omega, hm20, fun ds1 S8 kp8 hs1 hd1 => ?_⟩
      have L := L.kpt kp8
      have eb := kp8.at eb
      have ev := kp8.at ev
      walk_at "dl"
      refine lcOf (fun n acc => acc = (List.range n).map fun i => .int (s.cnt (i + 1))) (by rw [lenT]; omega) rfl ?_ ?_
      · rintro pl hpl n d acc hi rfl
        have hnm : n < m := by rw [← lenT]; exact (List.getElem?_eq_some_iff.mp hi).1
        rw [gi hnm] at hi
        cases hi
        walk_at "dl"
        refine fldOf (hrep_t (Kpt.tr L.h (Kpt.refl.put hpl _)).rep (n := n + 1) (by omega) (by omega)) th_count ?_
        refine LcO.of hpl ?_
        rw [List.range_succ, List.map_append]
        rfl
      · rintro acc rfl
        rw [lenT]
        have ecn : ∃ cn : List Int, (List.range m).map (fun i => D.int (s.cnt (i + 1))) = cn.map D.int := ⟨(List.range m).map fun i => s.cnt (i + 1), by rw [List.map_map]; rfl⟩
        obtain ⟨cn, ecn⟩ := ecn
        rw [ecn]
        walk_at "dl"
        refine ⟨vs.map (vD H), ev, ?_⟩
        walk_at "dl"
        refine rngOf (by decide) (by decide) ?_
        have hv6 : ∀ n us, hv n = some us → us.length ≤ 6 := fun n us e => (Q.hvo n us e).2.2
        have flat : (vs.map (vD H)).all flatR = true := by
          rw [List.all_map, List.all_eq_true]
          intro v hv'
          have := hv1 v hv'
          cases v with
          | th n => rfl
          | no d =>
            have this : NoTh d := this
            cases this <;> rfl
        refine forOf (fun i δ S' => ∃ z7 z8 z12 z13 : Option D, δ = [some (.scr (ns.map D.int)), some (.ref w), some (.ref a), some (.ref wd), some (.list things), some (.ref pb), some (.ref pv), z7, z8, some (.list (ds1.map D.int)), some (.list (cn.map D.int)), some (.list (vs.map (vD H))), z12, z13, none, none] ∧ Lk CT CH CD H s B hx m ways hv w S' ∧ S' pb = some (wayO bs) ∧ S' pv = some (.lst (vs.map (vD H)))) ⟨_, _, _, _, rfl, L, eb, ev⟩ ?_ ?_
        · rintro i d δ S9 hi ⟨z7, z8, z12, z13, rfl, L, eb, ev⟩
          walk_at "dl"
          refine ⟨H, s, hv, vs, by rw [eh], L.h, L.W, fun n h1 h2 => L.ownH h1 h2, hv1, L.hvo, bnd fun n us e => by have := hv6 n us e; omega, fun ys p S10 kp hp hys hr => ?_⟩
          have op := L.out hp
          have npb : pb ≠ p := sto_ne eb hp
          have npv : pv ≠ p := sto_ne ev hp
          have L := L.kpt kp
          have eb := kp.at eb
          have ev := kp.at ev
          have eys : ys = ds1 := sorted_uniq hr.1 hs1 fun j => (hr.2 j).trans (Iff.trans ⟨fun ⟨n, h1, h2⟩ => ⟨n, h1, (rch Q.ed Q.wb n).mp h2⟩, fun ⟨n, h1, h2⟩ => ⟨n, h1, (rch Q.ed Q.wb n).mpr h2⟩⟩ (hd1 j).symm)
          have hyl : ys.length ≤ m := sorted_len hr.1 fun j hj => by
            obtain ⟨n, rfl, h2⟩ := (hr.2 j).mp hj
            have := rchm Q.ed Q.wb n h2
            omega
          walk_at "dl"
          refine cutOf (fun δ S' => S' = S10 ∧ δ = [some (.scr (ns.map D.int)), some (.ref w), some (.ref a), some (.ref wd), some (.list things), some (.ref pb), some (.ref pv), z7, z8, some (.list (ds1.map D.int)), some (.list (cn.map D.int)), some (.list (vs.map (vD H))), some d, some (.ref p), none, none]) ?_ ?_
          · walk_at "dl"
            refine ⟨"list", by simp only [tyD, hys], by decide, ?_⟩
            walk_at "dl"
            refine neASame (p' := .list (ys.map D.int)) (res_lst hys) (by rw [eys]; rfl) any_ints deep_ints ?_
            walk_at "dl"
            refine ⟨vs.map (vD H), rfl, ev, nofun, nofun, flat, ?_⟩
            walk_at "dl"
          · rintro δ S11 ⟨rfl, rfl⟩
            walk_at "dl"
            refine needOf (isLOf hys) ?_
            walk_at "dl"
            refine appOf hys (by rw [List.length_map]; omega) ?_
            walk_at "dl"
            exact ⟨_, _, _, _, rfl, L.at_out op _, (put_ne npb).trans eb, (put_ne npv).trans ev⟩
        · rintro δ S9 ⟨z7, z8, z12, z13, rfl, L, eb, ev⟩
          walk_at "dl"
          rw [lenT]
          refine rngOf (by omega) (by omega) ?_
          rw [Int.toNat_natCast]
          refine forOf (fun i δ S' => ∃ (ways' : Nat → List Nat) (hv' : Nat → Option (List Vl)) (z7 z14 : Option D), δ = [some (.scr (ns.map D.int)), some (.ref w), some (.ref a), some (.ref wd), some (.list things), some (.ref pb), some (.ref pv), z7, z8, some (.list (ds1.map D.int)), some (.list (cn.map D.int)), some (.list (vs.map (vD H))), z12, z13, z14, none] ∧ Lk CT CH CD H s B hx m ways' hv' w S' ∧ S' pb = some (wayO bs) ∧ S' pv = some (.lst (vs.map (vD H))) ∧ Out CT CH CD H s B hx m ways' hv' w pb ∧ Out CT CH CD H s B hx m ways' hv' w pv ∧
            (∀ n us, hv' n = some us → us.length ≤ if n ≤ i then 7 else 6) ∧ (∀ n, 1 ≤ n → n ≤ m → (ways' n).length ≤ if n ≤ i then 8 else 7) ∧ (∀ n, 1 ≤ n → n ≤ m → ∀ j, Vl.th j ∈ ledV s hv' n ↔ j ∈ ways' n) ∧ (∀ n, 1 ≤ n → n ≤ m → ∀ j ∈ ways' n, 1 ≤ j ∧ j ≤ m))
            ⟨ways, hv, _, _, rfl, L, eb, ev, ob, ov, fun n us e => by have := hv6 n us e; split <;> omega, fun n h1 h2 => by have := Q.wlen n h1 h2; have := Q.plen n; split <;> omega, Q.ed, Q.wb⟩ ?_ ?_
          · rintro i d δ S10 hi ⟨ways', hv', z7, z14, rfl, L, eb, ev, ob, ov, hlh, hlw, hed, hwb⟩
            obtain ⟨hd, hir⟩ := rngD_get hi
            rw [Int.zero_add] at hd
            subst hd
            have i1 : 1 ≤ i + 1 ∧ i + 1 ≤ m := by omega
            have i2 : 1 ≤ i + 1 ∧ i + 1 ≤ s.many := by omega
            have et := hrep_t L.h i2.1 i2.2
            have ho := L.ownH i2.1 i2.2
            have next : ∀ (z7 z14 : Option D) (S' : Sto), Lk CT CH CD H s B hx m ways' hv' w S' → S' pb = some (wayO bs) → S' pv = some (.lst (vs.map (vD H))) → ∃ (ways2 : Nat → List Nat) (hv2 : Nat → Option (List Vl)) (y7 y14 : Option D), [some (.scr (ns.map D.int)), some (.ref w), some (.ref a), some (.ref wd), some (.list things), some (.ref pb), some (.ref pv), z7, z8, some (.list (ds1.map D.int)), some (.list (cn.map D.int)), some (.list (vs.map (vD H))), z12, z13, z14, none] = [some (.scr (ns.map D.int)), some (.ref w), some (.ref a), some (.ref wd), some (.list things), some (.ref pb), some (.ref pv), y7, z8, some (.list (ds1.map D.int)), some (.list (cn.map D.int)), some (.list (vs.map (vD H))), z12, z13, y14, none] ∧ Lk CT CH CD H s B hx m ways2 hv2 w S' ∧ S' pb = some (wayO bs) ∧ S' pv = some (.lst (vs.map (vD H))) ∧ Out CT CH CD H s B hx m ways2 hv2 w pb ∧ Out CT CH CD H s B hx m ways2 hv2 w pv ∧
                (∀ n us, hv2 n = some us → us.length ≤ if n ≤ i + 1 then 7 else 6) ∧ (∀ n, 1 ≤ n → n ≤ m → (ways2 n).length ≤ if n ≤ i + 1 then 8 else 7) ∧ (∀ n, 1 ≤ n → n ≤ m → ∀ j, Vl.th j ∈ ledV s hv2 n ↔ j ∈ ways2 n) ∧ (∀ n, 1 ≤ n → n ≤ m → ∀ j ∈ ways2 n, 1 ≤ j ∧ j ≤ m) := fun y7 y14 S' L eb ev =>
              ⟨ways', hv', _, _, rfl, L, eb, ev, ob, ov, fun n us e => by have := hlh n us e; split at this <;> split <;> omega, fun n h1 h2 => by have := hlw n h1 h2; split at this <;> split <;> omega, hed, hwb⟩
            walk_at "dl"
            refine ixAt (.inl rfl) (gi (by omega)) ?_
            walk_at "dl"
            refine fldOf et th_own ?_
            cases ehv : hv' (i + 1) with
            | none =>
              rw [ehv] at ho
              have ho : NoTh (s.own (i + 1)) := ho
              have next := next (some (.int (i : Int))) z14 S10 L eb ev
              generalize s.own (i + 1) = o at ho
              cases ho with
              | non => walk_at "dl"; exact next
              | int i => walk_at "dl"; exact next
              | str z hz => walk_at "dl"; exact next
              | bl b => walk_at "dl"; exact next
            | some us =>
              rw [ehv] at ho
              obtain ⟨ah, dx', l, o1, o2, o3⟩ := ho
              have next := fun z14 S' => next (some (.int (i : Int))) z14 S'
              rw [o1]
              walk_at "dl"
              rw [x_own o2]
              walk_at "dl"
              refine ⟨w, 2, rfl, L.wl, by decide, by decide, fun r2 S11 hr2 hw11 f11 => ?_⟩
              have L2 := L.well hw11 f11
              have eb2 := (f11 pb ob.1).trans eb
              have ev2 := (f11 pv ov.1).trans ev
              walk_at "dl"
              refine br (fun _ => ?_) (fun _ => ?_)
              · walk_at "dl"
                rw [lenT]
                refine ⟨w, (m : Int), rfl, L2.wl, by omega, by omega, fun o S12 ho2 hw12 f12 => ?_⟩
                have L3 := L2.well hw12 f12
                have eb3 := (f12 pb ob.1).trans eb2
                have ev3 := (f12 pv ov.1).trans ev2
                have et3 := hrep_t L3.h i2.1 i2.2
                have o1 : s.own (i + 1) = .ref (B (.hi (i + 1))) := by have := L3.own (i + 1) i2.1 i2.2; rw [ehv] at this; exact this
                have o2 : S12 (B (.hi (i + 1))) = some (.ins CD (hx (i + 1)) (heFs (.ref (B (.hl (i + 1)))))) := L3.o.at_ (by show (hv' (i + 1)).map _ = _; rw [ehv]; rfl)
                have o3 : S12 (B (.hl (i + 1))) = some (.lst (us.map (vD H))) := L3.o.at_ (by show (hv' (i + 1)).map _ = _; rw [ehv]; rfl)
                rw [o1] at et3
                walk_at "dl"
                refine ixAt (.inl rfl) (gi (by omega)) ?_
                walk_at "dl"
                refine fldOf et3 th_own ?_
                walk_at "dl"
                refine fldOf o2 he_has ?_
                walk_at "dl"
                refine needOf (isLOf o3) ?_
                walk_at "dl"
                refine ixAt (j := o) (.inl rfl) (gi (by omega)) ?_
                walk_at "dl"
                have hul := hlh (i + 1) us ehv
                rw [if_neg (by omega)] at hul
                refine appOf o3 (by rw [List.length_map]; omega) ?_
                have hvo : VOk s.many (.th (o + 1)) := (show 1 ≤ o + 1 ∧ o + 1 ≤ s.many by omega)
                have L4 := L3.held1 ehv hvo
                rw [List.map_append] at L4
                have ob4 := Out.held1 (us := us ++ [Vl.th (o + 1)]) ehv ob
                have ov4 := Out.held1 (us := us ++ [Vl.th (o + 1)]) ehv ov
                have lhl : oC CD H B hx m ways' hv' (.hl (i + 1)) ≠ none := by show (hv' (i + 1)).map _ ≠ none; rw [ehv]; exact nofun
                have eb4 := (put_ne (S := S12) (o := .lst (us.map (vD H) ++ [Vl.th (o + 1)].map (vD H))) (ob.2.2 _ lhl)).trans eb3
                have ev4 := (put_ne (S := S12) (o := .lst (us.map (vD H) ++ [Vl.th (o + 1)].map (vD H))) (ov.2.2 _ lhl)).trans ev3
                have est : put S12 (B (.hl (i + 1))) (.lst (us.map (vD H) ++ [.ref (H.a (.t (o + 1)))])) = put S12 (B (.hl (i + 1))) (.lst (us.map (vD H) ++ [Vl.th (o + 1)].map (vD H))) := rfl
                rw [est]
                generalize put S12 (B (.hl (i + 1))) (.lst (us.map (vD H) ++ [Vl.th (o + 1)].map (vD H))) = S13 at L4 eb4 ev4
                have ewd : S13 wd = some (.dct (wayD (fun n => B (.wl n)) m)) := by rw [← ew]; exact L4.o.at_ (l := .wd) rfl
                have ewl : S13 (B (.wl (i + 1))) = some (wayO (ways' (i + 1))) := L4.o.at_ (l := .wl (i + 1)) (if_pos i1)
                walk_at "dl"
                refine dgetOf ewd rfl (wayD_get i1.1 i1.2) ?_
                walk_at "dl"
                refine needOf (isLOf ewl) ?_
                walk_at "dl"
                have hwl := hlw (i + 1) i1.1 i1.2
                rw [if_neg (by omega)] at hwl
                refine appOf ewl (by rw [List.length_map]; omega) ?_
                have L5 := L4.way1 i1.1 i1.2 (ways' (i + 1) ++ [o + 1])
                have ob5 := Out.way1 (l := ways' (i + 1) ++ [o + 1]) i1.1 i1.2 ob4
                have ov5 := Out.way1 (l := ways' (i + 1) ++ [o + 1]) i1.1 i1.2 ov4
                have lwl : oC CD H B hx m ways' (fset hv' (i + 1) (some (us ++ [.th (o + 1)]))) (.wl (i + 1)) ≠ none := by show (if 1 ≤ i + 1 ∧ i + 1 ≤ m then _ else _) ≠ none; rw [if_pos i1]; exact nofun
                have ewo : wayO (ways' (i + 1) ++ [o + 1]) = .lst ((ways' (i + 1)).map (fun j : Nat => D.int (j : Int)) ++ [.int (o + 1 : Nat)]) := by unfold wayO; rw [List.map_append]; rfl
                rw [ewo] at L5
                have eb5 := (put_ne (S := S13) (o := .lst ((ways' (i + 1)).map (fun j : Nat => D.int (j : Int)) ++ [.int (o + 1 : Nat)])) (ob4.2.2 _ lwl)).trans eb4
                have ev5 := (put_ne (S := S13) (o := .lst ((ways' (i + 1)).map (fun j : Nat => D.int (j : Int)) ++ [.int (o + 1 : Nat)])) (ov4.2.2 _ lwl)).trans ev4
                rw [show (o : Int) + 1 = ((o + 1 : Nat) : Int) by omega]
                generalize put S13 (B (.wl (i + 1))) (.lst ((ways' (i + 1)).map (fun j : Nat => D.int (j : Int)) ++ [.int (o + 1 : Nat)])) = S14 at L5 eb5 ev5
                have et5 := hrep_t L5.h i2.1 i2.2
                rw [o1] at et5
                have ehv5 : fset hv' (i + 1) (some (us ++ [.th (o + 1)])) (i + 1) = some (us ++ [.th (o + 1)]) := fset_same
                have o25 : S14 (B (.hi (i + 1))) = some (.ins CD (hx (i + 1)) (heFs (.ref (B (.hl (i + 1)))))) := L5.o.at_ (by show (fset hv' (i + 1) _ (i + 1)).map _ = _; rw [ehv5]; rfl)
                have o35 : S14 (B (.hl (i + 1))) = some (.lst ((us ++ [Vl.th (o + 1)]).map (vD H))) := L5.o.at_ (by show (fset hv' (i + 1) _ (i + 1)).map _ = _; rw [ehv5]; rfl)
                walk_at "dl"
                refine ixAt (.inl rfl) (gi (by omega)) ?_
                walk_at "dl"
                refine fldOf et5 th_own ?_
                walk_at "dl"
                refine needOf (methOf (x := .non) o25 rfl) ?_
                walk_at "dl"
                refine ⟨B (.hi (i + 1)), hx (i + 1), B (.hl (i + 1)), _, rfl, o25, o35, fun p hp => ?_⟩
                walk_at "dl"
                refine needOf (isLOf put_same) ?_
                walk_at "dl"
                refine clrOf put_same ?_
                rw [put_put]
                have op := L5.out hp
                walk_at "dl"
                have edg : ∀ n, ledV s (fset hv' (i + 1) (some (us ++ [.th (o + 1)]))) n = if n = i + 1 then ledV s hv' n ++ [.th (o + 1)] else ledV s hv' n := fun n => by
                  unfold ledV
                  by_cases z : n = i + 1
                  · subst z
                    rw [if_pos rfl, ehv5, ehv, Option.getD_some, Option.getD_some, List.append_assoc]
                  · rw [if_neg z, fset_ne z]
                refine ⟨_, _, _, _, rfl, L5.at_out op _, (put_ne (sto_ne eb5 hp)).trans eb5, (put_ne (sto_ne ev5 hp)).trans ev5, ob5, ov5, fun n us' e => ?_, fun n h1 h2 => ?_, fun n h1 h2 j => ?_, fun n h1 h2 j hj => ?_⟩
                · by_cases z : n = i + 1
                  · subst z
                    rw [ehv5] at e
                    cases e
                    rw [if_pos (Nat.le_refl _), List.length_append, List.length_singleton]
                    omega
                  · rw [fset_ne z] at e
                    have := hlh n us' e
                    split at this <;> split <;> omega
                · by_cases z : n = i + 1
                  · subst z
                    rw [fset_same, if_pos (Nat.le_refl _), List.length_append, List.length_singleton]
                    omega
                  · rw [fset_ne z]
                    have := hlw n h1 h2
                    split at this <;> split <;> omega
                · rw [edg]
                  by_cases z : n = i + 1
                  · subst z
                    rw [if_pos rfl, fset_same, List.mem_append, List.mem_append, hed _ h1 h2]
                    simp
                  · rw [if_neg z, fset_ne z]
                    exact hed n h1 h2 j
                · by_cases z : n = i + 1
                  · subst z
                    rw [fset_same] at hj
                    rcases List.mem_append.mp hj with hj | hj
                    · exact hwb _ h1 h2 j hj
                    · rw [List.mem_singleton.mp hj]; omega
                  · rw [fset_ne z] at hj
                    exact hwb n h1 h2 j hj
              · walk_at "dl"
                exact next _ S11 L2 eb2 ev2
          · rintro δ S10 ⟨ways', hv', z7, z14, rfl, L, eb, ev, ob, ov, hlh, hlw, hed, hwb⟩
            walk_at "dl"
            refine cutOf (fun δ S' => δ = [some (.scr (ns.map D.int)), some (.ref w), some (.ref a), some (.ref wd), some (.list things), some (.ref pb), some (.ref pv), z7, z8, some (.list (ds1.map D.int)), some (.list (cn.map D.int)), some (.list (vs.map (vD H))), z12, z13, z14, none] ∧ Lk CT CH CD H s B hx m ways' hv' w S') ?_ ?_
            · walk_at "dl"
              refine ⟨H, s, hv', vs, by rw [eh], L.h, L.W, fun n h1 h2 => L.ownH h1 h2, hv1, L.hvo, bnd fun n us e => by have := hlh n us e; split at this <;> omega, fun ys p S11 kp hp hys hr => ?_⟩
              have op := L.out hp
              have L := L.kpt kp
              have eb := kp.at eb
              walk_at "dl"
              refine ⟨wd, fun n => B (.wl n), m, ways', bs, .ref pb, rfl, eb, (by rw [← ew]; exact L.o.at_ (l := .wd) rfl), fun n h1 h2 => ⟨L.o.at_ (l := .wl n) (if_pos ⟨h1, h2⟩), hwb n h1 h2, by have := hlw n h1 h2; split at this <;> omega⟩, hb, by omega, hm20, fun ds2 S12 kp12 hs2 hd2 => ?_⟩
              have hys := kp12.at hys
              have L := L.kpt kp12
              have eys : ys = ds2 := sorted_uniq hr.1 hs2 fun j => (hr.2 j).trans (Iff.trans ⟨fun ⟨n, h1, h2⟩ => ⟨n, h1, (rch hed hwb n).mp h2⟩, fun ⟨n, h1, h2⟩ => ⟨n, h1, (rch hed hwb n).mpr h2⟩⟩ (hd2 j).symm)
              walk_at "dl"
              refine neASame (p' := .list (ys.map D.int)) (res_lst hys) (by rw [eys]; rfl) any_ints deep_ints ?_
              walk_at "dl"
              exact L
            · rintro δ S11 ⟨rfl, L⟩
              walk_at "dl"
              refine cutOf (fun δ S' => δ = [some (.scr (ns.map D.int)), some (.ref w), some (.ref a), some (.ref wd), some (.list things), some (.ref pb), some (.ref pv), z7, z8, some (.list (ds1.map D.int)), some (.list (cn.map D.int)), some (.list (vs.map (vD H))), z12, z13, z14, none] ∧ Lk CT CH CD H s B hx m ways' hv' w S') ?_ ?_
              · walk_at "dl"
                refine needOf (methOf (x := .non) (by rw [← eh]; exact hrep_hall L.h) rfl) ?_
                walk_at "dl"
                refine ⟨H, s, by rw [eh], L.h, ?_⟩
                rw [Q.left]
                walk_at "dl"
                refine neASame (p' := .list []) rfl rfl rfl (by decide) ?_
                walk_at "dl"
                refine lcOf (fun n acc => acc = (List.range n).map fun i => .int (s.cnt (i + 1))) (by rw [lenT]; omega) rfl ?_ ?_
                · rintro pl hpl n d acc hi rfl
                  have hnm : n < m := by rw [← lenT]; exact (List.getElem?_eq_some_iff.mp hi).1
                  rw [gi hnm] at hi
                  cases hi
                  walk_at "dl"
                  refine fldOf (hrep_t (Kpt.tr L.h (Kpt.refl.put hpl _)).rep (n := n + 1) (by omega) (by omega)) th_count ?_
                  refine LcO.of hpl ?_
                  rw [List.range_succ, List.map_append]
                  rfl
                · rintro acc rfl
                  rw [lenT, ecn]
                  walk_at "dl"
                  refine neASame (p' := .list (cn.map D.int)) rfl rfl any_ints deep_ints ?_
                  walk_at "dl"
                  exact L
              · rintro δ S12 ⟨rfl, L⟩
                walk_at "dl"
                refine needOf (methOf (x := .non) (by rw [← eh]; exact hrep_hall L.h) rfl) ?_
                walk_at "dl"
                refine ⟨H, s, by rw [eh], L.h, L.W, fun ys hp hs => ?_⟩
                rw [Q.there] at hp
                walk_at "dl"
                rw [lenT]
                refine lrgOf (by unfold RgOk; omega) ?_
                walk_at "dl"
                rw [show ((m : Int) + 1 - 1).toNat = m by omega]
                have e : ys = (List.range m).map fun k : Nat => 1 + (k : Int) := by
                  have hnd : ys.Nodup := hp.nodup_iff.mpr (by
                    rw [List.map_map]
                    exact List.pairwise_map.mpr (List.pairwise_lt_range.imp fun h e => by have e : ((_ + 1 : Nat) : Int) = ((_ + 1 : Nat) : Int) := e; omega))
                  refine sorted_uniq ((hs.and hnd).imp fun ⟨a, b⟩ => by omega) (rg_sorted 1 m) fun j => ?_
                  rw [hp.mem_iff, List.map_map]
                  refine List.mem_map.trans (Iff.trans ?_ List.mem_map.symm)
                  exact ⟨fun ⟨k, h1, h2⟩ => ⟨k, h1, by have h2 : ((k + 1 : Nat) : Int) = j := h2; omega⟩, fun ⟨k, h1, h2⟩ => ⟨k, h1, (show ((k + 1 : Nat) : Int) = j by omega)⟩⟩
                refine eqASame (p' := .list (ys.map D.int)) rfl (by rw [e, rngD_ints']; rfl) any_ints deep_ints ?_
                exact h _
def spLaw (K : PySem.W.Frag) : Sp := fun vs H Q _ => ∃ (a : Addr) (ns : List Int), vs = [.ref a] ∧ SqL K H a (ns.map V.int) ∧ ns.length ≤ 63 ∧ ∀ H', Q (.bl true) H'
theorem law_of {f : Addr} {fd : FuncData} {k : Nat} {ps : List Str} (F : FnOk P w K mg base CX0 k f fd ps (lSp K dLaw28)) : FnOk P w K mg base CX0 k f fd ps (spLaw K) := F.imp fun vs H Q E ⟨a, ns, hv, hs, hl, h⟩ =>
  ⟨H, [.scr (ns.map D.int)], fun _ => none, fun x _ => x = .bl true, fun _ _ _ => False, by rw [hv]; exact .one (.scr hs (rdl_ints ns)), ⟨Ex.refl H, fun _ _ z => nomatch z⟩, ⟨ns, rfl, hl, fun _ => rfl⟩, fun x S' v B' H' hx _ _ rv => by
    subst hx
    cases rd_bl rv
    exact h H', fun _ _ _ _ _ z => z.elim⟩
end
end K

set_option Elab.async false
set_option linter.all false
set_option maxRecDepth 100000
namespace K
open PySem L2 Evl EX
section
set_option maxHeartbeats 0 in
theorem all_mk {l : PySem.W.OpenLaw} {w : World} {K : PySem.W.Frag} {h : Heap} {mg : Str → Option Value} {fa : Addr} (X : K.In h) (G : h.Ns mainGlobals mg) (hfa : mg "law" = some (.ref fa))
    {f1 : Addr} {od1 an1 : Option Addr} {sl1 : Array (Option Value)} {oc1 kV1 dc1 pm1 cd1 ct1 : Value}
    {f2 : Addr} {od2 an2 : Option Addr} {sl2 : Array (Option Value)} {oc2 kV2 dc2 pm2 cd2 ct2 : Value}
    {f3 : Addr} {od3 an3 : Option Addr} {sl3 : Array (Option Value)} {oc3 kV3 dc3 pm3 cd3 ct3 : Value}
    {f4 : Addr} {od4 an4 : Option Addr} {sl4 : Array (Option Value)} {oc4 kV4 dc4 pm4 cd4 ct4 : Value}
    {f5 : Addr} {od5 an5 : Option Addr} {sl5 : Array (Option Value)} {oc5 kV5 dc5 pm5 cd5 ct5 : Value}
    {f6 : Addr} {od6 an6 : Option Addr} {sl6 : Array (Option Value)} {oc6 kV6 dc6 pm6 cd6 ct6 : Value}
    {f7 : Addr} {od7 an7 : Option Addr} {sl7 : Array (Option Value)} {oc7 kV7 dc7 pm7 cd7 ct7 : Value}
    {f8 : Addr} {od8 an8 : Option Addr} {sl8 : Array (Option Value)} {oc8 kV8 dc8 pm8 cd8 ct8 : Value}
    {f9 : Addr} {od9 an9 : Option Addr} {sl9 : Array (Option Value)} {oc9 kV9 dc9 pm9 cd9 ct9 : Value}
    {f10 : Addr} {od10 an10 : Option Addr} {sl10 : Array (Option Value)} {oc10 kV10 dc10 pm10 cd10 ct10 : Value}
    {f11 : Addr} {od11 an11 : Option Addr} {sl11 : Array (Option Value)} {oc11 kV11 dc11 pm11 cd11 ct11 : Value}
    {f12 : Addr} {od12 an12 : Option Addr} {sl12 : Array (Option Value)} {oc12 kV12 dc12 pm12 cd12 ct12 : Value}
    {f13 : Addr} {od13 an13 : Option Addr} {sl13 : Array (Option Value)} {oc13 kV13 dc13 pm13 cd13 ct13 : Value}
    {f14 : Addr} {od14 an14 : Option Addr} {sl14 : Array (Option Value)} {oc14 kV14 dc14 pm14 cd14 ct14 : Value}
    {f15 : Addr} {od15 an15 : Option Addr} {sl15 : Array (Option Value)} {oc15 kV15 dc15 pm15 cd15 ct15 : Value}
    {f16 : Addr} {od16 an16 : Option Addr} {sl16 : Array (Option Value)} {oc16 kV16 dc16 pm16 cd16 ct16 : Value}
    {f17 : Addr} {od17 an17 : Option Addr} {sl17 : Array (Option Value)} {oc17 kV17 dc17 pm17 cd17 ct17 : Value}
    {f18 : Addr} {od18 an18 : Option Addr} {sl18 : Array (Option Value)} {oc18 kV18 dc18 pm18 cd18 ct18 : Value}
    {f19 : Addr} {od19 an19 : Option Addr} {sl19 : Array (Option Value)} {oc19 kV19 dc19 pm19 cd19 ct19 : Value}
    {f20 : Addr} {od20 an20 : Option Addr} {sl20 : Array (Option Value)} {oc20 kV20 dc20 pm20 cd20 ct20 : Value}
    {f21 : Addr} {od21 an21 : Option Addr} {sl21 : Array (Option Value)} {oc21 kV21 dc21 pm21 cd21 ct21 : Value}
    {f22 : Addr} {od22 an22 : Option Addr} {sl22 : Array (Option Value)} {oc22 kV22 dc22 pm22 cd22 ct22 : Value}
    {f23 : Addr} {od23 an23 : Option Addr} {sl23 : Array (Option Value)} {oc23 kV23 dc23 pm23 cd23 ct23 : Value}
    {f24 : Addr} {od24 an24 : Option Addr} {sl24 : Array (Option Value)} {oc24 kV24 dc24 pm24 cd24 ct24 : Value}
    {f25 : Addr} {od25 an25 : Option Addr} {sl25 : Array (Option Value)} {oc25 kV25 dc25 pm25 cd25 ct25 : Value}  {C_Thing C_Hall C_Held : Addr}
    (aC_Thing : PySem.W.nsIn K mainGlobals "Thing" = some (some (.ref C_Thing)))
    (pg_Thing : PySem.W.plainGet K C_Thing Str.empty = true)
    (hd_Thing : PySem.W.hasDictIn K C_Thing = true)
    (po_Thing : PySem.W.plainOver K C_Thing = true)
    (sa_Thing : PySem.W.findIn K (.ref C_Thing) "__setattr__" = some (some (.builtin "object.__setattr__")))
    (mk_Thing : PySem.W.makesIn K C_Thing = true)
    (kc_Thing : PySem.W.keepIn K (.ref C_Thing) = true)
    (nf_Thing_form : PySem.W.findIn K (.ref C_Thing) "form" = some none)
    (nf_Thing_number : PySem.W.findIn K (.ref C_Thing) "number" = some none)
    (nf_Thing_count : PySem.W.findIn K (.ref C_Thing) "count" = some none)
    (nf_Thing_parts : PySem.W.findIn K (.ref C_Thing) "parts" = some none)
    (nf_Thing_own : PySem.W.findIn K (.ref C_Thing) "own" = some none)
    (nf_Thing_ended : PySem.W.findIn K (.ref C_Thing) "ended" = some none)
    (nf_Thing_waits : PySem.W.findIn K (.ref C_Thing) "waits" = some none)
    (iA_Thing : PySem.W.findIn K (.ref C_Thing) "__class__" = some (some (.builtin "object.__class__")))
    (iB_Thing : PySem.W.specialIn K (.builtin "object.__class__") "__get__" = some (some (.builtin "getset_descriptor.__get__")))
    (iC_Thing : PySem.W.takesIn K (.builtin "object.__class__") = some true)
    (iD_Thing : PySem.W.mroIn K C_Thing (.type "object") = some true)
    (it0_Thing : PySem.W.kitOne K (.ref C_Thing) (.type "bool") = some false)
    (it1_Thing : PySem.W.kitOne K (.ref C_Thing) (.type "int") = some false)
    (it2_Thing : PySem.W.kitOne K (.ref C_Thing) (.type "str") = some false)
    (if0_Thing : PySem.W.kitOne K (.type "NoneType") (.ref C_Thing) = some false)
    (if1_Thing : PySem.W.kitOne K (.type "bool") (.ref C_Thing) = some false)
    (if2_Thing : PySem.W.kitOne K (.type "int") (.ref C_Thing) = some false)
    (if3_Thing : PySem.W.kitOne K (.type "str") (.ref C_Thing) = some false)
    (aC_Hall : PySem.W.nsIn K mainGlobals "Hall" = some (some (.ref C_Hall)))
    (pg_Hall : PySem.W.plainGet K C_Hall Str.empty = true)
    (hd_Hall : PySem.W.hasDictIn K C_Hall = true)
    (po_Hall : PySem.W.plainOver K C_Hall = true)
    (sa_Hall : PySem.W.findIn K (.ref C_Hall) "__setattr__" = some (some (.builtin "object.__setattr__")))
    (mk_Hall : PySem.W.makesIn K C_Hall = true)
    (kc_Hall : PySem.W.keepIn K (.ref C_Hall) = true)
    (nf_Hall_ender : PySem.W.findIn K (.ref C_Hall) "ender" = some none)
    (nf_Hall_many : PySem.W.findIn K (.ref C_Hall) "many" = some none)
    (nf_Hall_there : PySem.W.findIn K (.ref C_Hall) "there" = some none)
    (nf_Hall_left : PySem.W.findIn K (.ref C_Hall) "left" = some none)
    (nf_Hall_row : PySem.W.findIn K (.ref C_Hall) "row" = some none)
    (nf_Hall_lasts : PySem.W.findIn K (.ref C_Hall) "lasts" = some none)
    (aC_Held : PySem.W.nsIn K mainGlobals "Held" = some (some (.ref C_Held)))
    (pg_Held : PySem.W.plainGet K C_Held Str.empty = true)
    (hd_Held : PySem.W.hasDictIn K C_Held = true)
    (po_Held : PySem.W.plainOver K C_Held = true)
    (sa_Held : PySem.W.findIn K (.ref C_Held) "__setattr__" = some (some (.builtin "object.__setattr__")))
    (mk_Held : PySem.W.makesIn K C_Held = true)
    (kc_Held : PySem.W.keepIn K (.ref C_Held) = true)
    (nf_Held_has : PySem.W.findIn K (.ref C_Held) "has" = some none)
    (iA_Held : PySem.W.findIn K (.ref C_Held) "__class__" = some (some (.builtin "object.__class__")))
    (iB_Held : PySem.W.specialIn K (.builtin "object.__class__") "__get__" = some (some (.builtin "getset_descriptor.__get__")))
    (iC_Held : PySem.W.takesIn K (.builtin "object.__class__") = some true)
    (iD_Held : PySem.W.mroIn K C_Held (.type "object") = some true)
    (it0_Held : PySem.W.kitOne K (.ref C_Held) (.type "bool") = some false)
    (it1_Held : PySem.W.kitOne K (.ref C_Held) (.type "int") = some false)
    (it2_Held : PySem.W.kitOne K (.ref C_Held) (.type "str") = some false)
    (if0_Held : PySem.W.kitOne K (.type "NoneType") (.ref C_Held) = some false)
    (if1_Held : PySem.W.kitOne K (.type "bool") (.ref C_Held) = some false)
    (if2_Held : PySem.W.kitOne K (.type "int") (.ref C_Held) = some false)
    (if3_Held : PySem.W.kitOne K (.type "str") (.ref C_Held) = some false)
    (a1 : PySem.W.findIn K (.ref C_Thing) "__init__" = some (some (.ref f1))) (i1 : PySem.W.isFn K (.ref f1) = true) (l1 : K.lookup f1 = some ⟨oc1, od1, .func (PySem.W.fnOf "__init__" "Thing.__init__" (defArgs s_Thing___init__) (defBody s_Thing___init__) (defScope s_Thing___init__) .none kV1 dc1 pm1 an1 cd1 ct1), sl1⟩) (c1 : PySem.W.codeIn K cd1 "Thing.__init__" = true) (k1 : PySem.W.keepIn K (.ref f1) = true)
    (a2 : PySem.W.findIn K (.ref C_Held) "__init__" = some (some (.ref f2))) (i2 : PySem.W.isFn K (.ref f2) = true) (l2 : K.lookup f2 = some ⟨oc2, od2, .func (PySem.W.fnOf "__init__" "Held.__init__" (defArgs s_Held___init__) (defBody s_Held___init__) (defScope s_Held___init__) .none kV2 dc2 pm2 an2 cd2 ct2), sl2⟩) (c2 : PySem.W.codeIn K cd2 "Held.__init__" = true) (k2 : PySem.W.keepIn K (.ref f2) = true)
    (a3 : PySem.W.findIn K (.ref C_Held) "held" = some (some (.ref f3))) (i3 : PySem.W.isFn K (.ref f3) = true) (l3 : K.lookup f3 = some ⟨oc3, od3, .func (PySem.W.fnOf "held" "Held.held" (defArgs s_Held_held) (defBody s_Held_held) (defScope s_Held_held) .none kV3 dc3 pm3 an3 cd3 ct3), sl3⟩) (c3 : PySem.W.codeIn K cd3 "Held.held" = true) (k3 : PySem.W.keepIn K (.ref f3) = true)
    (a4 : PySem.W.findIn K (.ref C_Hall) "__init__" = some (some (.ref f4))) (i4 : PySem.W.isFn K (.ref f4) = true) (l4 : K.lookup f4 = some ⟨oc4, od4, .func (PySem.W.fnOf "__init__" "Hall.__init__" (defArgs s_Hall___init__) (defBody s_Hall___init__) (defScope s_Hall___init__) .none kV4 dc4 pm4 an4 cd4 ct4), sl4⟩) (c4 : PySem.W.codeIn K cd4 "Hall.__init__" = true) (k4 : PySem.W.keepIn K (.ref f4) = true)
    (a5 : PySem.W.findIn K (.ref C_Hall) "make" = some (some (.ref f5))) (i5 : PySem.W.isFn K (.ref f5) = true) (l5 : K.lookup f5 = some ⟨oc5, od5, .func (PySem.W.fnOf "make" "Hall.make" (defArgs s_Hall_make) (defBody s_Hall_make) (defScope s_Hall_make) .none kV5 dc5 pm5 an5 cd5 ct5), sl5⟩) (c5 : PySem.W.codeIn K cd5 "Hall.make" = true) (k5 : PySem.W.keepIn K (.ref f5) = true)
    (a6 : PySem.W.findIn K (.ref C_Hall) "hold" = some (some (.ref f6))) (i6 : PySem.W.isFn K (.ref f6) = true) (l6 : K.lookup f6 = some ⟨oc6, od6, .func (PySem.W.fnOf "hold" "Hall.hold" (defArgs s_Hall_hold) (defBody s_Hall_hold) (defScope s_Hall_hold) .none kV6 dc6 pm6 an6 cd6 ct6), sl6⟩) (c6 : PySem.W.codeIn K cd6 "Hall.hold" = true) (k6 : PySem.W.keepIn K (.ref f6) = true)
    (a7 : PySem.W.findIn K (.ref C_Hall) "let_go" = some (some (.ref f7))) (i7 : PySem.W.isFn K (.ref f7) = true) (l7 : K.lookup f7 = some ⟨oc7, od7, .func (PySem.W.fnOf "let_go" "Hall.let_go" (defArgs s_Hall_let_go) (defBody s_Hall_let_go) (defScope s_Hall_let_go) .none kV7 dc7 pm7 an7 cd7 ct7), sl7⟩) (c7 : PySem.W.codeIn K cd7 "Hall.let_go" = true) (k7 : PySem.W.keepIn K (.ref f7) = true)
    (a8 : PySem.W.findIn K (.ref C_Hall) "loose" = some (some (.ref f8))) (i8 : PySem.W.isFn K (.ref f8) = true) (l8 : K.lookup f8 = some ⟨oc8, od8, .func (PySem.W.fnOf "loose" "Hall.loose" (defArgs s_Hall_loose) (defBody s_Hall_loose) (defScope s_Hall_loose) .none kV8 dc8 pm8 an8 cd8 ct8), sl8⟩) (c8 : PySem.W.codeIn K cd8 "Hall.loose" = true) (k8 : PySem.W.keepIn K (.ref f8) = true)
    (a9 : PySem.W.findIn K (.ref C_Hall) "empty" = some (some (.ref f9))) (i9 : PySem.W.isFn K (.ref f9) = true) (l9 : K.lookup f9 = some ⟨oc9, od9, .func (PySem.W.fnOf "empty" "Hall.empty" (defArgs s_Hall_empty) (defBody s_Hall_empty) (defScope s_Hall_empty) .none kV9 dc9 pm9 an9 cd9 ct9), sl9⟩) (c9 : PySem.W.codeIn K cd9 "Hall.empty" = true) (k9 : PySem.W.keepIn K (.ref f9) = true)
    (a10 : PySem.W.findIn K (.ref C_Hall) "be_gone" = some (some (.ref f10))) (i10 : PySem.W.isFn K (.ref f10) = true) (l10 : K.lookup f10 = some ⟨oc10, od10, .func (PySem.W.fnOf "be_gone" "Hall.be_gone" (defArgs s_Hall_be_gone) (defBody s_Hall_be_gone) (defScope s_Hall_be_gone) .none kV10 dc10 pm10 an10 cd10 ct10), sl10⟩) (c10 : PySem.W.codeIn K cd10 "Hall.be_gone" = true) (k10 : PySem.W.keepIn K (.ref f10) = true)
    (a11 : PySem.W.findIn K (.ref C_Hall) "ask_last" = some (some (.ref f11))) (i11 : PySem.W.isFn K (.ref f11) = true) (l11 : K.lookup f11 = some ⟨oc11, od11, .func (PySem.W.fnOf "ask_last" "Hall.ask_last" (defArgs s_Hall_ask_last) (defBody s_Hall_ask_last) (defScope s_Hall_ask_last) .none kV11 dc11 pm11 an11 cd11 ct11), sl11⟩) (c11 : PySem.W.codeIn K cd11 "Hall.ask_last" = true) (k11 : PySem.W.keepIn K (.ref f11) = true)
    (a12 : PySem.W.findIn K (.ref C_Hall) "turn" = some (some (.ref f12))) (i12 : PySem.W.isFn K (.ref f12) = true) (l12 : K.lookup f12 = some ⟨oc12, od12, .func (PySem.W.fnOf "turn" "Hall.turn" (defArgs s_Hall_turn) (defBody s_Hall_turn) (defScope s_Hall_turn) .none kV12 dc12 pm12 an12 cd12 ct12), sl12⟩) (c12 : PySem.W.codeIn K cd12 "Hall.turn" = true) (k12 : PySem.W.keepIn K (.ref f12) = true)
    (a13 : PySem.W.findIn K (.ref C_Hall) "work" = some (some (.ref f13))) (i13 : PySem.W.isFn K (.ref f13) = true) (l13 : K.lookup f13 = some ⟨oc13, od13, .func (PySem.W.fnOf "work" "Hall.work" (defArgs s_Hall_work) (defBody s_Hall_work) (defScope s_Hall_work) .none kV13 dc13 pm13 an13 cd13 ct13), sl13⟩) (c13 : PySem.W.codeIn K cd13 "Hall.work" = true) (k13 : PySem.W.keepIn K (.ref f13) = true)
    (a14 : PySem.W.findIn K (.ref C_Hall) "put" = some (some (.ref f14))) (i14 : PySem.W.isFn K (.ref f14) = true) (l14 : K.lookup f14 = some ⟨oc14, od14, .func (PySem.W.fnOf "put" "Hall.put" (defArgs s_Hall_put) (defBody s_Hall_put) (defScope s_Hall_put) .none kV14 dc14 pm14 an14 cd14 ct14), sl14⟩) (c14 : PySem.W.codeIn K cd14 "Hall.put" = true) (k14 : PySem.W.keepIn K (.ref f14) = true)
    (a15 : PySem.W.findIn K (.ref C_Hall) "things" = some (some (.ref f15))) (i15 : PySem.W.isFn K (.ref f15) = true) (l15 : K.lookup f15 = some ⟨oc15, od15, .func (PySem.W.fnOf "things" "Hall.things" (defArgs s_Hall_things) (defBody s_Hall_things) (defScope s_Hall_things) .none kV15 dc15 pm15 an15 cd15 ct15), sl15⟩) (c15 : PySem.W.codeIn K cd15 "Hall.things" = true) (k15 : PySem.W.keepIn K (.ref f15) = true)
    (a16 : PySem.W.findIn K (.ref C_Hall) "gone" = some (some (.ref f16))) (i16 : PySem.W.isFn K (.ref f16) = true) (l16 : K.lookup f16 = some ⟨oc16, od16, .func (PySem.W.fnOf "gone" "Hall.gone" (defArgs s_Hall_gone) (defBody s_Hall_gone) (defScope s_Hall_gone) .none kV16 dc16 pm16 an16 cd16 ct16), sl16⟩) (c16 : PySem.W.codeIn K cd16 "Hall.gone" = true) (k16 : PySem.W.keepIn K (.ref f16) = true)
    (a17 : PySem.W.nsIn K mainGlobals "led_to" = some (some (.ref f17))) (l17 : K.lookup f17 = some ⟨oc17, od17, .func (PySem.W.fnOf "led_to" "led_to" (defArgs s_led_to) (defBody s_led_to) (defScope s_led_to) .none kV17 dc17 pm17 an17 cd17 ct17), sl17⟩) (c17 : PySem.W.codeIn K cd17 "led_to" = true) (k17 : PySem.W.keepIn K (.ref f17) = true)
    (a18 : PySem.W.nsIn K mainGlobals "reached" = some (some (.ref f18))) (l18 : K.lookup f18 = some ⟨oc18, od18, .func (PySem.W.fnOf "reached" "reached" (defArgs s_reached) (defBody s_reached) (defScope s_reached) .none kV18 dc18 pm18 an18 cd18 ct18), sl18⟩) (c18 : PySem.W.codeIn K cd18 "reached" = true) (k18 : PySem.W.keepIn K (.ref f18) = true)
    (a19 : PySem.W.nsIn K mainGlobals "_law_mixed" = some (some (.ref f19))) (l19 : K.lookup f19 = some ⟨oc19, od19, .func (PySem.W.fnOf "_law_mixed" "_law_mixed" (defArgs s__law_mixed) (defBody s__law_mixed) (defScope s__law_mixed) .none kV19 dc19 pm19 an19 cd19 ct19), sl19⟩) (c19 : PySem.W.codeIn K cd19 "_law_mixed" = true) (k19 : PySem.W.keepIn K (.ref f19) = true)
    (a20 : PySem.W.nsIn K mainGlobals "_law_well" = some (some (.ref f20))) (l20 : K.lookup f20 = some ⟨oc20, od20, .func (PySem.W.fnOf "_law_well" "_law_well" (defArgs s__law_well) (defBody s__law_well) (defScope s__law_well) .none kV20 dc20 pm20 an20 cd20 ct20), sl20⟩) (c20 : PySem.W.codeIn K cd20 "_law_well" = true) (k20 : PySem.W.keepIn K (.ref f20) = true)
    (a21 : PySem.W.nsIn K mainGlobals "_law_dig" = some (some (.ref f21))) (l21 : K.lookup f21 = some ⟨oc21, od21, .func (PySem.W.fnOf "_law_dig" "_law_dig" (defArgs s__law_dig) (defBody s__law_dig) (defScope s__law_dig) .none kV21 dc21 pm21 an21 cd21 ct21), sl21⟩) (c21 : PySem.W.codeIn K cd21 "_law_dig" = true) (k21 : PySem.W.keepIn K (.ref f21) = true)
    (a22 : PySem.W.nsIn K mainGlobals "_law_things" = some (some (.ref f22))) (l22 : K.lookup f22 = some ⟨oc22, od22, .func (PySem.W.fnOf "_law_things" "_law_things" (defArgs s__law_things) (defBody s__law_things) (defScope s__law_things) .none kV22 dc22 pm22 an22 cd22 ct22), sl22⟩) (c22 : PySem.W.codeIn K cd22 "_law_things" = true) (k22 : PySem.W.keepIn K (.ref f22) = true)
    (a23 : PySem.W.nsIn K mainGlobals "_law_due" = some (some (.ref f23))) (l23 : K.lookup f23 = some ⟨oc23, od23, .func (PySem.W.fnOf "_law_due" "_law_due" (defArgs s__law_due) (defBody s__law_due) (defScope s__law_due) .none kV23 dc23 pm23 an23 cd23 ct23), sl23⟩) (c23 : PySem.W.codeIn K cd23 "_law_due" = true) (k23 : PySem.W.keepIn K (.ref f23) = true)
    (a24 : PySem.W.nsIn K mainGlobals "_law_chain_right" = some (some (.ref f24))) (l24 : K.lookup f24 = some ⟨oc24, od24, .func (PySem.W.fnOf "_law_chain_right" "_law_chain_right" (defArgs s__law_chain_right) (defBody s__law_chain_right) (defScope s__law_chain_right) .none kV24 dc24 pm24 an24 cd24 ct24), sl24⟩) (c24 : PySem.W.codeIn K cd24 "_law_chain_right" = true) (k24 : PySem.W.keepIn K (.ref f24) = true)
    (a25 : PySem.W.nsIn K mainGlobals "law" = some (some (.ref f25))) (l25 : K.lookup f25 = some ⟨oc25, od25, .func (PySem.W.fnOf "law" "law" (defArgs s_law) (defBody s_law) (defScope s_law) .none kV25 dc25 pm25 an25 cd25 ct25), sl25⟩) (c25 : PySem.W.codeIn K cd25 "law" = true) (k25 : PySem.W.keepIn K (.ref f25) = true)
    (z1 : PySem.W.nsIn K mainGlobals "len" = some none)
    (z2 : PySem.W.nsIn K mainGlobals "int" = some none)
    (z3 : PySem.W.nsIn K mainGlobals "range" = some none)
    (z4 : PySem.W.nsIn K mainGlobals "str" = some none)
    (z5 : PySem.W.nsIn K mainGlobals "isinstance" = some none)
    (z6 : PySem.W.nsIn K mainGlobals "bool" = some none)
    (z7 : PySem.W.nsIn K mainGlobals "sorted" = some none)
    (z8 : PySem.W.nsIn K mainGlobals "list" = some none)
    (z9 : PySem.W.nsIn K mainGlobals "enumerate" = some none)
    (z10 : PySem.W.nsIn K mainGlobals "dict" = some none)
    (z11 : PySem.W.nsIn K mainGlobals "min" = some none)
    (z12 : PySem.W.nsIn K mainGlobals "all" = some none)
    (z13 : PySem.W.nsIn K mainGlobals "tuple" = some none)
    (z14 : PySem.W.nsIn K mainGlobals "set" = some none)
    (z15 : PySem.W.nsIn K mainGlobals "sum" = some none)
    (z16 : PySem.W.nsIn K mainGlobals "abs" = some none) :
    ∃ fd : FuncData, (∀ (s : Shared) (v : Value), BindsTo s fd ⟨[v], []⟩ [("_law_script", v)]) ∧ ∀ base : Heap, K.In base → base.Ns mainGlobals mg → FnOk l.prog w K mg base CX0 10 fa fd ["_law_script"] (spLaw K) := by
  have e := hfa.symm.trans (PySem.W.mg_of X G a25)
  cases e
  have T : TxW K mg C_Thing C_Hall C_Held := ⟨⟨PySem.W.mg_none_of X G z1, PySem.W.mg_none_of X G z2, PySem.W.mg_none_of X G z3, PySem.W.mg_none_of X G z4, PySem.W.mg_none_of X G z5, PySem.W.mg_none_of X G z6, PySem.W.mg_none_of X G z7, PySem.W.mg_none_of X G z8, PySem.W.mg_none_of X G z9, PySem.W.mg_none_of X G z10, PySem.W.mg_none_of X G z11, PySem.W.mg_none_of X G z12, PySem.W.mg_none_of X G z13, PySem.W.mg_none_of X G z14, PySem.W.mg_none_of X G z15, ⟨.ref C_Thing, _, PySem.W.mg_of X G aC_Thing, rfl, fun _ => .ref _⟩, ⟨⟨pg_Thing, hd_Thing, po_Thing, sa_Thing⟩, DL.nF_cons nf_Thing_form (DL.nF_cons nf_Thing_number (DL.nF_cons nf_Thing_count (DL.nF_cons nf_Thing_parts (DL.nF_cons nf_Thing_own (DL.nF_cons nf_Thing_ended (DL.nF_cons nf_Thing_waits (DL.nF_nil)))))))⟩, ⟨⟨pg_Hall, hd_Hall, po_Hall, sa_Hall⟩, DL.nF_cons nf_Hall_ender (DL.nF_cons nf_Hall_many (DL.nF_cons nf_Hall_there (DL.nF_cons nf_Hall_left (DL.nF_cons nf_Hall_row (DL.nF_cons nf_Hall_lasts (DL.nF_nil))))))⟩, ⟨⟨pg_Thing, hd_Thing, po_Thing, sa_Thing⟩, iA_Thing, iB_Thing, iC_Thing, iD_Thing, it0_Thing, it1_Thing, it2_Thing, if0_Thing, if1_Thing, if2_Thing, if3_Thing⟩⟩, ⟨.ref C_Held, _, PySem.W.mg_of X G aC_Held, rfl, fun _ => .ref _⟩, ⟨⟨pg_Held, hd_Held, po_Held, sa_Held⟩, DL.nF_cons nf_Held_has (DL.nF_nil)⟩, ⟨⟨pg_Held, hd_Held, po_Held, sa_Held⟩, iA_Held, iB_Held, iC_Held, iD_Held, it0_Held, it1_Held, it2_Held, if0_Held, if1_Held, if2_Held, if3_Held⟩⟩
  have F1 := fun_mk (st := s_Thing___init__) l1 c1 k1
  have b1 := F1.binds (ps := ["self", "form", "number", "own"]) fun _ _ _ _ _ _ us hl => match us, hl with | [_, _, _, _], _ => rfl
  have F2 := fun_mk (st := s_Held___init__) l2 c2 k2
  have b2 := F2.binds (ps := ["self", "values"]) fun _ _ _ _ _ _ us hl => match us, hl with | [_, _], _ => rfl
  have F3 := fun_mk (st := s_Held_held) l3 c3 k3
  have b3 := F3.binds (ps := ["self"]) fun _ _ _ _ _ _ us hl => match us, hl with | [_], _ => rfl
  have F4 := fun_mk (st := s_Hall___init__) l4 c4 k4
  have b4 := F4.binds (ps := ["self", "ender"]) fun _ _ _ _ _ _ us hl => match us, hl with | [_, _], _ => rfl
  have F5 := fun_mk (st := s_Hall_make) l5 c5 k5
  have b5 := F5.binds (ps := ["self", "form", "own"]) fun _ _ _ _ _ _ us hl => match us, hl with | [_, _, _], _ => rfl
  have F6 := fun_mk (st := s_Hall_hold) l6 c6 k6
  have b6 := F6.binds (ps := ["self", "value"]) fun _ _ _ _ _ _ us hl => match us, hl with | [_, _], _ => rfl
  have F7 := fun_mk (st := s_Hall_let_go) l7 c7 k7
  have b7 := F7.binds (ps := ["self", "thing"]) fun _ _ _ _ _ _ us hl => match us, hl with | [_, _], _ => rfl
  have F8 := fun_mk (st := s_Hall_loose) l8 c8 k8
  have b8 := F8.binds (ps := ["self", "value"]) fun _ _ _ _ _ _ us hl => match us, hl with | [_, _], _ => rfl
  have F9 := fun_mk (st := s_Hall_empty) l9 c9 k9
  have b9 := F9.binds (ps := ["self", "thing"]) fun _ _ _ _ _ _ us hl => match us, hl with | [_, _], _ => rfl
  have F10 := fun_mk (st := s_Hall_be_gone) l10 c10 k10
  have b10 := F10.binds (ps := ["self", "thing"]) fun _ _ _ _ _ _ us hl => match us, hl with | [_, _], _ => rfl
  have F11 := fun_mk (st := s_Hall_ask_last) l11 c11 k11
  have b11 := F11.binds (ps := ["self", "thing"]) fun _ _ _ _ _ _ us hl => match us, hl with | [_, _], _ => rfl
  have F12 := fun_mk (st := s_Hall_turn) l12 c12 k12
  have b12 := F12.binds (ps := ["self", "thing"]) fun _ _ _ _ _ _ us hl => match us, hl with | [_, _], _ => rfl
  have F13 := fun_mk (st := s_Hall_work) l13 c13 k13
  have b13 := F13.binds (ps := ["self"]) fun _ _ _ _ _ _ us hl => match us, hl with | [_], _ => rfl
  have F14 := fun_mk (st := s_Hall_put) l14 c14 k14
  have b14 := F14.binds (ps := ["self", "thing", "key", "value"]) fun _ _ _ _ _ _ us hl => match us, hl with | [_, _, _, _], _ => rfl
  have F15 := fun_mk (st := s_Hall_things) l15 c15 k15
  have b15 := F15.binds (ps := ["self"]) fun _ _ _ _ _ _ us hl => match us, hl with | [_], _ => rfl
  have F16 := fun_mk (st := s_Hall_gone) l16 c16 k16
  have b16 := F16.binds (ps := ["self"]) fun _ _ _ _ _ _ us hl => match us, hl with | [_], _ => rfl
  have F17 := fun_mk (st := s_led_to) l17 c17 k17
  have b17 := F17.binds (ps := ["thing"]) fun _ _ _ _ _ _ us hl => match us, hl with | [_], _ => rfl
  have F18 := fun_mk (st := s_reached) l18 c18 k18
  have b18 := F18.binds (ps := ["hall", "roots"]) fun _ _ _ _ _ _ us hl => match us, hl with | [_, _], _ => rfl
  have F19 := fun_mk (st := s__law_mixed) l19 c19 k19
  have b19 := F19.binds (ps := ["_law_number", "_law_k"]) fun _ _ _ _ _ _ us hl => match us, hl with | [_, _], _ => rfl
  have F20 := fun_mk (st := s__law_well) l20 c20 k20
  have b20 := F20.binds (ps := ["_law_script", "_law_first"]) fun _ _ _ _ _ _ us hl => match us, hl with | [_, _], _ => rfl
  have F21 := fun_mk (st := s__law_dig) l21 c21 k21
  have b21 := F21.binds (ps := ["_law_well_here", "_law_most"]) fun _ _ _ _ _ _ us hl => match us, hl with | [_, _], _ => rfl
  have F22 := fun_mk (st := s__law_things) l22 c22 k22
  have b22 := F22.binds (ps := ["_law_well_here", "_law_hall", "_law_ways"]) fun _ _ _ _ _ _ us hl => match us, hl with | [_, _, _], _ => rfl
  have F23 := fun_mk (st := s__law_due) l23 c23 k23
  have b23 := F23.binds (ps := ["_law_ways", "_law_begins"]) fun _ _ _ _ _ _ us hl => match us, hl with | [_, _], _ => rfl
  have F24 := fun_mk (st := s__law_chain_right) l24 c24 k24
  have b24 := F24.binds (ps := ["_law_well_here", "_law_hall"]) fun _ _ _ _ _ _ us hl => match us, hl with | [_, _], _ => rfl
  have F25 := fun_mk (st := s_law) l25 c25 k25
  refine ⟨PySem.W.fnOf "law" "law" (defArgs s_law) (defBody s_law) (defScope s_law) .none kV25 dc25 pm25 an25 cd25 ct25, fun s v => .of_eq rfl, fun base _ _ => ?_⟩
  have G_mk_Thing : DL.MkDef l.prog w K mg base _ "Thing" C_Thing ["self", "form", "number", "own"] _ := ⟨f1, _, ⟨mk_Thing, a1, i1, kc_Thing⟩, ok_thinit F1 T.toTxt, PySem.W.mg_of X G aC_Thing, b1⟩
  have G_mk_Held : DL.MkDef l.prog w K mg base _ "Held" C_Held ["self", "values"] _ := ⟨f2, _, ⟨mk_Held, a2, i2, kc_Held⟩, ok_heinit F2 T, PySem.W.mg_of X G aC_Held, b2⟩
  have G_Held_held : DL.MDef l.prog w K mg base _ C_Held "held" ["self"] _ := ⟨f3, _, ok_held F3 T, ⟨a3, i3, k3⟩, b3⟩
  have G_heldN : DL.MDef l.prog w K mg base _ C_Held "held" ["self"] _ := ⟨f3, _, ok_heldN F3 T, ⟨a3, i3, k3⟩, b3⟩
  have G_mk_Hall : DL.MkDef l.prog w K mg base _ "Hall" C_Hall ["self", "ender"] _ := ⟨f4, _, ⟨mk_Hall, a4, i4, kc_Hall⟩, ok_hainit F4 T.toTxt, PySem.W.mg_of X G aC_Hall, b4⟩
  have G_Hall_make : DL.MDef l.prog w K mg base _ C_Hall "make" ["self", "form", "own"] _ := ⟨f5, _, ok_make (en := .non) F5 T.toTxt G_mk_Thing, ⟨a5, i5, k5⟩, b5⟩
  have G_Hall_hold : DL.MDef l.prog w K mg base _ C_Hall "hold" ["self", "value"] _ := ⟨f6, _, ok_hold (en := .non) F6 T.toTxt, ⟨a6, i6, k6⟩, b6⟩
  have G_Hall_let_go : DL.MDef l.prog w K mg base _ C_Hall "let_go" ["self", "thing"] _ := ⟨f7, _, ok_let_in (en := .non) F7 T.toTxt, ⟨a7, i7, k7⟩, b7⟩
  have G_Hall_loose : DL.MDef l.prog w K mg base _ C_Hall "loose" ["self", "value"] _ := ⟨f8, _, ok_loose_in F8 T.toTxt G_Hall_let_go, ⟨a8, i8, k8⟩, b8⟩
  have G_Hall_empty : DL.MDef l.prog w K mg base _ C_Hall "empty" ["self", "thing"] _ := ⟨f9, _, ok_empty F9 T.toTxt G_Hall_loose, ⟨a9, i9, k9⟩, b9⟩
  have G_Hall_be_gone : DL.MDef l.prog w K mg base _ C_Hall "be_gone" ["self", "thing"] _ := ⟨f10, _, ok_be_gone (en := .non) F10 T.toTxt, ⟨a10, i10, k10⟩, b10⟩
  have G_Hall_ask_last : DL.MDef l.prog w K mg base _ C_Hall "ask_last" ["self", "thing"] _ := ⟨f11, _, (ok_ask_no F11 T.toTxt).mono (by decide : 1 ≤ 3), ⟨a11, i11, k11⟩, b11⟩
  have G_Hall_turn : DL.MDef l.prog w K mg base _ C_Hall "turn" ["self", "thing"] _ := ⟨f12, _, ok_turn HM.askNo_ok F12 T.toTxt (by decide) G_Hall_ask_last G_Hall_be_gone G_Hall_empty, ⟨a12, i12, k12⟩, b12⟩
  have G_Hall_work : DL.MDef l.prog w K mg base _ C_Hall "work" ["self"] _ := ⟨f13, _, ok_work HM.askNo_ok F13 T.toTxt G_Hall_turn, ⟨a13, i13, k13⟩, b13⟩
  have G_let_go : DL.MDef l.prog w K mg base _ C_Hall "let_go" ["self", "thing"] _ := ⟨f7, _, ok_let_go HM.askNo_ok F7 T.toTxt G_Hall_work, ⟨a7, i7, k7⟩, b7⟩
  have G_loose : DL.MDef l.prog w K mg base _ C_Hall "loose" ["self", "value"] _ := ⟨f8, _, ok_loose F8 T.toTxt G_let_go, ⟨a8, i8, k8⟩, b8⟩
  have G_Hall_put : DL.MDef l.prog w K mg base _ C_Hall "put" ["self", "thing", "key", "value"] _ := ⟨f14, _, ok_put (by decide) F14 T.toTxt G_Hall_hold G_loose, ⟨a14, i14, k14⟩, b14⟩
  have G_Hall_things : DL.MDef l.prog w K mg base _ C_Hall "things" ["self"] _ := ⟨f15, _, ok_things (en := .non) F15 T.toTxt, ⟨a15, i15, k15⟩, b15⟩
  have G_Hall_gone : DL.MDef l.prog w K mg base _ C_Hall "gone" ["self"] _ := ⟨f16, _, ok_gone (en := .non) F16 T.toTxt, ⟨a16, i16, k16⟩, b16⟩
  have G_led_to : Def l.prog w K mg base _ "led_to" ["thing"] _ := ⟨f17, _, ok_ledto (en := .non) F17 T G_Held_held, PySem.W.mg_of X G a17, k17, b17⟩
  have G_reached : Def l.prog w K mg base _ "reached" ["hall", "roots"] _ := ⟨f18, _, ok_reached F18 T G_led_to, PySem.W.mg_of X G a18, k18, b18⟩
  have G__law_mixed : Def l.prog w K mg base _ "_law_mixed" ["_law_number", "_law_k"] _ := ⟨f19, _, ok_mixed F19, PySem.W.mg_of X G a19, k19, b19⟩
  have G__law_well : Def l.prog w K mg base _ "_law_well" ["_law_script", "_law_first"] _ := ⟨f20, _, ok_well F20 ⟨PySem.W.mg_none_of X G z1, PySem.W.mg_none_of X G z16⟩, PySem.W.mg_of X G a20, k20, b20⟩
  have G__law_dig : Def l.prog w K mg base _ "_law_dig" ["_law_well_here", "_law_most"] _ := ⟨f21, _, ok_dig F21 ⟨PySem.W.mg_none_of X G z1, PySem.W.mg_none_of X G z16⟩ G__law_mixed, PySem.W.mg_of X G a21, k21, b21⟩
  have G__law_things : Def l.prog w K mg base _ "_law_things" ["_law_well_here", "_law_hall", "_law_ways"] _ := ⟨f22, _, ok_things28 F22 T G__law_dig G_mk_Held G_Hall_make G_Hall_put, PySem.W.mg_of X G a22, k22, b22⟩
  have G__law_due : Def l.prog w K mg base _ "_law_due" ["_law_ways", "_law_begins"] _ := ⟨f23, _, ok_due F23 T, PySem.W.mg_of X G a23, k23, b23⟩
  have G__law_chain_right : Def l.prog w K mg base _ "_law_chain_right" ["_law_well_here", "_law_hall"] _ := ⟨f24, _, ok_chain F24 T G__law_dig G_Hall_make G_Hall_put G_reached, PySem.W.mg_of X G a24, k24, b24⟩
  exact law_of (ok_law F25 T G_mk_Hall G__law_well G__law_dig G__law_things G__law_due G__law_chain_right G_reached G_heldN G_Hall_gone G_Hall_things)
theorem walk {l : PySem.W.OpenLaw} {q : Program} {loose : List Str} {XP : (Str → Option Value) → Heap → Prop} {YP : World → Heap → Prop} {d : DefRec} {K : Params → PySem.W.Frag} (hn : l.most = some 63) (hdf : d.params.defaults = [])
    (hY : ∀ (w : World) (h : Heap), YP w h → (K w.params).In h)
    (F : ∀ (w : World) (mg : Str → Option Value) (fa : Addr) (h : Heap), (K w.params).In h → h.Ns mainGlobals mg → mg d.name = some (.ref fa) →
      ∃ fd : FuncData, (∀ (s : Shared) (u : Value), BindsTo s fd ⟨[u], []⟩ [("_law_script", u)]) ∧ ∀ base : Heap, (K w.params).In base → base.Ns mainGlobals mg → FnOk l.prog w (K w.params) mg base CX0 10 fa fd ["_law_script"] (spLaw (K w.params))) :
    PySem.W.WalkO q loose XP YP l.row.toRowW d [] (fun f vs => PySem.call f vs) :=
  L2.walk_of (n := 63) (k := 10) (x := "_law_script") (CX := fun _ => CX0) (sp := fun w => spLaw (K w.params)) hn (by decide) hdf ⟨rfl, by decide, by decide⟩ hY F (fun _ _ a ns hl _ hS => ⟨a, ns, rfl, hS, hl, fun _ => rfl⟩) fun _ _ _ _ _ z => z
end
end K
open PySem PySem.W PyProof.Rows
set_option maxRecDepth 100000 in
set_option maxHeartbeats 0 in
theorem PySem.Challenge.cw_snakehall_k28_reached_holds : PySem.Challenge.rw_snakehall_k28_reached.Holds := by
  w_on; o_law; k_head; (case hw => w_witness2)
  k_fill
  refine K.walk (l := PySem.Challenge.rw_snakehall_k28_reached) rfl rfl (fun w h Y => PySem.W.kIn_of Y) ?F
  case F =>
    intro w mg fa h KX G hmg
    refine' K.all_mk KX G hmg ?aC_Thing ?pg_Thing ?hd_Thing ?po_Thing ?sa_Thing ?mk_Thing ?kc_Thing ?nf_Thing_form ?nf_Thing_number ?nf_Thing_count ?nf_Thing_parts ?nf_Thing_own ?nf_Thing_ended ?nf_Thing_waits ?iA_Thing ?iB_Thing ?iC_Thing ?iD_Thing ?it0_Thing ?it1_Thing ?it2_Thing ?if0_Thing ?if1_Thing ?if2_Thing ?if3_Thing ?aC_Hall ?pg_Hall ?hd_Hall ?po_Hall ?sa_Hall ?mk_Hall ?kc_Hall ?nf_Hall_ender ?nf_Hall_many ?nf_Hall_there ?nf_Hall_left ?nf_Hall_row ?nf_Hall_lasts ?aC_Held ?pg_Held ?hd_Held ?po_Held ?sa_Held ?mk_Held ?kc_Held ?nf_Held_has ?iA_Held ?iB_Held ?iC_Held ?iD_Held ?it0_Held ?it1_Held ?it2_Held ?if0_Held ?if1_Held ?if2_Held ?if3_Held ?a1 ?i1 ?l1 ?c1 ?k1 ?a2 ?i2 ?l2 ?c2 ?k2 ?a3 ?i3 ?l3 ?c3 ?k3 ?a4 ?i4 ?l4 ?c4 ?k4 ?a5 ?i5 ?l5 ?c5 ?k5 ?a6 ?i6 ?l6 ?c6 ?k6 ?a7 ?i7 ?l7 ?c7 ?k7 ?a8 ?i8 ?l8 ?c8 ?k8 ?a9 ?i9 ?l9 ?c9 ?k9 ?a10 ?i10 ?l10 ?c10 ?k10 ?a11 ?i11 ?l11 ?c11 ?k11 ?a12 ?i12 ?l12 ?c12 ?k12 ?a13 ?i13 ?l13 ?c13 ?k13 ?a14 ?i14 ?l14 ?c14 ?k14 ?a15 ?i15 ?l15 ?c15 ?k15 ?a16 ?i16 ?l16 ?c16 ?k16 ?a17 ?l17 ?c17 ?k17 ?a18 ?l18 ?c18 ?k18 ?a19 ?l19 ?c19 ?k19 ?a20 ?l20 ?c20 ?k20 ?a21 ?l21 ?c21 ?k21 ?a22 ?l22 ?c22 ?k22 ?a23 ?l23 ?c23 ?k23 ?a24 ?l24 ?c24 ?k24 ?a25 ?l25 ?c25 ?k25 ?z1 ?z2 ?z3 ?z4 ?z5 ?z6 ?z7 ?z8 ?z9 ?z10 ?z11 ?z12 ?z13 ?z14 ?z15 ?z16
    (case aC_Thing => k_is)
    (case pg_Thing => k_is)
    (case hd_Thing => k_is)
    (case po_Thing => k_is)
    (case sa_Thing => k_is)
    (case mk_Thing => k_is)
    (case kc_Thing => k_is)
    (case nf_Thing_form => k_is)
    (case nf_Thing_number => k_is)
    (case nf_Thing_count => k_is)
    (case nf_Thing_parts => k_is)
    (case nf_Thing_own => k_is)
    (case nf_Thing_ended => k_is)
    (case nf_Thing_waits => k_is)
    (case iA_Thing => k_is)
    (case iB_Thing => k_is)
    (case iC_Thing => k_is)
    (case iD_Thing => k_is)
    (case it0_Thing => kit_is)
    (case it1_Thing => kit_is)
    (case it2_Thing => kit_is)
    (case if0_Thing => kit_is)
    (case if1_Thing => kit_is)
    (case if2_Thing => kit_is)
    (case if3_Thing => kit_is)
    (case aC_Hall => k_is)
    (case pg_Hall => k_is)
    (case hd_Hall => k_is)
    (case po_Hall => k_is)
    (case sa_Hall => k_is)
    (case mk_Hall => k_is)
    (case kc_Hall => k_is)
    (case nf_Hall_ender => k_is)
    (case nf_Hall_many => k_is)
    (case nf_Hall_there => k_is)
    (case nf_Hall_left => k_is)
    (case nf_Hall_row => k_is)
    (case nf_Hall_lasts => k_is)
    (case aC_Held => k_is)
    (case pg_Held => k_is)
    (case hd_Held => k_is)
    (case po_Held => k_is)
    (case sa_Held => k_is)
    (case mk_Held => k_is)
    (case kc_Held => k_is)
    (case nf_Held_has => k_is)
    (case iA_Held => k_is)
    (case iB_Held => k_is)
    (case iC_Held => k_is)
    (case iD_Held => k_is)
    (case it0_Held => kit_is)
    (case it1_Held => kit_is)
    (case it2_Held => kit_is)
    (case if0_Held => kit_is)
    (case if1_Held => kit_is)
    (case if2_Held => kit_is)
    (case if3_Held => kit_is)
    (case a1 => k_is)
    (case i1 => k_is)
    (case l1 => k_is)
    (case c1 => k_is)
    (case k1 => k_is)
    (case a2 => k_is)
    (case i2 => k_is)
    (case l2 => k_is)
    (case c2 => k_is)
    (case k2 => k_is)
    (case a3 => k_is)
    (case i3 => k_is)
    (case l3 => k_is)
    (case c3 => k_is)
    (case k3 => k_is)
    (case a4 => k_is)
    (case i4 => k_is)
    (case l4 => k_is)
    (case c4 => k_is)
    (case k4 => k_is)
    (case a5 => k_is)
    (case i5 => k_is)
    (case l5 => k_is)
    (case c5 => k_is)
    (case k5 => k_is)
    (case a6 => k_is)
    (case i6 => k_is)
    (case l6 => k_is)
    (case c6 => k_is)
    (case k6 => k_is)
    (case a7 => k_is)
    (case i7 => k_is)
    (case l7 => k_is)
    (case c7 => k_is)
    (case k7 => k_is)
    (case a8 => k_is)
    (case i8 => k_is)
    (case l8 => k_is)
    (case c8 => k_is)
    (case k8 => k_is)
    (case a9 => k_is)
    (case i9 => k_is)
    (case l9 => k_is)
    (case c9 => k_is)
    (case k9 => k_is)
    (case a10 => k_is)
    (case i10 => k_is)
    (case l10 => k_is)
    (case c10 => k_is)
    (case k10 => k_is)
    (case a11 => k_is)
    (case i11 => k_is)
    (case l11 => k_is)
    (case c11 => k_is)
    (case k11 => k_is)
    (case a12 => k_is)
    (case i12 => k_is)
    (case l12 => k_is)
    (case c12 => k_is)
    (case k12 => k_is)
    (case a13 => k_is)
    (case i13 => k_is)
    (case l13 => k_is)
    (case c13 => k_is)
    (case k13 => k_is)
    (case a14 => k_is)
    (case i14 => k_is)
    (case l14 => k_is)
    (case c14 => k_is)
    (case k14 => k_is)
    (case a15 => k_is)
    (case i15 => k_is)
    (case l15 => k_is)
    (case c15 => k_is)
    (case k15 => k_is)
    (case a16 => k_is)
    (case i16 => k_is)
    (case l16 => k_is)
    (case c16 => k_is)
    (case k16 => k_is)
    (case a17 => k_is)
    (case l17 => k_is)
    (case c17 => k_is)
    (case k17 => k_is)
    (case a18 => k_is)
    (case l18 => k_is)
    (case c18 => k_is)
    (case k18 => k_is)
    (case a19 => k_is)
    (case l19 => k_is)
    (case c19 => k_is)
    (case k19 => k_is)
    (case a20 => k_is)
    (case l20 => k_is)
    (case c20 => k_is)
    (case k20 => k_is)
    (case a21 => k_is)
    (case l21 => k_is)
    (case c21 => k_is)
    (case k21 => k_is)
    (case a22 => k_is)
    (case l22 => k_is)
    (case c22 => k_is)
    (case k22 => k_is)
    (case a23 => k_is)
    (case l23 => k_is)
    (case c23 => k_is)
    (case k23 => k_is)
    (case a24 => k_is)
    (case l24 => k_is)
    (case c24 => k_is)
    (case k24 => k_is)
    (case a25 => k_is)
    (case l25 => k_is)
    (case c25 => k_is)
    (case k25 => k_is)
    (case z1 => k_is)
    (case z2 => k_is)
    (case z3 => k_is)
    (case z4 => k_is)
    (case z5 => k_is)
    (case z6 => k_is)
    (case z7 => k_is)
    (case z8 => k_is)
    (case z9 => k_is)
    (case z10 => k_is)
    (case z11 => k_is)
    (case z12 => k_is)
    (case z13 => k_is)
    (case z14 => k_is)
    (case z15 => k_is)
    (case z16 => k_is)

